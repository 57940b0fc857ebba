import PyProof.Rows.All
import Wide.All
import OpenK.AllK
import Wide.FinOn
import PyProof.EqAt
import PyProof.EqKinds
import PyProof.TupleCall
import KE.KStateDown
import Lean
import HandS.ForMost
import HandS.Evl
import HandS.Steps
import HandS.Wide
import HandS.IsInst
import HandS.Defaults
import HandS.Flow
import HandS.HeadEnd
import HandS.HeadHook1
import HandS.HeadHook2
import HandS.Head0
import HandS.Head1
import HandS.Head2
import HandS.Exc
import HandS.ExcOwn
import HandS.ExcInit
import HandS.ExcField
import HandS.ExcIs
import HandS.FStr
import HandS.TryMany
import HandS.TryOnly
import HandS.HeadHook3
import HandS.HeadHook4
import KE.KExcIs
import OpenK.KCls
import HandS.Rev
import HandS.Zip
import HandS.DictComp
import HandS.Lambda
import HandS.StrMore
import HandS.More
import HandS.Conv
import PyProof.StrOps2
import PyProof.FitsStr
import HandS.SetFor
import HandS.Iter
import HandS.Nested
import HandS.SortKw
import HandS.AnyAll
import KE.KMinKey
import HandS.EndTab
import PySem.Challenge.RW_lentpages_k23_page_ins
set_option Elab.async false
set_option linter.all false
set_option maxRecDepth 100000
set_option maxHeartbeats 4000000
namespace My
open PySem PySem.Spec PyProof.Rows L2 Evl
/-! ### a def by its name -/
structure DefOk (P : Program) (w : World) (K : PySem.W.Frag) (mg : Str → Option Value) (base : Heap) (k : Nat) (x : Str) (ps : List Str) (dvs : List V) (sp : Sp) : Prop where
  ex : ∃ (f : Addr) (fd : FuncData) (ds : List Value), mg x = some (.ref f) ∧ PySem.W.keepIn K (.ref f) = true ∧ Binds K fd ps ds ∧ Vals dvs ds ∧ FnOk P w K mg base CX0 k f fd ps sp
section
variable {X : Cx} {k j : Nat} {x : Str} {ps : List Str} {dvs : List V} {sp : Sp} {p pos : Pos} {e : Expr} {es : List Expr} {t : TA}
theorem pe_callN (D : DefOk X.prog X.w X.K X.mg X.base k x ps dvs sp) (hr : Room j X.A)
    (ha : PA X (e :: es) t) (hk : k ≤ j := by decide) (hg : Gl X x := by rfl) (hdb : (x == ("__debug__" : Str)) = false := by decide) (he : starEach (e :: es) X.env = (false, eval e X.env) :: starEach es X.env := by rfl) (hpl : (backTo pos (starEach es X.env)).any (·.1) = false := by rfl) :
    PE X (.Call (.Name x p) (e :: es) [] pos) (tCall sp dvs E0 t) := by
  obtain ⟨f, fd, ds, h1, h2, h3, h4, h5⟩ := D.ex
  exact pe_call h5 (hr.mono hk) hg h1 h2 h3 h4 pass0 ha hdb he hpl
theorem pe_callN0 (D : DefOk X.prog X.w X.K X.mg X.base k x ps dvs sp) (hr : Room j X.A)
    (hk : k ≤ j := by decide) (hg : Gl X x := by rfl) (hdb : (x == ("__debug__" : Str)) = false := by decide) :
    PE X (.Call (.Name x p) [] [] pos) (tCall sp dvs E0 tNil) := by
  obtain ⟨f, fd, ds, h1, h2, h3, h4, h5⟩ := D.ex
  exact pe_call0 h5 (hr.mono hk) hg h1 h2 h3 h4 pass0 hdb
end
theorem DefOk.of {P : Program} {w : World} {K : PySem.W.Frag} {mg : Str → Option Value} {base : Heap} {k : Nat} {x : Str} {ps : List Str} {sp : Sp} {st : Stmt} {fd : FuncData} {f : Addr} (F : FunD K x x (defArgs st) (defBody st) (defScope st) [] [] f fd)
    (g : mg x = some (.ref f)) (b : Binds K fd ps []) (h : FnOk P w K mg base CX0 k f fd ps sp) : DefOk P w K mg base k x ps [] sp := ⟨f, fd, [], g, F.kp, b, .nil, h⟩
theorem FunD.ok0 {P : Program} {w : World} {K : PySem.W.Frag} {mg : Str → Option Value} {base : Heap} {x qual : Str} {params : Arguments} {body : List Stmt} {scope : Scope} {dvs : List V} {kws : List (Str × V)} {f : Addr} {fd : FuncData}
    {N ps : List Str} {k : Nat} {sp : Sp} (F : FunD K x qual params body scope dvs kws f fd) (S : FnScope N ps scope) (len : ∀ vs H Q E, sp vs H Q E → vs.length = ps.length)
    (hbody : ∀ (cdv : Value) (A : Around) (outer : List Env) (s : Shared) (H : Hp) (vs : List V) (Q : VK) (E : XK), Room k (A.deeper (envOfC qual scope s.heap.objs.size f cdv)) → sp vs H Q E →
      ∃ t, PSs (cxOf CX0 P w K mg base N qual scope f cdv A outer s H E).nox body t ∧ t { nx := fun _ H' => Q .non H', rt := Q } (start N vs) H) : FnOk P w K mg base CX0 (k + 1) f fd ps sp :=
  F.ok S len fun cdv A outer s H vs Q E hr h => by
    obtain ⟨t, h1, h2⟩ := hbody cdv A outer s H vs Q E hr h
    exact ⟨t, h1.nox, h2⟩
/-! ### the facts of a top by names -/
structure Tx (fa : List He.Fa) (fn : List He.DefD) (K : PySem.W.Frag) (mg : Str → Option Value) : Prop where
  says : He.SaysD fa fn K
  glo : ∀ x, (He.Fa.glo x).ok K = true → mg x = some (.ref (He.ga K x))
  fre : ∀ x, (He.Fa.free x).ok K = true → mg x = none
theorem Tx.mk' {fa : List He.Fa} {fn : List He.DefD} {K : PySem.W.Frag} {h : Heap} {mg : Str → Option Value} (X : K.In h) (G : h.Ns mainGlobals mg) (c : He.SaysD fa fn K) : Tx fa fn K mg :=
  ⟨c, fun _ h => He.glo_ok X G h, fun _ h => He.free_ok X G h⟩
/-! ### rules with their fragment named (within a block X.K is not seen as K) -/
def rLenQ (K : PySem.W.Frag) : List V → Hp → VK → Prop := fun xs H Q => ∃ p ys, xs = [.ref p] ∧ (SqL K H p ys ∨ SqT K H p ys) ∧ Q (.int ys.length) H
def rListQ (K : PySem.W.Frag) : List V → Hp → VK → Prop := fun xs H Q => ∃ p ys, xs = [.ref p] ∧ (SqL K H p ys ∨ SqT K H p ys) ∧ ∀ l, H l = none → Q (.ref l) (upd H l (.lst ys))
def rTupQ (K : PySem.W.Frag) : List V → Hp → VK → Prop := fun xs H Q => ∃ p ys, xs = [.ref p] ∧ ((SqL K H p ys ∧ ∀ l, H l = none → Q (.ref l) (upd H l (.tup ys))) ∨ (SqT K H p ys ∧ Q (.ref p) H))
section
variable {X : Cx} {K : PySem.W.Frag}
theorem ixL (K : PySem.W.Frag) (h : X.K = K := by rfl) : IxR X (rIxL K) := h ▸ ix_list
theorem ixT (K : PySem.W.Frag) (h : X.K = K := by rfl) : IxR X (rIxT K) := h ▸ ix_tup
theorem ixQ (K : PySem.W.Frag) (h : X.K = K := by rfl) : IxR X (rIx K) := h ▸ ix_seq
theorem inQ (K : PySem.W.Frag) (h : X.K = K := by rfl) : OpR X (compareOp .In) (rIn K false) := h ▸ op_in_seq
theorem niQ (K : PySem.W.Frag) (h : X.K = K := by rfl) : OpR X (compareOp .NotIn) (rIn K true) := h ▸ op_notIn_seq
theorem eqD (K : PySem.W.Frag) (hu : X.A.units + 64 < cLine) (h : X.K = K := by rfl) : OpR X (compareOp .Eq) (rEqD K) := h ▸ op_eqD hu
theorem neD (K : PySem.W.Frag) (hu : X.A.units + 64 < cLine) (h : X.K = K := by rfl) : OpR X (compareOp .NotEq) (rNeD K) := h ▸ op_neD hu
theorem catT (K : PySem.W.Frag) (h : X.K = K := by rfl) : OpR X (binaryOp .Add) (rCatT K) := h ▸ op_catT
theorem lenQ (K : PySem.W.Frag) (h : X.K = K := by rfl) : CallR X (.builtin "len") (rLenQ K) := h ▸ call_len_seq
theorem listQ (K : PySem.W.Frag) (h : X.K = K := by rfl) : CallR X (.type "list") (rListQ K) := h ▸ call_list_of
theorem tupQ (K : PySem.W.Frag) (h : X.K = K := by rfl) : CallR X (.type "tuple") (rTupQ K) := h ▸ call_tuple_of
theorem isiK (K : PySem.W.Frag) (h : X.K = K := by rfl) : CallR X (.builtin "isinstance") (rIsi K) := h ▸ call_isi
theorem isiTK (K : PySem.W.Frag) (h : X.K = K := by rfl) : CallR X (.builtin "isinstance") (rIsiT K) := h ▸ call_isiT
theorem sumK (K : PySem.W.Frag) (hc : X.calm = true) (h : X.K = K := by rfl) : CallR X (.builtin "sum") (rSum K) := h ▸ cr_sum hc
theorem maxK (K : PySem.W.Frag) (hc : X.calm = true) (h : X.K = K := by rfl) : CallR X (.builtin "max") (rMax K) := h ▸ cr_max hc
theorem minK (K : PySem.W.Frag) (hc : X.calm = true) (h : X.K = K := by rfl) : CallR X (.builtin "min") (rMin K) := h ▸ cr_min hc
theorem slL (K : PySem.W.Frag) (h : X.K = K := by rfl) : SlR X (rSlL K) := h ▸ sl_list
theorem slT (K : PySem.W.Frag) (h : X.K = K := by rfl) : SlR X (rSlT K) := h ▸ sl_tup
theorem pe_fldK (K : PySem.W.Frag) {e : Expr} {ta : TE} {f : Str} {pos : Pos} (he : PE X e ta) (hb : attributeBase e f X.env (eval e X.env) = eval e X.env) (h : X.K = K := by rfl) : PE X (.Attribute e f pos) (tFld K ta f) := h ▸ pe_fld he hb
theorem pt_truthK (K : PySem.W.Frag) {a : Expr} {ta : TE} (ha : PE X a ta) (he : ∀ whole, isTrue a X.env whole = (do let v ← whole; standAt a.pos; holding [v] (truthy v))) (h : X.K = K := by rfl) : PT X a (tTru K ta) := h ▸ pt_truth ha he
theorem pg_tupK (K : PySem.W.Frag) {es : List Expr} {k : Nat} {t : TGs} {n : Nat} {pos : Pos} (hc : X.calm = true) (hl : PGs X es t) (hn : (assignEach es X.env).length = n := by rfl) (hst : (assignEach es X.env).findIdx? (·.1) = none := by rfl) (h : X.K = K := by rfl) : PG X (.Tuple es k pos) (gTup K n t) := by
  subst h
  exact pg_tup hc hl hn hst
end
/-! ### further values -/
section
variable {K : PySem.W.Frag} {σ : L2.St} {H H' : Hp} {ta tb te tx : TE} {t u : TT} {x y z v : V} {r : R2}
theorem rv_pow {i j : Int} (h : CPow i j) : RV (rI CPow fun i j => .int (i ^ j.toNat)) (.int i) (.int j) H (.int (i ^ j.toNat)) := rv_I h
theorem rv_str {i j : Str} (h : i.length + j.length ≤ sizeLine) : RV (fun x y H Q => ∃ i j, x = .str i ∧ y = .str j ∧ i.length + j.length ≤ sizeLine ∧ Q (.str (i ++ j)) H) (.str i) (.str j) H (.str (i ++ j)) := fun H1 _ _ q => ⟨i, j, rfl, rfl, h, q H1 (Ex.refl H1)⟩
theorem rc_abs {i : Int} : RC (fun xs H Q => ∃ i, xs = [.int i] ∧ Q (.int (if i < 0 then -i else i)) H) [.int i] H (.int (if i < 0 then -i else i)) := fun H1 _ _ q => ⟨i, rfl, q H1 (Ex.refl H1)⟩
theorem rc_int {i : Int} : RC (fun xs H Q => (∃ i, xs = [.int i] ∧ Q (.int i) H) ∨ ∃ k, xs = [.bl k] ∧ Q (.int (if k then 1 else 0)) H) [.int i] H (.int i) := fun H1 _ _ q => .inl ⟨i, rfl, q H1 (Ex.refl H1)⟩
theorem rc_intb {k : Bool} : RC (fun xs H Q => (∃ i, xs = [.int i] ∧ Q (.int i) H) ∨ ∃ k, xs = [.bl k] ∧ Q (.int (if k then 1 else 0)) H) [.bl k] H (.int (if k then 1 else 0)) := fun H1 _ _ q => .inr ⟨k, rfl, q H1 (Ex.refl H1)⟩
theorem rc_max2 {i j : Int} : RC (fun xs H Q => ∃ i j, xs = [.int i, .int j] ∧ Q (.int (if j > i then j else i)) H) [.int i, .int j] H (.int (if j > i then j else i)) := fun H1 _ _ q => ⟨i, j, rfl, q H1 (Ex.refl H1)⟩
theorem rc_min2 {i j : Int} : RC (fun xs H Q => ∃ i j, xs = [.int i, .int j] ∧ Q (.int (if j < i then j else i)) H) [.int i, .int j] H (.int (if j < i then j else i)) := fun H1 _ _ q => ⟨i, j, rfl, q H1 (Ex.refl H1)⟩
theorem rc_lenL {p : Addr} {ys : List V} (h : SqL K H p ys) : RC (rLenQ K) [.ref p] H (.int ys.length) := fun H1 e _ q => ⟨p, ys, rfl, .inl (ex_l e h), q H1 (Ex.refl H1)⟩
theorem rc_lenT {p : Addr} {ys : List V} (h : SqT K H p ys) : RC (rLenQ K) [.ref p] H (.int ys.length) := fun H1 e _ q => ⟨p, ys, rfl, .inr (ex_t e h), q H1 (Ex.refl H1)⟩
theorem rc_isi {x c : V} {t u : Value} {b : Bool} (hc : ClsV c u) (ht : ∀ H1, Ex H H1 → TyX K H1 x t) (hk : PySem.W.kitOne K t u = some b) : RC (rIsi K) [x, c] H (.bl b) := fun H1 e _ q => ⟨x, c, t, u, b, rfl, hc, ht H1 e, hk, q H1 (Ex.refl H1)⟩
end
end My

namespace My
open PySem PySem.Spec PyProof.Rows L2 Evl
/-! ### data -/
section
variable {K : PySem.W.Frag} {H H' : Hp}
mutual
theorem dp_ex (e : Ex H H') : ∀ {v : V} {d : PyData}, Dp K H v d → Dp K H' v d
  | _, _, .non => .non
  | _, _, .bl b => .bl b
  | _, _, .int i => .int i
  | _, _, .str x => .str x
  | _, _, .lst h t => .lst (ex_l e h) (dpa_ex e t)
  | _, _, .tup h t => .tup (ex_t e h) (dpa_ex e t)
theorem dpa_ex (e : Ex H H') : ∀ {vs : List V} {ds : List PyData}, DpAll K H vs ds → DpAll K H' vs ds
  | _, _, .nil => .nil
  | _, _, .cons h t => .cons (dp_ex e h) (dpa_ex e t)
end
theorem dpa_len : ∀ {vs : List V} {ds : List PyData}, DpAll K H vs ds → vs.length = ds.length
  | _, _, .nil => rfl
  | _, _, .cons _ t => congrArg Nat.succ (dpa_len t)
theorem dpa_at : ∀ {vs : List V} {ds : List PyData} {i : Nat}, DpAll K H vs ds → (h : i < ds.length) → ∃ v, vs[i]? = some v ∧ Dp K H v ds[i]
  | _, _, 0, .cons h _, _ => ⟨_, rfl, h⟩
  | _, _, i + 1, .cons _ t, l => by
    obtain ⟨v, e, q⟩ := dpa_at (i := i) t (Nat.lt_of_succ_lt_succ l)
    exact ⟨v, e, q⟩
theorem dpa_app : ∀ {vs ws : List V} {ds es : List PyData}, DpAll K H vs ds → DpAll K H ws es → DpAll K H (vs ++ ws) (ds ++ es)
  | _, _, _, _, .nil, h => h
  | _, _, _, _, .cons a t, h => .cons a (dpa_app t h)
theorem dpa_ints : ∀ ns : List Int, DpAll K H (ns.map V.int) (ns.map PyData.int)
  | [] => .nil
  | n :: r => .cons (.int n) (dpa_ints r)
/-- nested at most so deep, no dict, no list over 40,000 items -/
def Dn : Nat → PyData → Prop
  | _, .none => True
  | _, .bool _ => True
  | _, .int _ => True
  | _, .str _ => True
  | n + 1, .list ds => ds.length ≤ 40000 ∧ ∀ d ∈ ds, Dn n d
  | n + 1, .tuple ds => ds.length ≤ 40000 ∧ ∀ d ∈ ds, Dn n d
  | _, _ => False
theorem Dn.up : ∀ {n : Nat} {d : PyData}, Dn n d → Dn (n + 1) d
  | _, .none, _ => by simp [Dn]
  | _, .bool _, _ => by simp [Dn]
  | _, .int _, _ => by simp [Dn]
  | _, .str _, _ => by simp [Dn]
  | 0, .list _, h => by simp [Dn] at h
  | 0, .tuple _, h => by simp [Dn] at h
  | n + 1, .list ds, h => by
    simp only [Dn] at h ⊢
    exact ⟨h.1, fun d hd => Dn.up (h.2 d hd)⟩
  | n + 1, .tuple ds, h => by
    simp only [Dn] at h ⊢
    exact ⟨h.1, fun d hd => Dn.up (h.2 d hd)⟩
  | 0, .dict _, h => by simp [Dn] at h
  | n + 1, .dict _, h => by simp [Dn] at h
theorem Dn.le {n m : Nat} {d : PyData} (h : Dn n d) (l : n ≤ m) : Dn m d := by
  induction l with
  | refl => exact h
  | step _ ih => exact ih.up
theorem dn_ints {ns : List Int} (h : ns.length ≤ 40000) : Dn 1 (.list (ns.map PyData.int)) := by
  simp only [Dn, List.length_map]
  refine ⟨h, fun d hd => ?_⟩
  obtain ⟨n, _, rfl⟩ := List.mem_map.mp hd
  simp [Dn]
/-! ### types -/
def tyN : PyData → String
  | .none => "NoneType"
  | .bool _ => "bool"
  | .int _ => "int"
  | .str _ => "str"
  | .list _ => "list"
  | .tuple _ => "tuple"
  | .dict _ => "dict"
theorem ty_l {a : Addr} {xs : List V} (h : SqL K H a xs) : TyX K H (.ref a) (.type "list") := by
  rcases h with (h | ⟨o, h⟩) | ⟨o, its, n, h1, h2, _⟩
  · exact .base (.lst h)
  · exact .base (.frz h)
  · exact .kList h1 h2
theorem ty_t {a : Addr} {xs : List V} (h : SqT K H a xs) : TyX K H (.ref a) (.type "tuple") := by
  rcases h with (h | ⟨o, h⟩) | ⟨o, its, n, h1, h2, _⟩
  · exact .base (.tup h)
  · exact .fTuple h
  · exact .kTuple h1 h2
theorem dp_ty {v : V} {d : PyData} (h : Dp K H v d) : TyX K H v (.type (tyN d)) := by
  cases h with
  | non => exact .base .non
  | bl b => exact .base (.bl b)
  | int i => exact .base (.int i)
  | str x => exact .base (.str x)
  | lst h _ => exact ty_l h
  | tup h _ => exact ty_t h
def isB (c t : String) : Bool := kitB t c == some true
/-- the classes that laws ask for -/
def askL : List String := ["int", "bool", "str", "list", "tuple"]
def askd (c : String) : Bool := askL.contains c
theorem kitB_all : ∀ t ∈ ["NoneType", "bool", "int", "str", "list", "tuple"], ∀ c ∈ askL, kitB t c = some (isB c t) := by decide +kernel
theorem kit_all {d : PyData} {v : V} (h : Dp K H v d) {c : String} (hc : askd c = true) : PySem.W.kitOne K (.type (tyN d)) (.type c) = some (isB c (tyN d)) := by
  have hm : c ∈ askL := by
    have h2 : askL.contains c = true := hc
    simpa using h2
  have ht : tyN d ∈ ["NoneType", "bool", "int", "str", "list", "tuple"] := by cases h <;> simp [tyN]
  exact kitB_all _ ht c hm
end
section
variable {K : PySem.W.Frag} {σ : L2.St} {H H' : Hp} {ta tb te tx : TE} {t u : TT} {x y z v : V} {d d2 : PyData}
theorem ev_isiD {c : String} (hx : Ev tx σ H v) (h : Dp K H v d) (hc : askd c = true) : Ev (tCB (rIsi K) (tCons tx (tCons (tC (.ty c)) tNil))) σ H (.bl (isB c (tyN d))) := fun H1 e Q q =>
  hx H1 e _ fun H2 e2 => ⟨v, .ty c, _, _, _, rfl, .ty c, dp_ty (dp_ex (e.trans e2) h), kit_all h hc, q H2 e2⟩
theorem ev_isiD2 {c1 c2 : String} (hx : Ev tx σ H v) (h : Dp K H v d) (h1 : askd c1 = true) (h2 : askd c2 = true) :
    Ev (tCB (rIsiT K) (tCons tx (tCons (tTup (tCons (tC (.ty c1)) (tCons (tC (.ty c2)) tNil))) tNil))) σ H (.bl (isB c1 (tyN d) || isB c2 (tyN d))) := fun H1 e Q q =>
  hx H1 e _ fun H2 e2 => ⟨by show 2 ≤ sizeLine; decide, fun p hp =>
    ⟨v, p, [.ty c1, .ty c2], .type (tyN d), [.type c1, .type c2], _, rfl, upd_same, .cons (.ty c1) (.cons (.ty c2) .nil), dp_ty (dp_ex ((e.trans e2).trans (Ex.new hp)) h), by
      refine kitAny_cons (b := isB c1 (tyN d)) (kit_all h h1) (fun e1 => ?_) (fun e1 => by rw [e1] <;> rfl)
      refine kitAny_cons (b := isB c2 (tyN d)) (kit_all h h2) (fun e2 => ?_) (fun e2 => by rw [e1, e2] <;> rfl)
      rw [e1, e2]
      exact kitAny_nil, q _ (e2.trans (Ex.new hp))⟩⟩
end
end My
namespace My
open PySem PySem.Spec PyProof.Rows L2 Evl
theorem FunD.same {K : PySem.W.Frag} {x qual : Str} {params : Arguments} {body : List Stmt} {scope : Scope} {dvs : List V} {kws : List (Str × V)} {f : Addr} {fd fd2 : FuncData} (F : FunD K x qual params body scope dvs kws f fd) (F2 : FunD K x qual params body scope dvs kws f fd2) : fd = fd2 := by
  obtain ⟨_, _, _, _, _, _, _, _, _, _, _, l1, _⟩ := F.ex
  obtain ⟨_, _, _, _, _, _, _, _, _, _, _, l2, _⟩ := F2.ex
  have e := l1.symm.trans l2
  injection e with e
  injection e with _ _ e _
  injection e
def spLaw (K : PySem.W.Frag) : Sp := fun vs H Q _ => ∃ (a : Addr) (ns : List Int), vs = [.ref a] ∧ SqL K H a (ns.map V.int) ∧ ns.length ≤ 63 ∧ ∀ H', Q (.bl true) H'
end My

namespace My
open PySem PySem.Spec PyProof.Rows L2 Evl
section
variable {K : PySem.W.Frag} {σ : L2.St} {H H' : Hp} {ta tb te tx : TE} {t u : TT} {x y z v : V} {D : Ends} {tu tw tz : TS} {g : TG}
/-- for over range(n), any n; a word B for a break -/
theorem q_forR1' {ta : TA} {j : Nat} {n : Int} (h : EvA ta σ H [.int n]) (hn : -(2 ^ 62) ≤ n ∧ n < 2 ^ 62) (Pv : Nat → L2.St → Hp → Prop) (B : L2.St → Hp → Prop) (h0 : ∀ H1, Ex H H1 → Pv 0 σ H1)
    (hs : ∀ (i : Nat) σ' H', (i : Int) < n → Pv i σ' H' → tu { D with nx := Pv (i + 1), ct := Pv (i + 1), bk := B } (σ'.set j (some (.int (i : Int)))) H') (hd : ∀ σ' H', Pv n.toNat σ' H' → B σ' H')
    (hb : ∀ σ' H', B σ' H' → tz D σ' H') : tCut (tFor (iRng1 ta) (gName j) tu) tz D σ H :=
  ⟨B, h H (Ex.refl H) _ fun H1 e => ⟨n, rfl, hn.1, hn.2, for_range (lo := 0) (n := n.toNat) Pv (h0 H1 e) (fun i σ' H' hi p => by
    have e0 : (0 : Int) + (i : Int) = (i : Int) := Int.zero_add _
    show tu { D with nx := Pv (i + 1), ct := Pv (i + 1), bk := B } (σ'.set j (some (.int ((0 : Int) + (i : Int))))) H'
    rw [e0]
    exact hs i σ' H' (by omega) p) hd⟩, hb⟩
theorem q_forR2' {ta : TA} {j : Nat} {lo n : Int} (h : EvA ta σ H [.int lo, .int n]) (hn : -(2 ^ 62) ≤ lo ∧ lo < 2 ^ 62 ∧ -(2 ^ 62) ≤ n ∧ n < 2 ^ 62) (Pv : Nat → L2.St → Hp → Prop) (B : L2.St → Hp → Prop) (h0 : ∀ H1, Ex H H1 → Pv 0 σ H1)
    (hs : ∀ (i : Nat) σ' H', lo + (i : Int) < n → Pv i σ' H' → tu { D with nx := Pv (i + 1), ct := Pv (i + 1), bk := B } (σ'.set j (some (.int (lo + (i : Int))))) H') (hd : ∀ σ' H', Pv (n - lo).toNat σ' H' → B σ' H')
    (hb : ∀ σ' H', B σ' H' → tz D σ' H') : tCut (tFor (iRng2 ta) (gName j) tu) tz D σ H :=
  ⟨B, h H (Ex.refl H) _ fun H1 e => ⟨lo, n, rfl, hn, for_range (lo := lo) (n := (n - lo).toNat) Pv (h0 H1 e) (fun i σ' H' hi p => hs i σ' H' (by omega) p) hd⟩, hb⟩
end
end My

namespace My
open PySem PySem.Spec PyProof.Rows L2 Evl
theorem isB_tab : isB "int" "NoneType" = false ∧ isB "bool" "NoneType" = false ∧ isB "str" "NoneType" = false ∧ isB "list" "NoneType" = false ∧ isB "tuple" "NoneType" = false ∧ isB "int" "bool" = true ∧ isB "bool" "bool" = true ∧ isB "str" "bool" = false ∧ isB "list" "bool" = false ∧ isB "tuple" "bool" = false ∧ isB "int" "int" = true ∧ isB "bool" "int" = false ∧ isB "str" "int" = false ∧ isB "list" "int" = false ∧ isB "tuple" "int" = false ∧ isB "int" "str" = false ∧ isB "bool" "str" = false ∧ isB "str" "str" = true ∧ isB "list" "str" = false ∧ isB "tuple" "str" = false ∧ isB "int" "list" = false ∧ isB "bool" "list" = false ∧ isB "str" "list" = false ∧ isB "list" "list" = true ∧ isB "tuple" "list" = false ∧ isB "int" "tuple" = false ∧ isB "bool" "tuple" = false ∧ isB "str" "tuple" = false ∧ isB "list" "tuple" = false ∧ isB "tuple" "tuple" = true := by decide +kernel
section
variable {K : PySem.W.Frag} {σ : L2.St} {H H' : Hp} {ta tb te tx : TE} {t u : TT} {x y z v : V} {D : Ends} {tu tw tz : TS} {g : TG}
theorem ev_isN (h : Ev ta σ H x) : Ev (tIsN ta) σ H (.bl (decide (x = .non))) := fun H1 e Q q => h H1 e _ fun H2 e2 => q H2 e2
theorem ev_notN (h : Ev ta σ H x) : Ev (tNotN ta) σ H (.bl (!decide (x = .non))) := fun H1 e Q q => h H1 e _ fun H2 e2 => q H2 e2
end
end My

namespace My
open PySem PySem.Spec PyProof.Rows L2 Evl
section
variable {K : PySem.W.Frag} {σ : L2.St} {H H' : Hp} {ta tb te tx : TE} {t u : TT} {x y z v : V} {D : Ends} {tu tw tz : TS} {g : TG}
theorem ev_lenN' {xs : List V} (ha : EvL ta σ H xs) : Ev (tCB (rLenQ K) (tCons ta tNil)) σ H (.int (xs.length : Int)) := fun H1 e Q q =>
  ha H1 e _ fun p H2 _ e2 h2 => ⟨p, xs, rfl, Or.inl (sq_of h2), q H2 e2⟩
theorem rv_ixQL {p : Addr} {xs : List V} {i : Int} (h : SqL K H p xs) (ha : atI xs i = some v) : RV (rIx K) (.ref p) (.int i) H v := fun H1 e _ q => .inl ⟨p, xs, i, v, rfl, rfl, ex_l e h, ha, q H1 (Ex.refl H1)⟩
theorem rv_ixQT {p : Addr} {xs : List V} {i : Int} (h : SqT K H p xs) (ha : atI xs i = some v) : RV (rIx K) (.ref p) (.int i) H v := fun H1 e _ q => .inr (.inl ⟨p, xs, i, v, rfl, rfl, ex_t e h, ha, q H1 (Ex.refl H1)⟩)
/-- a list or a tuple, by its kind -/
def SqB (K : PySem.W.Frag) (H : Hp) (b : Bool) (a : Addr) (xs : List V) : Prop := if b = true then SqL K H a xs else SqT K H a xs
theorem SqB.ex {b : Bool} {a : Addr} {xs : List V} (e : Ex H H') (h : SqB K H b a xs) : SqB K H' b a xs := by
  cases b with
  | true => exact ex_l e h
  | false => exact ex_t e h
theorem rv_ixB {b : Bool} {p : Addr} {xs : List V} {i : Int} (h : SqB K H b p xs) (ha : atI xs i = some v) : RV (rIx K) (.ref p) (.int i) H v := by
  cases b with
  | true => exact rv_ixQL h ha
  | false => exact rv_ixQT h ha
theorem rc_lenB {b : Bool} {p : Addr} {ys : List V} (h : SqB K H b p ys) : RC (rLenQ K) [.ref p] H (.int ys.length) := by
  cases b with
  | true => exact rc_lenL h
  | false => exact rc_lenT h
end
theorem given_none {n : Nat} {f : Nat → Bool} {v : Nat → V} : (given n f v).length = 0 ↔ ∀ i, i < n → f i = false := by
  unfold given
  rw [List.length_map, List.length_eq_zero_iff, List.filter_eq_nil_iff]
  constructor
  · intro h i hi
    have := h i (List.mem_range.mpr hi)
    simpa using this
  · intro h i hi
    rw [h i (List.mem_range.mp hi)]
    exact Bool.false_ne_true
/-- the sequences of one kind -/
def seqD (b : Bool) (ds : List PyData) : PyData := if b = true then .list ds else .tuple ds
theorem seqD_inj {b : Bool} {ds es : List PyData} : seqD b ds = seqD b es ↔ ds = es := by
  cases b <;> simp [seqD]
theorem dp_seq {K : PySem.W.Frag} {H : Hp} {b : Bool} {v : V} {ds : List PyData} (h : Dp K H v (seqD b ds)) : ∃ a xs, v = .ref a ∧ SqB K H b a xs ∧ DpAll K H xs ds := by
  cases b with
  | true =>
    cases h with
    | lst h t => exact ⟨_, _, rfl, h, t⟩
  | false =>
    cases h with
    | tup h t => exact ⟨_, _, rfl, h, t⟩
theorem dn_seq {n : Nat} {b : Bool} {ds : List PyData} (h : Dn n (seqD b ds)) : ∃ m, n = m + 1 ∧ ds.length ≤ 40000 ∧ ∀ d ∈ ds, Dn m d := by
  cases n with
  | zero => cases b <;> simp [Dn, seqD] at h
  | succ m => cases b <;> (simp [Dn, seqD] at h; exact ⟨m, rfl, h⟩)
end My

namespace My
open PySem PySem.Spec PyProof.Rows L2 Evl
/-! ### expressions whose values are data -/
section
variable {K : PySem.W.Frag}
def EvD (K : PySem.W.Frag) (te : TE) (σ : L2.St) (H : Hp) (d : PyData) : Prop := ∀ H1, Ex H H1 → ∀ Q : VK, (∀ v H2, Ex H1 H2 → Dp K H2 v d → Q v H2) → te σ H1 Q
def EvDs (K : PySem.W.Frag) (ta : TA) (σ : L2.St) (H : Hp) (ds : List PyData) : Prop := ∀ H1, Ex H H1 → ∀ Q : List V → Hp → Prop, (∀ vs H2, Ex H1 H2 → DpAll K H2 vs ds → Q vs H2) → ta σ H1 Q
/-- what a call hands back is data d, all else as it was -/
def RetD (K : PySem.W.Frag) (d : PyData) (H : Hp) (Q : VK) : Prop := ∀ v H2, Ex H H2 → Dp K H2 v d → Q v H2
/-- a call over data -/
def SpD (K : PySem.W.Frag) (sp : Sp) (ds : List PyData) (d : PyData) : Prop := ∀ vs H1, DpAll K H1 vs ds → ∀ Q : VK, RetD K d H1 Q → ∀ E : XK, sp vs H1 Q E
/-- a def that is a function of data -/
def spFn (K : PySem.W.Frag) (pre : List PyData → Prop) (f : List PyData → PyData) : Sp := fun vs H Q _ => ∃ ds, DpAll K H vs ds ∧ pre ds ∧ RetD K (f ds) H Q
/-- .. of which only a relation is told -/
def spRel (K : PySem.W.Frag) (pre : List PyData → Prop) (R : List PyData → PyData → Prop) : Sp := fun vs H Q _ => ∃ ds, DpAll K H vs ds ∧ pre ds ∧ ∀ d, R ds d → RetD K d H Q
theorem spFn_D {pre : List PyData → Prop} {f : List PyData → PyData} {ds : List PyData} (h : pre ds) : SpD K (spFn K pre f) ds (f ds) := fun vs H1 hv Q q E => ⟨ds, hv, h, q⟩
theorem RetD.go {d : PyData} {H H1 : Hp} {Q : VK} (k : RetD K d H Q) (e : Ex H H1) : RetD K d H1 Q := fun v H2 e2 h => k v H2 (e.trans e2) h
variable {σ : L2.St} {H H' : Hp} {ta tb te tx : TE} {t u : TT} {x y z v : V} {D : Ends} {tu tw tz : TS} {g : TG} {d e : PyData} {ds es : List PyData} {i j : Int} {b : Bool}
theorem EvD.mono (e : Ex H H') (h : EvD K te σ H d) : EvD K te σ H' d := fun H1 a Q q => h H1 (e.trans a) Q q
theorem dp_int (h : Dp K H v (.int i)) : v = .int i := by cases h; rfl
theorem dp_str {s : Str} (h : Dp K H v (.str s)) : v = .str s := by cases h; rfl
theorem dp_bool (h : Dp K H v (.bool b)) : v = .bl b := by cases h; rfl
theorem dp_none (h : Dp K H v .none) : v = .non := by cases h; rfl
theorem dp_list (h : Dp K H v (.list ds)) : ∃ a xs, v = .ref a ∧ SqL K H a xs ∧ DpAll K H xs ds := by
  cases h with
  | lst h t => exact ⟨_, _, rfl, h, t⟩
theorem dp_tup (h : Dp K H v (.tuple ds)) : ∃ a xs, v = .ref a ∧ SqT K H a xs ∧ DpAll K H xs ds := by
  cases h with
  | tup h t => exact ⟨_, _, rfl, h, t⟩
/-- a value that is data at H stays so -/
theorem evd_of (h : Ev te σ H v) (hd : Dp K H v d) : EvD K te σ H d := fun H1 e Q q => h H1 e Q fun H2 e2 => q v H2 e2 (dp_ex (e.trans e2) hd)
theorem evd_i (h : Ev te σ H (.int i)) : EvD K te σ H (.int i) := evd_of h (.int i)
theorem evd_b (h : Ev te σ H (.bl b)) : EvD K te σ H (.bool b) := evd_of h (.bl b)
theorem evd_s {s : Str} (h : Ev te σ H (.str s)) : EvD K te σ H (.str s) := evd_of h (.str s)
theorem evd_n (h : Ev te σ H .non) : EvD K te σ H .none := evd_of h .non
theorem EvD.toI (h : EvD K te σ H (.int i)) : Ev te σ H (.int i) := fun H1 e Q q => h H1 e Q fun v H2 e2 hd => dp_int hd ▸ q H2 e2
theorem EvD.toB (h : EvD K te σ H (.bool b)) : Ev te σ H (.bl b) := fun H1 e Q q => h H1 e Q fun v H2 e2 hd => dp_bool hd ▸ q H2 e2
theorem EvD.toS {s : Str} (h : EvD K te σ H (.str s)) : Ev te σ H (.str s) := fun H1 e Q q => h H1 e Q fun v H2 e2 hd => dp_str hd ▸ q H2 e2
theorem evd_var {n : Nat} (h : σ[n]? = some (some v)) (hd : Dp K H v d) : EvD K (tVar n) σ H d := evd_of (ev_var h) hd
theorem evd_int : EvD K (tC (.int i)) σ H (.int i) := evd_i ev_c
theorem evd_str {s : Str} : EvD K (tC (.str s)) σ H (.str s) := evd_s ev_c
theorem evd_bl : EvD K (tC (.bl b)) σ H (.bool b) := evd_b ev_c
theorem evd_non : EvD K (tC .non) σ H .none := evd_n ev_c
theorem evds_nil : EvDs K tNil σ H [] := fun H1 _ Q q => q [] H1 (Ex.refl H1) .nil
theorem evds_cons {tr : TA} (h : EvD K te σ H d) (hr : EvDs K tr σ H ds) : EvDs K (tCons te tr) σ H (d :: ds) := fun H1 e Q q =>
  h H1 e _ fun v H2 e2 hv => hr H2 (e.trans e2) _ fun vs H3 e3 hvs => q _ H3 (e2.trans e3) (.cons (dp_ex e3 hv) hvs)
theorem evd_call {sp : Sp} {E : XK} {ta : TA} (h : EvDs K ta σ H ds) (hs : SpD K sp ds d) : EvD K (tCall sp [] E ta) σ H d := fun H1 e Q q =>
  h H1 e _ fun vs H2 e2 hv => by
    rw [List.append_nil]
    exact hs vs H2 hv Q (fun v H3 e3 h3 => q v H3 (e2.trans e3) h3) E
theorem evd_tup {ta : TA} (h : EvDs K ta σ H ds) (hl : ds.length ≤ 100000) : EvD K (tTup ta) σ H (.tuple ds) := fun H1 e Q q =>
  h H1 e _ fun vs H2 e2 hv => ⟨by rw [dpa_len hv]; exact sz_of hl, fun p hp => q _ _ (e2.trans (Ex.new hp)) (.tup (st_of upd_same) (dpa_ex (Ex.new hp) hv))⟩
theorem evd_lst {ta : TA} (h : EvDs K ta σ H ds) (hl : ds.length ≤ 100000) : EvD K (tLst ta) σ H (.list ds) := fun H1 e Q q =>
  h H1 e _ fun vs H2 e2 hv => ⟨by rw [dpa_len hv]; exact sz_of hl, fun p hp => q _ _ (e2.trans (Ex.new hp)) (.lst (sq_of upd_same) (dpa_ex (Ex.new hp) hv))⟩
/-- the item at an int place -/
theorem dpa_atI {vs : List V} (h : DpAll K H vs ds) (ha : atI ds i = some d) : ∃ v, atI vs i = some v ∧ Dp K H v d := by
  obtain ⟨n, hn, hd⟩ := Option.bind_eq_some_iff.mp (show (ixN ds.length i).bind (fun j => ds[j]?) = some d from ha)
  obtain ⟨hlt, he⟩ := List.getElem?_eq_some_iff.mp hd
  obtain ⟨v, hv, hp⟩ := dpa_at h hlt
  refine ⟨v, ?_, he ▸ hp⟩
  show (ixN vs.length i).bind (fun j => vs[j]?) = some v
  rw [dpa_len h, hn]
  exact hv
theorem evd_ixL (ha : EvD K ta σ H (.list ds)) (hb : Ev tb σ H (.int i)) (h : atI ds i = some d) : EvD K (tOp (rIxL K) ta tb) σ H d := fun H1 e Q q =>
  ha H1 e _ fun v H2 e2 hv => hb H2 (e.trans e2) _ fun H3 e3 => by
    obtain ⟨a, xs, rfl, hs, hx⟩ := dp_list hv
    obtain ⟨w, hw, hp⟩ := dpa_atI hx h
    exact ⟨a, xs, i, w, rfl, rfl, ex_l e3 hs, hw, q w H3 (e2.trans e3) (dp_ex e3 hp)⟩
theorem evd_ixT (ha : EvD K ta σ H (.tuple ds)) (hb : Ev tb σ H (.int i)) (h : atI ds i = some d) : EvD K (tOp (rIxT K) ta tb) σ H d := fun H1 e Q q =>
  ha H1 e _ fun v H2 e2 hv => hb H2 (e.trans e2) _ fun H3 e3 => by
    obtain ⟨a, xs, rfl, hs, hx⟩ := dp_tup hv
    obtain ⟨w, hw, hp⟩ := dpa_atI hx h
    exact ⟨a, xs, i, w, rfl, rfl, ex_t e3 hs, hw, q w H3 (e2.trans e3) (dp_ex e3 hp)⟩
theorem ev_lenD (ha : EvD K ta σ H (.list ds)) : Ev (tCB (rLenQ K) (tCons ta tNil)) σ H (.int (ds.length : Int)) := fun H1 e Q q =>
  ha H1 e _ fun v H2 e2 hv => by
    obtain ⟨a, xs, rfl, hs, hx⟩ := dp_list hv
    refine ⟨a, xs, rfl, .inl hs, ?_⟩
    rw [dpa_len hx]
    exact q H2 e2
theorem ev_lenDT (ha : EvD K ta σ H (.tuple ds)) : Ev (tCB (rLenQ K) (tCons ta tNil)) σ H (.int (ds.length : Int)) := fun H1 e Q q =>
  ha H1 e _ fun v H2 e2 hv => by
    obtain ⟨a, xs, rfl, hs, hx⟩ := dp_tup hv
    refine ⟨a, xs, rfl, .inr hs, ?_⟩
    rw [dpa_len hx]
    exact q H2 e2
theorem dpa_drop : ∀ {vs : List V} {ds : List PyData} (n : Nat), DpAll K H vs ds → DpAll K H (vs.drop n) (ds.drop n)
  | _, _, 0, h => h
  | _, _, _ + 1, .nil => .nil
  | _, _, n + 1, .cons _ t => dpa_drop n t
theorem dpa_take : ∀ {vs : List V} {ds : List PyData} (n : Nat), DpAll K H vs ds → DpAll K H (vs.take n) (ds.take n)
  | _, _, 0, _ => .nil
  | _, _, _ + 1, .nil => .nil
  | _, _, n + 1, .cons h t => .cons h (dpa_take n t)
def cutD (xs : List PyData) (lo hi : Option Int) : List PyData := (xs.drop (HT.sIx xs.length 0 lo)).take (HT.sIx xs.length xs.length hi - HT.sIx xs.length 0 lo)
theorem dpa_cut {vs : List V} {lo hi : Option Int} (h : DpAll K H vs ds) : DpAll K H (cutV vs lo hi) (cutD ds lo hi) := by
  unfold cutV cutD
  rw [dpa_len h]
  exact dpa_take _ (dpa_drop _ h)
theorem evd_slL {tl th : TO} {lo hi : Option Int} (h : EvD K te σ H (.list ds)) (h1 : EvO tl σ H lo) (h2 : EvO th σ H hi) : EvD K (tSl (rSlL K) te tl th) σ H (.list (cutD ds lo hi)) := fun H0 e Q q =>
  h H0 e _ fun v H1 e1 hv => h1 H1 (e.trans e1) _ fun H2 e2 => h2 H2 ((e.trans e1).trans e2) _ fun H3 e3 => by
    obtain ⟨a, xs, rfl, hs, hx⟩ := dp_list hv
    refine ⟨a, xs, rfl, ex_l (e2.trans e3) hs, fun p hp => q _ _ (((e1.trans e2).trans e3).trans (Ex.new hp)) (.lst (sq_of upd_same) ?_)⟩
    exact dpa_ex (Ex.new hp) (dpa_cut (dpa_ex (e2.trans e3) hx))
/-- ==, != of data -/
theorem ev_eqD (ha : EvD K ta σ H d) (hb : EvD K tb σ H e) (sd : SeqAt.shaped d = true) (se : SeqAt.shaped e = true) : Ev (tOp (rEqD K) ta tb) σ H (.bl (PyData.eqv d e)) := fun H1 x Q q =>
  ha H1 x _ fun v H2 e2 hv => hb H2 (x.trans e2) _ fun u H3 e3 hu => ⟨d, e, dp_ex e3 hv, hu, sd, se, q H3 (e2.trans e3)⟩
theorem ev_neD (ha : EvD K ta σ H d) (hb : EvD K tb σ H e) (sd : SeqAt.shaped d = true) (se : SeqAt.shaped e = true) : Ev (tOp (rNeD K) ta tb) σ H (.bl (!PyData.eqv d e)) := fun H1 x Q q =>
  ha H1 x _ fun v H2 e2 hv => hb H2 (x.trans e2) _ fun u H3 e3 hu => ⟨d, e, dp_ex e3 hv, hu, sd, se, q H3 (e2.trans e3)⟩
def isNone : PyData → Bool
  | .none => true
  | _ => false
theorem isNone_iff {d : PyData} : isNone d = true ↔ d = .none := by cases d <;> simp [isNone]
theorem ev_isND (ha : EvD K ta σ H d) : Ev (tIsN ta) σ H (.bl (isNone d)) := fun H1 x Q q =>
  ha H1 x _ fun v H2 e2 hv => by
    have : decide (v = .non) = isNone d := by cases hv <;> simp [isNone]
    rw [this]
    exact q H2 e2
theorem ev_notND (ha : EvD K ta σ H d) : Ev (tNotN ta) σ H (.bl (!isNone d)) := fun H1 x Q q =>
  ha H1 x _ fun v H2 e2 hv => by
    have : decide (v = .non) = isNone d := by cases hv <;> simp [isNone]
    rw [this]
    exact q H2 e2
/-- a new list of data -/
def EvLD (K : PySem.W.Frag) (te : TE) (σ : L2.St) (H : Hp) (ds : List PyData) : Prop := ∀ H1, Ex H H1 → ∀ Q : VK, (∀ p vs H2, H1 p = none → Ex H1 H2 → H2 p = some (.lst vs) → DpAll K H2 vs ds → Q (.ref p) H2) → te σ H1 Q
theorem EvLD.toD (h : EvLD K te σ H ds) : EvD K te σ H (.list ds) := fun H1 e Q q => h H1 e Q fun p vs H2 _ e2 h2 hd => q _ H2 e2 (.lst (sq_of h2) hd)
theorem eld_lst {ta : TA} (h : EvDs K ta σ H ds) (hl : ds.length ≤ 100000) : EvLD K (tLst ta) σ H ds := fun H1 e Q q =>
  h H1 e _ fun vs H2 e2 hv => ⟨by rw [dpa_len hv]; exact sz_of hl, fun p hp => q p vs _ (fresh_back e2 hp) (e2.trans (Ex.new hp)) upd_same (dpa_ex (Ex.new hp) hv)⟩
theorem eld_list (ha : EvD K ta σ H (.list ds)) : EvLD K (tCB (rListQ K) (tCons ta tNil)) σ H ds := fun H1 e Q q =>
  ha H1 e _ fun v H2 e2 hv => by
    obtain ⟨a, xs, rfl, hs, hx⟩ := dp_list hv
    exact ⟨a, xs, rfl, .inl hs, fun l hl => q l xs _ (fresh_back e2 hl) (e2.trans (Ex.new hl)) upd_same (dpa_ex (Ex.new hl) hx)⟩
theorem eld_listT (ha : EvD K ta σ H (.tuple ds)) : EvLD K (tCB (rListQ K) (tCons ta tNil)) σ H ds := fun H1 e Q q =>
  ha H1 e _ fun v H2 e2 hv => by
    obtain ⟨a, xs, rfl, hs, hx⟩ := dp_tup hv
    exact ⟨a, xs, rfl, .inr hs, fun l hl => q l xs _ (fresh_back e2 hl) (e2.trans (Ex.new hl)) upd_same (dpa_ex (Ex.new hl) hx)⟩
theorem eld_sl {tl th : TO} {lo hi : Option Int} (h : EvD K te σ H (.list ds)) (h1 : EvO tl σ H lo) (h2 : EvO th σ H hi) : EvLD K (tSl (rSlL K) te tl th) σ H (cutD ds lo hi) := fun H0 e Q q =>
  h H0 e _ fun v H1 e1 hv => h1 H1 (e.trans e1) _ fun H2 e2 => h2 H2 ((e.trans e1).trans e2) _ fun H3 e3 => by
    obtain ⟨a, xs, rfl, hs, hx⟩ := dp_list hv
    refine ⟨a, xs, rfl, ex_l (e2.trans e3) hs, fun p hp => q p _ _ (fresh_back ((e1.trans e2).trans e3) hp) (((e1.trans e2).trans e3).trans (Ex.new hp)) upd_same ?_⟩
    exact dpa_ex (Ex.new hp) (dpa_cut (dpa_ex (e2.trans e3) hx))
/-! ### statements -/
theorem sd_asg {i : Nat} (h : EvD K te σ H d) (k : ∀ v H1, Ex H H1 → Dp K H1 v d → D.nx (σ.set i (some v)) H1) : tAsg te (gName i) D σ H := h H (Ex.refl H) _ fun v H1 e hv => k v H1 e hv
theorem qd_asg {i : Nat} (h : EvD K te σ H d) (k : ∀ v H1, Ex H H1 → Dp K H1 v d → tz D (σ.set i (some v)) H1) : tSeq (tAsg te (gName i)) tz D σ H := h H (Ex.refl H) _ fun v H1 e hv => k v H1 e hv
theorem sd_ret (h : EvD K te σ H d) (k : RetD K d H D.rt) : tRet te D σ H := h H (Ex.refl H) _ k
theorem sl_asg {i : Nat} (h : EvLD K te σ H ds) (k : ∀ p vs H1, H p = none → Ex H H1 → H1 p = some (.lst vs) → DpAll K H1 vs ds → D.nx (σ.set i (some (.ref p))) H1) : tAsg te (gName i) D σ H := h H (Ex.refl H) _ fun p vs H1 hp e h1 hd => k p vs H1 hp e h1 hd
theorem ql_asg {i : Nat} (h : EvLD K te σ H ds) (k : ∀ p vs H1, H p = none → Ex H H1 → H1 p = some (.lst vs) → DpAll K H1 vs ds → tz D (σ.set i (some (.ref p))) H1) : tSeq (tAsg te (gName i)) tz D σ H := h H (Ex.refl H) _ fun p vs H1 hp e h1 hd => k p vs H1 hp e h1 hd
/-- l.append(e), the list l at H -/
theorem qd_app {l : Addr} {xs : List V} (hl : H l = some (.lst xs)) (ha : Ev ta σ H (.ref l)) (h : EvD K te σ H d) (hz : xs.length < 100000) (k : ∀ v H1, Ex H H1 → Dp K H1 v d → tz D σ (upd H1 l (.lst (xs ++ [v])))) :
    tSeq (tDrop (tBM K "list" rAppend ta (tCons te tNil))) tz D σ H := ha H (Ex.refl H) _ fun H1 e1 =>
  ⟨Or.inl ⟨rfl, xs, sq_of (e1 l _ hl)⟩, h H1 e1 _ fun v H2 e2 hv => ⟨l, xs, v, rfl, rfl, e2 l _ (e1 l _ hl), sz_lt hz, k v H2 (e1.trans e2) hv⟩⟩
theorem sd_app {l : Addr} {xs : List V} (hl : H l = some (.lst xs)) (ha : Ev ta σ H (.ref l)) (h : EvD K te σ H d) (hz : xs.length < 100000) (k : ∀ v H1, Ex H H1 → Dp K H1 v d → D.nx σ (upd H1 l (.lst (xs ++ [v])))) :
    tDrop (tBM K "list" rAppend ta (tCons te tNil)) D σ H := ha H (Ex.refl H) _ fun H1 e1 =>
  ⟨Or.inl ⟨rfl, xs, sq_of (e1 l _ hl)⟩, h H1 e1 _ fun v H2 e2 hv => ⟨l, xs, v, rfl, rfl, e2 l _ (e1 l _ hl), sz_lt hz, k v H2 (e1.trans e2) hv⟩⟩
end
/-- all but the objects at these places is as it was -/
def ExO (L : List Addr) (H H' : Hp) : Prop := ∀ a o, a ∉ L → H a = some o → H' a = some o
theorem ExO.refl (L : List Addr) (H : Hp) : ExO L H H := fun _ _ _ h => h
theorem ExO.trans {L : List Addr} {H H1 H2 : Hp} (a : ExO L H H1) (b : ExO L H1 H2) : ExO L H H2 := fun x o n h => b x o n (a x o n h)
theorem ExO.of {L : List Addr} {H H' : Hp} (e : Ex H H') : ExO L H H' := fun a o _ h => e a o h
theorem ExO.upd {L : List Addr} {H H' : Hp} {p : Addr} {o : HO} (e : ExO L H H') (hp : p ∈ L) : ExO L H (L2.upd H' p o) := fun a u n h => by
  rw [upd_ne (fun z => n (by rw [z]; exact hp))]
  exact e a u n h
/-- what was not there at all may change -/
theorem ExO.ex {L : List Addr} {H0 H H' : Hp} (e0 : Ex H0 H) (e : ExO L H H') (hn : ∀ p ∈ L, H0 p = none) : Ex H0 H' := fun a o h =>
  e a o (fun hm => by rw [hn a hm] at h; cases h) (e0 a o h)
end My

namespace My
open PySem PySem.Spec PyProof.Rows L2 Evl
section
variable {K : PySem.W.Frag} {σ : L2.St} {H H' : Hp} {ta tb te tx : TE} {t u : TT} {x y z v : V} {D : Ends} {tu tw tz : TS} {g : TG} {d e : PyData} {ds es : List PyData} {i j : Int} {b : Bool}
/-- a call whose first argument is a new list -/
theorem ev_callL {sp : Sp} {E : XK} {tr : TA} {xs vs : List V} (h : EvL te σ H xs) (hr : EvA tr σ H vs) (hs : ∀ p H1, Ex H H1 → H1 p = some (.lst xs) → SpV sp (.ref p :: vs) H1 z) : Ev (tCall sp [] E (tCons te tr)) σ H z := fun H1 e Q q =>
  h H1 e _ fun p H2 hp e2 h2 => hr H2 (e.trans e2) _ fun H3 e3 => by
    show sp ((V.ref p :: vs) ++ []) H3 Q E
    rw [List.append_nil]
    exact hs p H3 ((e.trans e2).trans e3) (e3 _ _ h2) H3 (Ex.refl H3) Q (fun H4 e4 => q H4 ((e2.trans e3).trans e4)) E
theorem dpa_strs : ∀ ws : List Str, DpAll K H (ws.map V.str) (ws.map PyData.str)
  | [] => .nil
  | n :: r => .cons (.str n) (dpa_strs r)
theorem dn_strs {ws : List Str} {n : Nat} (h : ws.length ≤ 40000) : Dn (n + 1) (.list (ws.map PyData.str)) := by
  simp only [Dn, List.length_map]
  refine ⟨h, fun d hd => ?_⟩
  obtain ⟨x, _, rfl⟩ := List.mem_map.mp hd
  simp [Dn]
theorem dp_strs {a : Addr} {ws : List Str} (h : SqL K H a (ws.map V.str)) : Dp K H (.ref a) (.list (ws.map PyData.str)) := .lst h (dpa_strs ws)
theorem dp_ints {a : Addr} {ns : List Int} (h : SqL K H a (ns.map V.int)) : Dp K H (.ref a) (.list (ns.map PyData.int)) := .lst h (dpa_ints ns)
theorem q_whenF (h : EvT t σ H false) (k : ∀ H1, Ex H H1 → tz D σ H1) : tSeq (tIfS t tu tNext) tz D σ H := q_when (b := false) h (fun z => nomatch z) fun _ H1 e => k H1 e
theorem s_whenF (h : EvT t σ H false) (k : ∀ H1, Ex H H1 → D.nx σ H1) : tIfS t tu tNext D σ H := s_when (b := false) h (fun z => nomatch z) fun _ H1 e => k H1 e
theorem et_notT (h : EvT t σ H true) : EvT (tNot t) σ H false := et_not h
/-- for over a list that stands, behind it a word B -/
theorem q_forL' {a : Addr} {xs : List V} {tl : TE} (h : Ev tl σ H (.ref a)) (hx : SqL K H a xs) (Pv : Nat → L2.St → Hp → Prop) (B : L2.St → Hp → Prop) (h0 : ∀ H1, Ex H H1 → Pv 0 σ H1) (hl : ∀ i σ' H', i ≤ xs.length → Pv i σ' H' → SqL K H' a xs)
    (hs : ∀ i x σ' H', xs[i]? = some x → Pv i σ' H' → g x σ' H' fun σ2 H2 => tu { D with nx := Pv (i + 1), ct := Pv (i + 1), bk := B } σ2 H2) (hd : ∀ σ' H', Pv xs.length σ' H' → B σ' H')
    (hb : ∀ σ' H', B σ' H' → tz D σ' H') : tCut (tFor (iList K tl) g tu) tz D σ H :=
  ⟨B, h H (Ex.refl H) _ fun H1 e => ⟨a, rfl, ⟨xs, ex_l e hx⟩, for_list Pv (h0 H1 e) hl hs hd⟩, hb⟩
/-- .. over what an expression gives -/
theorem q_forD' {tl : TE} (h : EvD K tl σ H (.list ds)) (Pv : Addr → List V → Nat → L2.St → Hp → Prop) (B : L2.St → Hp → Prop) (h0 : ∀ a vs H1, Ex H H1 → SqL K H1 a vs → DpAll K H1 vs ds → Pv a vs 0 σ H1) (hl : ∀ a vs i σ' H', i ≤ vs.length → Pv a vs i σ' H' → SqL K H' a vs)
    (hs : ∀ a vs i x σ' H', vs[i]? = some x → Pv a vs i σ' H' → g x σ' H' fun σ2 H2 => tu { D with nx := Pv a vs (i + 1), ct := Pv a vs (i + 1), bk := B } σ2 H2) (hd : ∀ a vs σ' H', Pv a vs vs.length σ' H' → B σ' H')
    (hb : ∀ σ' H', B σ' H' → tz D σ' H') : tCut (tFor (iList K tl) g tu) tz D σ H :=
  ⟨B, h H (Ex.refl H) _ fun v H1 e hv => by
    obtain ⟨a, vs, rfl, hs2, hx⟩ := dp_list hv
    exact ⟨a, rfl, ⟨vs, hs2⟩, for_list (Pv a vs) (h0 a vs H1 e hs2 hx) (hl a vs) (hs a vs) (hd a vs)⟩, hb⟩
end
end My
namespace My
open PySem PySem.Spec PyProof.Rows L2 Evl
section
variable {K : PySem.W.Frag} {σ : L2.St} {H H' : Hp} {ta tb te tx ti t1 t2 : TE} {t u : TT} {x y z v : V} {D : Ends} {tu tw tz : TS} {g : TG} {d e : PyData} {ds es : List PyData} {i j : Int} {b : Bool}
/-- one of two new lists, by a place -/
theorem el_two {xs x1 x2 : List V} (h1 : EvL t1 σ H x1) (h2 : EvL t2 σ H x2) (hi : Ev ti σ H (.int i)) (hc : (i = 0 ∧ xs = x1) ∨ (i = 1 ∧ xs = x2)) : EvL (tOp (rIxL K) (tLst (tCons t1 (tCons t2 tNil))) ti) σ H xs := fun H1 e Q q =>
  h1 H1 e _ fun p1 H2 n1 e2 l1 => h2 H2 (e.trans e2) _ fun p2 H3 n2 e3 l2 => ⟨by show 2 ≤ sizeLine; decide, fun p hp => by
    have E3 := (e2.trans e3).trans (Ex.new (o := .lst [.ref p1, .ref p2]) hp)
    refine hi _ (e.trans E3) _ fun H4 e4 => ?_
    have a1 : H4 p1 = some (.lst x1) := e4 _ _ ((Ex.new hp) _ _ (e3 _ _ l1))
    have a2 : H4 p2 = some (.lst x2) := e4 _ _ ((Ex.new hp) _ _ l2)
    rcases hc with ⟨rfl, rfl⟩ | ⟨rfl, rfl⟩
    · exact ⟨p, [.ref p1, .ref p2], 0, .ref p1, rfl, rfl, sq_of (e4 _ _ upd_same), rfl, q p1 H4 n1 (E3.trans e4) a1⟩
    · exact ⟨p, [.ref p1, .ref p2], 1, .ref p2, rfl, rfl, sq_of (e4 _ _ upd_same), rfl, q p2 H4 (fresh_back e2 n2) (E3.trans e4) a2⟩⟩
theorem q_forNL' {xs : List V} {tl : TE} (h : EvL tl σ H xs) (Pv : Addr → Nat → L2.St → Hp → Prop) (B : L2.St → Hp → Prop) (h0 : ∀ p H1, H p = none → Ex H H1 → H1 p = some (.lst xs) → Pv p 0 σ H1) (hl : ∀ p i σ' H', i ≤ xs.length → Pv p i σ' H' → SqL K H' p xs)
    (hs : ∀ p i x σ' H', xs[i]? = some x → Pv p i σ' H' → g x σ' H' fun σ2 H2 => tu { D with nx := Pv p (i + 1), ct := Pv p (i + 1), bk := B } σ2 H2) (hd : ∀ p σ' H', Pv p xs.length σ' H' → B σ' H')
    (hb : ∀ σ' H', B σ' H' → tz D σ' H') : tCut (tFor (iList K tl) g tu) tz D σ H :=
  ⟨B, h H (Ex.refl H) _ fun p H1 hp e h1 => ⟨p, rfl, ⟨xs, sq_of h1⟩, for_list (Pv p) (h0 p H1 hp e h1) (hl p) (hs p) (hd p)⟩, hb⟩
end
end My

namespace My
open PySem PySem.Spec PyProof.Rows L2 Evl
/-! ### classes by their names -/
structure MkOk (P : Program) (w : World) (K : PySem.W.Frag) (mg : Str → Option Value) (base : Heap) (k : Nat) (x : Str) (C : Addr) (ps : List Str) (dvs : List V) (sp : Sp) : Prop where
  ex : ∃ (f : Addr) (fd : FuncData) (ds : List Value), mg x = some (.ref C) ∧ Mk K C f ∧ Binds K fd ps ds ∧ Vals dvs ds ∧ FnOk P w K mg base CX0 k f fd ps sp
structure MethOk (P : Program) (w : World) (K : PySem.W.Frag) (mg : Str → Option Value) (base : Heap) (CX : CXT) (k : Nat) (C : Addr) (m : Str) (ps : List Str) (dvs : List V) (sp : Sp) : Prop where
  cls : Cls K C
  ex : ∃ (f : Addr) (fd : FuncData) (ds : List Value), Meth K C m f ∧ Binds K fd ps ds ∧ Vals dvs ds ∧ FnOk P w K mg base CX k f fd ps sp
structure DefOkX (P : Program) (w : World) (K : PySem.W.Frag) (mg : Str → Option Value) (base : Heap) (k : Nat) (x : Str) (ps : List Str) (sp : Sp) : Prop where
  ex : ∃ (f : Addr) (fd : FuncData), mg x = some (.ref f) ∧ PySem.W.keepIn K (.ref f) = true ∧ Binds K fd ps [] ∧ FnOk P w K mg base (L2.CX P w) k f fd ps sp
/-- o.m(..) that may raise: E at the slots -/
def tMethS (C : Addr) (m : Str) (sp : Sp) (E : L2.St → XK) (ta : TE) (t : TA) : TE := fun σ H Q => ta σ H fun x H1 => ∃ a dx fs, x = .ref a ∧ H1 a = some (.ins C dx fs) ∧ fs.lookup m = none ∧
  t σ H1 fun vs H2 => sp (x :: vs) H2 Q (E σ)
section
variable {X : Cx} {k j : Nat} {x m : Str} {C : Addr} {ps : List Str} {dvs : List V} {sp : Sp} {p pos apos : Pos} {e o : Expr} {es : List Expr} {ta : TE} {t : TA} {W : WX}
theorem pe_makeN (D : MkOk X.prog X.w X.K X.mg X.base k x C ps dvs sp) (hr : Room j X.A) (ha : PA X (e :: es) t) (hk : k + 1 ≤ j := by decide) (hg : Gl X x := by rfl) (hdb : (x == ("__debug__" : Str)) = false := by decide)
    (he : starEach (e :: es) X.env = (false, eval e X.env) :: starEach es X.env := by rfl) (hpl : (backTo pos (starEach es X.env)).any (·.1) = false := by rfl) : PE X (.Call (.Name x p) (e :: es) [] pos) (tMake C sp dvs E0 t) := by
  obtain ⟨f, fd, ds, h1, h2, h3, h4, h5⟩ := D.ex
  exact pe_make h2 h5 (hr.mono hk) hg h1 h3 h4 pass0 ha hdb he hpl
theorem pe_makeN0 (D : MkOk X.prog X.w X.K X.mg X.base k x C ps dvs sp) (hr : Room j X.A) (hk : k + 1 ≤ j := by decide) (hg : Gl X x := by rfl) (hdb : (x == ("__debug__" : Str)) = false := by decide) : PE X (.Call (.Name x p) [] [] pos) (tMake C sp dvs E0 tNil) := by
  obtain ⟨f, fd, ds, h1, h2, h3, h4, h5⟩ := D.ex
  exact pe_make0 h2 h5 (hr.mono hk) hg h1 h3 h4 pass0 hdb
theorem pe_methN {pl : Sem Bool} (D : MethOk X.prog X.w X.K X.mg X.base CX0 k C m ps dvs sp) (ho : PE X o ta) (hr : Room j X.A) (ha : PA X (e :: es) t) (hk : k ≤ j := by decide)
    (hst : starEach (e :: es) X.env = (false, eval e X.env) :: starEach es X.env := by rfl) (hpl : (backTo pos (starEach es X.env)).any (·.1) = false := by rfl)
    (ht : eval (.Call (.Attribute o m apos) (e :: es) [] pos) X.env = (do
      let ov ← eval o X.env
      standAt apos.atName
      let (f, first) ← holding [ov] (getMethod ov m pl)
      callWith pos f first (backTo pos (starEach (e :: es) X.env)) (backToKw pos (keywordEach [] X.env))) := by rfl) :
    PE X (.Call (.Attribute o m apos) (e :: es) [] pos) (tMeth C m sp dvs E0 ta t) := by
  obtain ⟨f, fd, ds, h1, h2, h3, h4⟩ := D.ex
  exact pe_meth ho D.cls h1 h4 (hr.mono hk) h2 h3 pass0 ha hst hpl ht
theorem pe_methN0 {pl : Sem Bool} (D : MethOk X.prog X.w X.K X.mg X.base CX0 k C m ps dvs sp) (ho : PE X o ta) (hr : Room j X.A) (hk : k ≤ j := by decide)
    (ht : eval (.Call (.Attribute o m apos) [] [] pos) X.env = (do
      let ov ← eval o X.env
      standAt apos.atName
      let (f, first) ← holding [ov] (getMethod ov m pl)
      callWith pos f first (backTo pos (starEach [] X.env)) (backToKw pos (keywordEach [] X.env))) := by rfl) :
    PE X (.Call (.Attribute o m apos) [] [] pos) (tMeth C m sp dvs E0 ta tNil) := by
  obtain ⟨f, fd, ds, h1, h2, h3, h4⟩ := D.ex
  exact pe_meth0 ho D.cls h1 h4 (hr.mono hk) h2 h3 pass0 ht
theorem pe_callNX (D : DefOkX X.prog X.w X.K X.mg X.base k x ps sp) (hr : Room j X.A) (tk : Takes X W)
    (ha : PA X (e :: es) t) (hk : k ≤ j := by decide) (hg : Gl X x := by rfl) (hdb : (x == ("__debug__" : Str)) = false := by decide) (he : starEach (e :: es) X.env = (false, eval e X.env) :: starEach es X.env := by rfl) (hpl : (backTo pos (starEach es X.env)).any (·.1) = false := by rfl) :
    PE X (.Call (.Name x p) (e :: es) [] pos) (tCallS sp (WE W) t) := by
  obtain ⟨f, fd, h1, h2, h3, h5⟩ := D.ex
  exact pe_callS h5 (hr.mono hk) hg h1 h2 h3 (fun σ => passAt tk σ) ha hdb he hpl
theorem pe_methNX {pl : Sem Bool} (D : MethOk X.prog X.w X.K X.mg X.base (L2.CX X.prog X.w) k C m ps [] sp) (ho : PE X o ta) (hr : Room j X.A) (tk : Takes X W) (ha : PA X (e :: es) t) (hk : k ≤ j := by decide)
    (hst : starEach (e :: es) X.env = (false, eval e X.env) :: starEach es X.env := by rfl) (hpl : (backTo pos (starEach es X.env)).any (·.1) = false := by rfl)
    (ht : eval (.Call (.Attribute o m apos) (e :: es) [] pos) X.env = (do
      let ov ← eval o X.env
      standAt apos.atName
      let (f, first) ← holding [ov] (getMethod ov m pl)
      callWith pos f first (backTo pos (starEach (e :: es) X.env)) (backToKw pos (keywordEach [] X.env))) := by rfl) :
    PE X (.Call (.Attribute o m apos) (e :: es) [] pos) (tMethS C m sp (WE W) ta t) := by
  obtain ⟨f, fd, ds, hm, hb, hd, F⟩ := D.ex
  cases hd
  refine ⟨fun pins s σ H Q I h => ?_⟩
  refine PySem.W.methodCall_KW (pl := pl) (thn (ho.run pins s σ H _ I h) fun u s1 ⟨x, H1, I1, rx, a, dx, fs, ex, ea, l, q⟩ => ?_) ht
  subst ex
  obtain rfl : u = Value.ref a := rx
  refine getmeth_ok I1 ea D.cls hm l ?_
  refine PySem.W.callWith_K (first := [.ref a]) (h₀ := X.base) I.ok.mod.kin hm.kp (thn (ha.run pos pins s1 σ H1 _ I1 q) fun us s2 ⟨vs, H2, I2, r, q2⟩ => ⟨I2.kIn, ?_⟩) hst hpl
  exact run_fnS (us := .ref a :: us) (vs := .ref a :: vs) (E := WE W) F (hr.mono hk) hb (passAt tk σ) I2 (.cons rfl r) q2
/-! ### own errors -/
/-- AccessError.__init__(self, ..), the base's own maker reached through a class of the program -/
theorem pe_baseinit (K : PySem.W.Frag) {B : Addr} {pl : Sem Bool} (hm : X.mg x = some (.ref B)) (rd : PySem.W.readsIn K B (.type "type") = true) (ga : PySem.W.specialIn K (.ref B) "__getattribute__" = some (some (.builtin "type.__getattribute__")))
    (vV : PySem.W.findCls K (.ref B) (.type "type") "__init__" = some (.val (.builtin "ValueError.__init__"))) (ha : PA X (e :: es) t) (hg : Gl X x := by rfl) (hdb : (x == ("__debug__" : Str)) = false := by decide) (hK : X.K = K := by rfl)
    (hc : eval (.Call (.Attribute (.Name x p) "__init__" apos) (e :: es) [] pos) X.env = (do
      let ov ← eval (.Name x p) X.env
      standAt apos.atName
      let (f, first) ← holding [ov] (getMethod ov "__init__" pl)
      callWith pos f first (backTo pos (starEach (e :: es) X.env)) (backToKw pos (keywordEach [] X.env))) := by rfl)
    (he : starEach (e :: es) X.env = (false, eval e X.env) :: starEach es X.env := by rfl) (hpl : (backTo pos (starEach es X.env)).any (·.1) = false := by rfl) :
    PE X (.Call (.Attribute (.Name x p) "__init__" apos) (e :: es) [] pos) (tVeI K t) := by
  subst hK
  refine ⟨fun pins s σ H Q I h => ?_⟩
  refine PySem.W.methodCall_KW (ld_glob I hg hm ?_ hdb) hc
  refine PySem.W.method_cls I.kIn ga (PySem.W.cls_value I.kIn rd vV (by decide +kernel) ?_)
  show wpAny _ _ (callWith pos (Value.builtin "ValueError.__init__") [] (backTo pos (starEach (e :: es) X.env)) []) _ _ _
  refine PyProof.Rows.callWith_method1 (thn (ha.run pos pins _ σ H _ (I.tok _) h) fun us s1 ⟨vs, H1, I1, r1, a, C, ws, ev, hl, T, ea, q⟩ => ?_) he hpl
  subst ev
  cases r1 with
  | @cons _ u0 _ ur ra rw' =>
    obtain rfl : u0 = Value.ref a := ra
    have hlen : ur.length ≤ sizeLine := by
      have := Paired.length rw'
      rw [sizeLine_eq]
      omega
    exact oinit_ok T I1 ea hlen fun s' J => ⟨.non, H1, J, rfl, q⟩
end
end My
namespace My
open PySem PySem.Spec PyProof.Rows L2 Evl
/-! ### facts of error classes, read off the top by a Bool -/
def eCls (K : PySem.W.Frag) (C : Addr) : Bool := match K.lookup C with
  | some o => (match o.cls, o.data with
    | .type ty, .cls cd => (match cd.mro, o.slots.toList with
      | .ref D :: bm, [_, _, _, _, some (.builtin n), _] => decide (ty = "type") && (decide (D = C) && (decide (n = "ValueError.__new__") && (!cd.hasDel && (cd.hasDict && PySem.HandSPX.refsVE bm))))
      | _, _ => false)
    | _, _ => false)
  | none => false
theorem eCls_ok {K : PySem.W.Frag} {C : Addr} (h : eCls K C = true) :
    ∃ nm q N bs bm sn sub ab col dd k0 k1 k2 k3 k5, K.lookup C = some (excClassObj nm q C N bs bm true sn sub ab col dd k0 k1 k2 k3 k5 "ValueError.__new__") ∧ PySem.HandSPX.refsVE bm = true := by
  unfold eCls at h
  split at h
  · rename_i o ho
    split at h
    · rename_i ty cd hc hd
      split at h
      · rename_i D bm k0 k1 k2 k3 n k5 hm hs
        simp only [Bool.and_eq_true, decide_eq_true_eq, Bool.not_eq_true'] at h
        obtain ⟨rfl, rfl, rfl, h4, h5, h6⟩ := h
        obtain ⟨oc, od, dt, sl⟩ := o
        obtain ⟨nm, bs, mro, N, q, hdct, sn, sub, ab, col, del⟩ := cd
        dsimp only at hc hd hm hs h4 h5
        subst hc hd hm h4 h5
        have e : sl = #[k0, k1, k2, k3, some (.builtin "ValueError.__new__"), k5] := by
          rw [← hs, Array.toArray_toList]
        subst e
        exact ⟨nm, q, N, bs, bm, sn, sub, ab, col, od, k0, k1, k2, k3, k5, ho, h6⟩
      · cases h
    · cases h
  · cases h
inductive Fx where
  | oex (x : Str)
  | base (x : Str)
  | xf (x : Str)
  | kit (x c : Str) (b : Bool)
  | kitT (x : Str) (n : String) (b : Bool)
def Fx.ok (K : PySem.W.Frag) : Fx → Bool
  | .oex x => eCls K (He.ga K x) && (decide (PySem.W.findIn K (.ref (He.ga K x)) "__setattr__" = some (some (.builtin "object.__setattr__"))) && (decide (PySem.W.subIn K (.ref (He.ga K x)) (.type "BaseException") = some true) &&
      (decide (PySem.W.typeIn K (.ref (He.ga K x)) = some (.type "type")) && (PySem.W.keepIn K (.ref (He.ga K x)) && (decide (PySem.W.findIn K (.ref (He.ga K x)) "__init__" = some (some (.ref (He.ma K (He.ga K x) "__init__")))) &&
      decide (PySem.W.typeIn K (.ref (He.ma K (He.ga K x) "__init__")) = some (.type "function")))))))
  | .base x => PySem.W.readsIn K (He.ga K x) (.type "type") && (decide (PySem.W.specialIn K (.ref (He.ga K x)) "__getattribute__" = some (some (.builtin "type.__getattribute__"))) && (match PySem.W.findCls K (.ref (He.ga K x)) (.type "type") "__init__" with
    | some (.val (.builtin n)) => decide (n = "ValueError.__init__")
    | _ => false))
  | .xf x => xfB K (He.ga K x) && (decide (PySem.W.findIn K (.ref (He.ga K x)) "__class__" = some (some (.builtin "object.__class__"))) && (decide (PySem.W.specialIn K (.builtin "object.__class__") "__get__" = some (some (.builtin "getset_descriptor.__get__"))) &&
      (decide (PySem.W.takesIn K (.builtin "object.__class__") = some true) && decide (PySem.W.mroIn K (He.ga K x) (.type "object") = some true))))
  | .kit x c b => decide (PySem.W.kitOne K (.ref (He.ga K x)) (.ref (He.ga K c)) = some b)
  | .kitT x n b => decide (PySem.W.kitOne K (.ref (He.ga K x)) (.type n) = some b)
section
variable {K : PySem.W.Frag}
theorem oex_ok {x : Str} (h : (Fx.oex x).ok K = true) : OexC K (He.ga K x) ∧ PySem.W.findIn K (.ref (He.ga K x)) "__init__" = some (some (.ref (He.ma K (He.ga K x) "__init__"))) ∧ PySem.W.typeIn K (.ref (He.ma K (He.ga K x) "__init__")) = some (.type "function") := by
  obtain ⟨h1, h⟩ := He.ba h
  obtain ⟨h2, h⟩ := He.ba h
  obtain ⟨h3, h⟩ := He.ba h
  obtain ⟨h4, h⟩ := He.ba h
  obtain ⟨h5, h⟩ := He.ba h
  obtain ⟨h6, h7⟩ := He.ba h
  exact ⟨⟨eCls_ok h1, of_decide_eq_true h2, of_decide_eq_true h3, of_decide_eq_true h4, h5⟩, of_decide_eq_true h6, of_decide_eq_true h7⟩
theorem base_ok {x : Str} (h : (Fx.base x).ok K = true) : PySem.W.readsIn K (He.ga K x) (.type "type") = true ∧ PySem.W.specialIn K (.ref (He.ga K x)) "__getattribute__" = some (some (.builtin "type.__getattribute__")) ∧
    PySem.W.findCls K (.ref (He.ga K x)) (.type "type") "__init__" = some (.val (.builtin "ValueError.__init__")) := by
  obtain ⟨h1, h⟩ := He.ba h
  obtain ⟨h2, h3⟩ := He.ba h
  refine ⟨h1, of_decide_eq_true h2, ?_⟩
  split at h3
  · rename_i n hn
    rw [hn, of_decide_eq_true h3]
  · cases h3
structure XcC (K : PySem.W.Frag) (C : Addr) : Prop where
  x : XfC K C
  c : PySem.W.findIn K (.ref C) "__class__" = some (some (.builtin "object.__class__"))
  n : PySem.W.specialIn K (.builtin "object.__class__") "__get__" = some (some (.builtin "getset_descriptor.__get__"))
  t : PySem.W.takesIn K (.builtin "object.__class__") = some true
  m : PySem.W.mroIn K C (.type "object") = some true
theorem xf_ok {x : Str} (h : (Fx.xf x).ok K = true) : XcC K (He.ga K x) := by
  obtain ⟨h1, h⟩ := He.ba h
  obtain ⟨h2, h⟩ := He.ba h
  obtain ⟨h3, h⟩ := He.ba h
  obtain ⟨h4, h5⟩ := He.ba h
  exact ⟨xfB_ok h1, of_decide_eq_true h2, of_decide_eq_true h3, of_decide_eq_true h4, of_decide_eq_true h5⟩
end
/-- isinstance(e, c), isinstance(e, (c, ..)) of the error that the suite holds -/
def rIsX (K : PySem.W.Frag) (D a : Addr) (cls : Value) (d : Option Addr) : List V → Hp → VK → Prop := fun xs H Q => cls = .ref D ∧ (∃ dd fs, d = some dd ∧ H dd = some (.xd fs)) ∧
  ((∃ (c : V) (cv : Value) (b : Bool), xs = [.ref a, c] ∧ ClsV c cv ∧ PySem.W.kitOne K (.ref D) cv = some b ∧ Q (.bl b) H) ∨
    ∃ (tp : Addr) (cs : List V) (us : List Value) (b : Bool), xs = [.ref a, .ref tp] ∧ H tp = some (.tup cs) ∧ Paired ClsV cs us ∧ PySem.W.kitAny K (.ref D) us = some b ∧ Q (.bl b) H)
theorem call_isX {X : Cx} (K : PySem.W.Frag) {a D : Addr} {oe : Obj} {cls : Value} {d : Option Addr} {pn : List (Addr × Obj)} (C : XcC K D) (hz : Zc cls d oe) (hf : ∃ vs, oe.data = .fields vs) (hK : X.K = K := by rfl) :
    CallR (X.suite a ((a, oe) :: pn)) (.builtin "isinstance") (rIsX K D a cls d) := by
  subst hK
  intro pins s σ H xs us Q I r h
  obtain ⟨ec, ⟨dd, fs, ed, hdd⟩, h⟩ := h
  subst ec
  subst ed
  obtain ⟨hget, _⟩ := I.pin (a, oe) (List.mem_append.mpr (.inl List.mem_cons_self))
  obtain ⟨vs, hv⟩ := hf
  have hx : ObjOk X.prog X.w H s.heap dd (.xd fs) := I.hok dd _ hdd
  obtain ⟨mA, hns, _⟩ := hx
  obtain ⟨od, ho, _⟩ := lookIn_ns hns
  have J : PySem.W.InstAt s.heap a oe D (some od) := ⟨hget, hz.1, by unfold PySem.W.notCls; rw [hv] <;> rfl, by rw [hz.2]; exact ho⟩
  have hcl : (PySem.W.clsIn X.K D).isSome = true := by
    obtain ⟨cd, hc, _⟩ := PySem.W.any_some C.x.hdC
    rw [hc]
    rfl
  have Z := PySem.W.kitx_exc (x := a) (ox := oe) (od := some od) hcl C.x.ga C.x.gg C.x.exC C.c C.n C.t C.m
  rcases h with ⟨c, cv, b, rfl, hc, e, q⟩ | ⟨tp, cs, ws, b, rfl, hT, hc, e, q⟩
  · cases r with
    | cons rx rr =>
      cases rr with
      | cons rt rr =>
        cases rr
        cases rx
        have ec := hc.eq rt
        subst ec
        exact PySem.W.kia_one Z I.kIn J e (fun z => nomatch z) fun tk => ⟨.bl b, H, I.tok tk, rfl, q⟩
  · obtain ⟨u1, u2, rfl, r1, r2⟩ := vals2 r
    cases r1
    cases r2
    obtain ⟨_, its, rv, o, h1, h2, n, h3⟩ := (show ObjOk X.prog X.w H s.heap tp (.tup cs) from I.hok tp _ hT)
    have e3 := ClsV.all hc rv
    subst e3
    obtain ⟨oc, od2, dt, sl⟩ := o
    simp only at h2 h3
    subst h2 h3
    exact PySem.W.kia_tup Z I.kIn J h1 e (fun z => nomatch z) fun tk => ⟨.bl b, H, I.tok tk, rfl, q⟩
/-- e.f of the error that the suite holds -/
theorem pe_xfK {X : Cx} (K : PySem.W.Frag) {a C : Addr} {oe : Obj} {cls : Value} {d : Option Addr} {pn : List (Addr × Obj)} {e : Expr} {te : TE} {pos : Pos} {n : Str} (T : XcC K C) (hno : PySem.W.findIn K (.ref C) n = some none)
    (hz : Zc cls d oe) (hf : ∃ vs, oe.data = .fields vs) (he : PE (X.suite a ((a, oe) :: pn)) e te) (hK : X.K = K := by rfl) (hb : attributeBase e n X.env (eval e X.env) = eval e X.env := by rfl) :
    PE (X.suite a ((a, oe) :: pn)) (.Attribute e n pos) (tXf a cls d C n te) := by
  subst hK
  exact pe_xf T.x hno hz hf he hb
/-! ### an error with two, one fields: __init__, raise -/
/-- what a def wishes of an error of the class C with these fields -/
def RaiseR (C : Addr) (fs : List (Str × V)) (H : Hp) (E : XK) : Prop := ∀ d H', H d = none → Ex H H' → H' d = some (.xd fs) → E (.ref C) (some d) H'
theorem RaiseR.go {C : Addr} {fs : List (Str × V)} {H H1 : Hp} {E : XK} (k : RaiseR C fs H E) (e : Ex H H1) : RaiseR C fs H1 E := fun d H' hd e2 h => k d H' (fresh_back e hd) (e.trans e2) h
/-- __init__ of an error of the class C: its arguments' values are vs, its fields afterwards fs -/
def spXinit (K : PySem.W.Frag) (C : Addr) (ok : List V → Prop) (fs : List V → List (Str × V)) : Sp := fun vs H Q _ => ∃ (a : Addr) (ws : List V), vs = .ref a :: ws ∧ ok ws ∧ H a = some (exo a C none) ∧
  ∀ (d : Addr) (H' : Hp), H d = none → d ≠ a → H' a = some (exo a C (some d)) → H' d = some (exd d (fs ws)) → (∀ b o, b ≠ a → H b = some o → H' b = some o) → Q .non H'
structure XMkOk (P : Program) (w : World) (K : PySem.W.Frag) (mg : Str → Option Value) (base : Heap) (k : Nat) (x : Str) (C : Addr) (ps : List Str) (sp : Sp) : Prop where
  ex : ∃ (f : Addr) (fd : FuncData), mg x = some (.ref C) ∧ OexC K C ∧ PySem.W.findIn K (.ref C) "__init__" = some (some (.ref f)) ∧ PySem.W.typeIn K (.ref f) = some (.type "function") ∧ Binds K fd ps [] ∧ FnOk P w K mg base CX0 k f fd ps sp
theorem ps_raiseX {X : Cx} {W : WX} {e : Expr} {es : List Expr} {t : TA} {k j : Nat} {x : Str} {C : Addr} {ps : List Str} {sp : Sp} {p pos pos2 : Pos} (D : XMkOk X.prog X.w X.K X.mg X.base k x C ps sp) (hr : Room j X.A) (hc : X.calm = true) (tk : Takes X W) (ha : PA X (e :: es) t)
    (hk : k + 1 ≤ j := by decide) (hg : Gl X x := by rfl) (hdb : (x == ("__debug__" : Str)) = false := by decide) (he : starEach (e :: es) X.env = (false, eval e X.env) :: starEach es X.env := by rfl) (hpl : (backTo pos (starEach es X.env)).any (·.1) = false := by rfl) :
    PS X (.Raise (some (.Call (.Name x p) (e :: es) [] pos)) none pos2) (fun _ σ H => tMkO C sp [] t σ H fun cls d H' => W cls d σ H') := by
  obtain ⟨f, fd, h1, h2, h3, h4, h5, h6⟩ := D.ex
  exact ps_raise hc tk (pmk_oex h2 h3 h4 h6 (hr.mono hk) h5 .nil (fun _ _ _ _ _ _ _ h => h.elim) hg h1 ha hdb he hpl)
/-- what raising asks -/
theorem raise_ask {K : PySem.W.Frag} {C : Addr} {ok : List V → Prop} {fs : List V → List (Str × V)} {ta : TA} {σ : L2.St} {H : Hp} {Q : XK} {vs : List V} (ha : EvA ta σ H vs) (h0 : ok vs) (hl : vs.length ≤ 1000)
    (q : ∀ H1, Ex H H1 → RaiseR C (fs vs) H1 Q) : tMkO C (spXinit K C ok fs) [] ta σ H Q := ha H (Ex.refl H) _ fun H1 e1 => ⟨hl, fun a na => ⟨a, vs, by rw [List.append_nil], h0, upd_same, fun d H' nd da h1 h2 kp => ⟨rfl, d, fs vs, h1, h2, by
    rw [upd_ne da] at nd
    exact nd, by
    have nd' : H1 d = none := by
      rw [upd_ne da] at nd
      exact nd
    refine q H1 e1 d _ nd' (fun b o hb => ?_) upd_same
    have hba : b ≠ a := ne_of_none hb na
    have hbd : b ≠ d := ne_of_none hb nd'
    rw [upd_ne hbd, del_ne hba]
    exact kp b o hba (by rw [upd_ne hba]; exact hb)⟩⟩⟩
end My
namespace My
open PySem PySem.Spec PyProof.Rows L2 Evl
/-! ### the facts of a top with classes and errors -/
structure TxE (fa : List He.Fa) (fn : List He.DefD) (fx : List Fx) (K : PySem.W.Frag) (mg : Str → Option Value) : Prop where
  tx : Tx fa fn K mg
  more : (fx.all fun f => f.ok K) = true
theorem TxE.fx {fa : List He.Fa} {fn : List He.DefD} {fx : List Fx} {K : PySem.W.Frag} {mg : Str → Option Value} (T : TxE fa fn fx K mg) (i : Nat) {f : Fx} (h : fx[i]? = some f := by rfl) : f.ok K = true :=
  List.all_eq_true.mp T.more f (List.mem_of_getElem? h)
theorem TxE.mk' {fa : List He.Fa} {fn : List He.DefD} {fx : List Fx} {K : PySem.W.Frag} {w : World} {h h0 : Heap} {mg : Str → Option Value} (X : K.In h) (G : h.Ns mainGlobals mg) (c : He.SaysX fa fn [] [] (fun K => fx.all fun f => f.ok K) w h0 K) : TxE fa fn fx K mg :=
  ⟨Tx.mk' X G c.t.d, c.more⟩
/-- what the names reach in n steps and the statics (readsIn asks them), and the facts there -/
def farE (g : Addr → Option Obj) (n : Nat) : PySem.W.Frag := He.frG g (He.asD g n ++ [cStatics])
def lookE (n : Nat) (fa : List He.Fa) (fn : List He.DefD) (fx : List Fx) (g : Addr → Option Obj) : Bool × He.AlD := (fx.all fun f => f.ok (farE g n), He.obsD fa fn (farE g n))
def hookE (n : Nat) (fa : List He.Fa) (fn : List He.DefD) (fx : List Fx) : PySem.W.Hook where
  α := Bool × He.AlD
  obs := fun s => lookE n fa fn fx s.heap.get?
  val := fun _ => (true, He.valD fn)
  says := fun _ h => ∃ K : PySem.W.Frag, K.In h ∧ ((fx.all fun f => f.ok K) = true ∧ He.SaysD fa fn K)
  of := fun _ _ e => ⟨_, He.frG_in, congrArg (fun z : Bool × He.AlD => z.1) e, congrArg (fun z : Bool × He.AlD => z.2) e⟩
  keeps := fun _ _ _ ⟨K, hK, c⟩ k => ⟨K, PySem.W.Frag.In.keeps hK k, c⟩
theorem lookE_eq {n : Nat} {fa : List He.Fa} {fn : List He.DefD} {fx : List Fx} {g : Addr → Option Obj} {s : Shared} (h : ∀ a, g a = s.heap.get? a) : lookE n fa fn fx g = (hookE n fa fn fx).obs s := by
  have e : g = s.heap.get? := funext h
  subst e
  rfl
theorem TxE.of {fa : List He.Fa} {fn : List He.DefD} {fx : List Fx} {K : PySem.W.Frag} {h : Heap} {mg : Str → Option Value} (X : K.In h) (G : h.Ns mainGlobals mg) (c : (fx.all fun f => f.ok K) = true ∧ He.SaysD fa fn K) : TxE fa fn fx K mg := ⟨Tx.mk' X G c.2, c.1⟩
theorem MethOk.of {P : Program} {w : World} {K : PySem.W.Frag} {mg : Str → Option Value} {base : Heap} {CX : CXT} {k : Nat} {C : Addr} {m qual : Str} {ps : List Str} {sp : Sp} {st : Stmt} {fd : FuncData} {f : Addr} (F : FunD K m qual (defArgs st) (defBody st) (defScope st) [] [] f fd)
    (c : Cls K C) (hm : Meth K C m f) (b : Binds K fd ps []) (h : FnOk P w K mg base CX k f fd ps sp) : MethOk P w K mg base CX k C m ps [] sp := ⟨c, f, fd, [], hm, b, .nil, h⟩
theorem DefOkX.of {P : Program} {w : World} {K : PySem.W.Frag} {mg : Str → Option Value} {base : Heap} {k : Nat} {x : Str} {ps : List Str} {sp : Sp} {st : Stmt} {fd : FuncData} {f : Addr} (F : FunD K x x (defArgs st) (defBody st) (defScope st) [] [] f fd)
    (g : mg x = some (.ref f)) (b : Binds K fd ps []) (h : FnOk P w K mg base (L2.CX P w) k f fd ps sp) : DefOkX P w K mg base k x ps sp := ⟨f, fd, g, F.kp, b, h⟩
end My
namespace My
open PySem PySem.Spec PyProof.Rows L2 Evl
/-! ### a op b op c op d, as a test -/
def tChain3 (r r' r'' : R2) (ta tb tc td : TE) : TE := fun σ H Q => ta σ H fun x H1 => tb σ H1 fun y H2 => r x y H2 fun z H3 => ∃ k, z = .bl k ∧
  (if k = true then tc σ H3 fun u H4 => r' y u H4 fun z' H5 => ∃ k', z' = .bl k' ∧ (if k' = true then td σ H5 fun v H6 => r'' u v H6 Q else Q (.bl false) H5) else Q (.bl false) H3)
theorem pt_chain3 {X : Cx} {a b c d : Expr} {pos : Pos} {op op' op'' : CmpOp} {r r' r'' : R2} {ta tb tc td : TE} (ho : OpR X (compareOp op) r) (ho' : OpR X (compareOp op') r') (ho'' : OpR X (compareOp op'') r'') (ha : PE X a ta) (hb : PE X b tb) (hc : PE X c tc) (hd : PE X d td)
    (hm : lastMarks [op, op', op''] [b, c, d] = false := by with_unfolding_all rfl) : PT X (.Compare a [op, op', op''] [b, c, d] pos) (tTest (tChain3 r r' r'' ta tb tc td)) := by
  refine ⟨fun pins s σ H Q I h => isTrue_chain (thn (ha.run pins s σ H _ I h) fun v s1 g1 => ?_) hm⟩
  obtain ⟨x, H1, I1, r1, q1⟩ := g1
  refine test_link (thn (hb.run pins s1 σ H1 _ I1 q1) fun u s2 g2 => ?_)
  obtain ⟨y, H2, I2, r2, q2⟩ := g2
  refine thn (ho pins s2 σ H2 x y v u _ I2 r1 r2 q2) fun w s3 g3 => ?_
  obtain ⟨z, H3, I3, r3, k, rfl, q3⟩ := g3
  cases r3
  refine wpAny_truthy_bool ?_
  cases k with
  | false =>
    obtain ⟨k', e', q'⟩ := q3
    cases e'
    exact ite_ff ⟨H3, I3, q'⟩
  | true =>
    refine ite_tt (test_link (thn (hc.run pins s3 σ H3 _ I3 q3) fun u' s4 g4 => ?_))
    obtain ⟨y', H4, I4, r4, q4⟩ := g4
    refine thn (ho' pins s4 σ H4 y y' u u' _ I4 r2 r4 q4) fun w' s5 g5 => ?_
    obtain ⟨z', H5, I5, r5, k5, rfl, q5⟩ := g5
    cases r5
    refine wpAny_truthy_bool ?_
    cases k5 with
    | false =>
      obtain ⟨k', e', q'⟩ := q5
      cases e'
      exact ite_ff ⟨H5, I5, q'⟩
    | true =>
      refine ite_tt (test_last (thn (hd.run pins s5 σ H5 _ I5 q5) fun u6 s6 g6 => ?_))
      obtain ⟨y6, H6, I6, r6, q6⟩ := g6
      refine thn (ho'' pins s6 σ H6 y' y6 u' u6 _ I6 r4 r6 q6) fun w7 s7 g7 => ?_
      obtain ⟨z7, H7, I7, r7, k7, rfl, q7⟩ := g7
      cases r7
      exact wpAny_truthy_bool ⟨H7, I7, q7⟩
section
variable {σ : L2.St} {H : Hp} {ta tb tc td : TE}
theorem et_chain3 {f g h : Int → Int → Bool} {i j k l : Int} (ha : Ev ta σ H (.int i)) (hb : Ev tb σ H (.int j)) (hc : Ev tc σ H (.int k)) (hd : Ev td σ H (.int l)) :
    EvT (tTest (tChain3 (rI0 fun i j => .bl (f i j)) (rI0 fun i j => .bl (g i j)) (rI0 fun i j => .bl (h i j)) ta tb tc td)) σ H (f i j && (g j k && h k l)) := fun H1 e1 Q q =>
  ha H1 e1 _ fun H2 e2 => hb H2 (e1.trans e2) _ fun H3 e3 => ⟨i, j, rfl, rfl, f i j, rfl, by
    revert q
    cases f i j with
    | false => exact fun q => iteF ⟨_, rfl, q H3 (e2.trans e3)⟩
    | true =>
      intro q
      refine iteT (hc H3 ((e1.trans e2).trans e3) _ fun H4 e4 => ⟨j, k, rfl, rfl, g j k, rfl, ?_⟩)
      revert q
      cases g j k with
      | false => exact fun q => iteF ⟨_, rfl, q H4 ((e2.trans e3).trans e4)⟩
      | true => exact fun q => iteT (hd H4 (((e1.trans e2).trans e3).trans e4) _ fun H5 e5 => ⟨k, l, rfl, rfl, _, rfl, q H5 (((e2.trans e3).trans e4).trans e5)⟩)⟩
theorem ev_chain {f g : Int → Int → Bool} {i j k : Int} (ha : Ev ta σ H (.int i)) (hb : Ev tb σ H (.int j)) (hc : Ev tc σ H (.int k)) :
    Ev (tChain (rI0 fun i j => .bl (f i j)) (rI0 fun i j => .bl (g i j)) ta tb tc) σ H (.bl (f i j && g j k)) := fun H1 e1 Q q =>
  ha H1 e1 _ fun H2 e2 => hb H2 (e1.trans e2) _ fun H3 e3 => ⟨i, j, rfl, rfl, f i j, rfl, by
    revert q
    cases f i j with
    | false => exact fun q => iteF (q H3 (e2.trans e3))
    | true => exact fun q => iteT (hc H3 ((e1.trans e2).trans e3) _ fun H4 e4 => ⟨j, k, rfl, rfl, q H4 ((e2.trans e3).trans e4)⟩)⟩
end
end My
namespace My
open PySem PySem.Spec PyProof.Rows L2 Evl
/-! ### f-strings -/
theorem str_len_app (a b : Str) : (a ++ b).length = a.length + b.length := by
  show (a.cps ++ b.cps).size = a.cps.size + b.cps.size
  exact Array.size_append
section
variable {σ : L2.St} {H : Hp} {t te : TE} {ts : List TE} {acc y out : Str}
def EvJ (ts : List TE) (acc : Str) (σ : L2.St) (H : Hp) (out : Str) : Prop := ∀ H1, Ex H H1 → ∀ Q : Str → Hp → Prop, (∀ H2, Ex H1 H2 → Q out H2) → tJs ts acc σ H1 Q
theorem ej_nil : EvJ [] acc σ H acc := fun H1 _ Q q => q H1 (Ex.refl H1)
theorem ej_cons (h : Ev t σ H (.str y)) (r : EvJ ts (acc ++ y) σ H out) (hl : (acc ++ y).length ≤ sizeLine) : EvJ (t :: ts) acc σ H out := fun H1 e Q q =>
  h H1 e _ fun H2 e2 => ⟨y, rfl, hl, r H2 (e.trans e2) Q fun H3 e3 => q H3 (e2.trans e3)⟩
theorem ev_joined (h : EvJ ts Str.empty σ H out) : Ev (fun σ H Q => tJs ts Str.empty σ H fun out H1 => Q (.str out) H1) σ H (.str out) := fun H1 e Q q => h H1 e _ q
def small (i : Int) : Prop := i.natAbs < 2 ^ 1000
theorem log_ok {i : Int} (h : small i) : i.natAbs.log2 < 1920 := Nat.lt_of_lt_of_le (PySem.Flt.log2_lt_of (by decide) h) (by decide)
theorem fmt_int {i : Int} (h : Ev te σ H (.int i)) (hs : small i) : Ev (tFmt te) σ H (.str (toString i)) := fun H1 e Q q => h H1 e _ fun H2 e2 => .inr ⟨i, rfl, log_ok hs, q H2 e2⟩
theorem fmt_str {x : Str} (h : Ev te σ H (.str x)) (hs : x.length ≤ 10000) : Ev (tFmt te) σ H (.str x) := fun H1 e Q q => h H1 e _ fun H2 e2 => .inl ⟨x, rfl, sz_of (by omega), q H2 e2⟩
theorem small_len {i : Int} (h : small i) : (Str.ofString (toString i)).length ≤ 1921 := int_text_len_1921 (log_ok h)
theorem small_of {i : Int} (h1 : -(2 ^ 62) ≤ i) (h2 : i ≤ 2 ^ 62) : small i := by
  have : i.natAbs ≤ 2 ^ 62 := by omega
  exact Nat.lt_of_le_of_lt this (by decide)
end
/-- an error's two fields, stored by its __init__ -/
theorem ost_first {K : PySem.W.Frag} {f : Str} {to te : TE} {σ : L2.St} {H : Hp} {D : Ends} {tz : TS} {a C : Addr} {y : V} (he : Ev te σ H y) (ho : Ev to σ H (.ref a)) (T : OexC K C) (hn : PySem.W.findIn K (.ref C) f = some none) (ha : H a = some (exo a C none))
    (k : ∀ dx H1, Ex H H1 → H1 dx = none → dx ≠ a → tz D σ (upd (upd H1 dx (exd dx [(f, y)])) a (exo a C (some dx)))) : tSeq (tOst K f to te) tz D σ H := he H (Ex.refl H) _ fun H1 e1 => ho H1 e1 _ fun H2 e2 =>
  ⟨a, C, rfl, T, hn, .inl ⟨e2 _ _ (e1 _ _ ha), fun dx n ne => k dx H2 (e1.trans e2) n ne⟩⟩
theorem ost_last {K : PySem.W.Frag} {f : Str} {to te : TE} {σ : L2.St} {H : Hp} {D : Ends} {a C dx : Addr} {fs : List (Str × V)} {y : V} (he : Ev te σ H y) (ho : Ev to σ H (.ref a)) (T : OexC K C) (hn : PySem.W.findIn K (.ref C) f = some none) (ha : H a = some (exo a C (some dx))) (hd : H dx = some (exd dx fs)) (hl : fs.length ≤ 900)
    (k : ∀ H1, Ex H H1 → D.nx σ (upd H1 dx (exd dx ((f, y) :: fs)))) : tOst K f to te D σ H := he H (Ex.refl H) _ fun H1 e1 => ho H1 e1 _ fun H2 e2 =>
  ⟨a, C, rfl, T, hn, .inr ⟨dx, fs, e2 _ _ (e1 _ _ ha), e2 _ _ (e1 _ _ hd), hl, k H2 (e1.trans e2)⟩⟩
end My

namespace My
open PySem PySem.Spec PyProof.Rows L2 Evl
/-! ### fields of own instances, made by their class -/
theorem lk_hit {f : Str} {v : V} {r : List (Str × V)} : ((f, v) :: r).lookup f = some v := by simp [List.lookup]
theorem lk_miss {f g : Str} {v : V} {r : List (Str × V)} (h : f ≠ g) : ((g, v) :: r).lookup f = r.lookup f := by
  have : (f == g) = false := beq_eq_false_iff_ne.mpr h
  simp [List.lookup, this]
theorem put_hit {f : Str} {v x : V} {r : List (Str × V)} : putF f v ((f, x) :: r) = (f, v) :: r := by simp [putF]
theorem put_miss {f g : Str} {v x : V} {r : List (Str × V)} (h : g ≠ f) : putF f v ((g, x) :: r) = (g, x) :: putF f v r := by
  show (if g = f then _ else _) = _
  rw [if_neg h]
section
variable {K : PySem.W.Frag} {σ : L2.St} {H H' : Hp} {ta tb te tx tv : TE} {t u : TT} {x y z v : V} {D : Ends} {tu tw tz : TS} {g : TG} {i j : Int} {b : Bool} {C a dx : Addr} {fs : List (Str × V)} {f : Str}
theorem ev_fld (h : Ev ta σ H (.ref a)) (ha : H a = some (.ins C dx fs)) (c : Cls K C) (n : NoAttr K C f) (l : fs.lookup f = some v) : Ev (tFld K ta f) σ H v := fun H1 e Q q => h H1 e _ fun H2 e2 =>
  ⟨a, C, dx, fs, v, rfl, (e.trans e2) _ _ ha, c, n, l, q H2 e2⟩
theorem q_fld (hv : Ev tv σ H y) (ho : Ev ta σ H (.ref a)) (ha : H a = some (.ins C dx fs)) (c : Cls K C) (n : NoAttr K C f) (l : fs.length < 1000) (k : ∀ H1, Ex H H1 → tz D σ (upd H1 a (.ins C dx (putF f y fs)))) : tSeq (sFld K ta tv f) tz D σ H :=
  hv H (Ex.refl H) _ fun H1 e1 => ho H1 e1 _ fun H2 e2 => ⟨a, C, dx, fs, rfl, (e1.trans e2) _ _ ha, c, n, l, k H2 (e1.trans e2)⟩
theorem s_fld (hv : Ev tv σ H y) (ho : Ev ta σ H (.ref a)) (ha : H a = some (.ins C dx fs)) (c : Cls K C) (n : NoAttr K C f) (l : fs.length < 1000) (k : ∀ H1, Ex H H1 → D.nx σ (upd H1 a (.ins C dx (putF f y fs)))) : sFld K ta tv f D σ H :=
  hv H (Ex.refl H) _ fun H1 e1 => ho H1 e1 _ fun H2 e2 => ⟨a, C, dx, fs, rfl, (e1.trans e2) _ _ ha, c, n, l, k H2 (e1.trans e2)⟩
/-- a value of some kind, told by a predicate of the heap -/
def EvP (te : TE) (σ : L2.St) (H : Hp) (P : V → Hp → Prop) : Prop := ∀ H1, Ex H H1 → ∀ Q : VK, (∀ v H2, Ex H1 H2 → P v H2 → Q v H2) → te σ H1 Q
theorem qp_fld {P : V → Hp → Prop} (hv : EvP tv σ H P) (ho : Ev ta σ H (.ref a)) (hP : ∀ v H1 H2, Ex H1 H2 → P v H1 → P v H2) (ha : H a = some (.ins C dx fs)) (c : Cls K C) (n : NoAttr K C f) (l : fs.length < 1000) (k : ∀ y H1, Ex H H1 → P y H1 → tz D σ (upd H1 a (.ins C dx (putF f y fs)))) : tSeq (sFld K ta tv f) tz D σ H :=
  hv H (Ex.refl H) _ fun y H1 e1 p => ho H1 e1 _ fun H2 e2 => ⟨a, C, dx, fs, rfl, (e1.trans e2) _ _ ha, c, n, l, k y H2 (e1.trans e2) (hP _ _ _ e2 p)⟩
theorem qu_fld {xs : List V} (hv : EvU tv σ H xs) (ho : Ev ta σ H (.ref a)) (ha : H a = some (.ins C dx fs)) (c : Cls K C) (n : NoAttr K C f) (l : fs.length < 1000) (k : ∀ p H1, H p = none → Ex H H1 → H1 p = some (.tup xs) → tz D σ (upd H1 a (.ins C dx (putF f (.ref p) fs)))) : tSeq (sFld K ta tv f) tz D σ H :=
  hv H (Ex.refl H) _ fun p H1 n1 e1 h1 => ho H1 e1 _ fun H2 e2 => ⟨a, C, dx, fs, rfl, (e1.trans e2) _ _ ha, c, n, l, k p H2 n1 (e1.trans e2) (e2 _ _ h1)⟩
theorem su_fld {xs : List V} (hv : EvU tv σ H xs) (ho : Ev ta σ H (.ref a)) (ha : H a = some (.ins C dx fs)) (c : Cls K C) (n : NoAttr K C f) (l : fs.length < 1000) (k : ∀ p H1, H p = none → Ex H H1 → H1 p = some (.tup xs) → D.nx σ (upd H1 a (.ins C dx (putF f (.ref p) fs)))) : sFld K ta tv f D σ H :=
  hv H (Ex.refl H) _ fun p H1 n1 e1 h1 => ho H1 e1 _ fun H2 e2 => ⟨a, C, dx, fs, rfl, (e1.trans e2) _ _ ha, c, n, l, k p H2 n1 (e1.trans e2) (e2 _ _ h1)⟩
/-- tuple(x), x a list or a tuple: a tuple -/
theorem evp_tup {l : Addr} {xs : List V} (h : Ev te σ H (.ref l)) (hs : SqL K H l xs ∨ SqT K H l xs) : EvP (tCB (rTupQ K) (tCons te tNil)) σ H fun v H2 => ∃ p, v = .ref p ∧ SqT K H2 p xs := fun H1 e Q q =>
  h H1 e _ fun H2 e2 => ⟨l, xs, rfl, by
    rcases hs with hs | hs
    · exact .inl ⟨ex_l (e.trans e2) hs, fun p hp => q _ _ (e2.trans (Ex.new hp)) ⟨p, rfl, st_of upd_same⟩⟩
    · exact .inr ⟨ex_t (e.trans e2) hs, q _ _ e2 ⟨l, rfl, ex_t (e.trans e2) hs⟩⟩⟩
/-- tuple(a new list), tuple(a list): a new tuple -/
theorem eu_tupN {xs : List V} (h : EvL te σ H xs) : EvU (tCB (rTupQ K) (tCons te tNil)) σ H xs := fun H1 e Q q =>
  h H1 e _ fun p H2 n e2 h2 => ⟨p, xs, rfl, .inl ⟨sq_of h2, fun l hl => q l _ (fresh_back e2 hl) (e2.trans (Ex.new hl)) upd_same⟩⟩
theorem eu_tupL {l : Addr} {xs : List V} (h : Ev te σ H (.ref l)) (hs : SqL K H l xs) : EvU (tCB (rTupQ K) (tCons te tNil)) σ H xs := fun H1 e Q q =>
  h H1 e _ fun H2 e2 => ⟨l, xs, rfl, .inl ⟨ex_l (e.trans e2) hs, fun p hp => q p _ (fresh_back e2 hp) (e2.trans (Ex.new hp)) upd_same⟩⟩
theorem ev_sumN {ns : List Int} {xs : List V} (h : EvL te σ H xs) (hx : xs = ns.map V.int) : Ev (tCB (rSum K) (tCons te tNil)) σ H (.int ns.sum) := fun H1 e Q q =>
  h H1 e _ fun p H2 n e2 h2 => ⟨p, ns, rfl, sq_of (hx ▸ h2), q H2 e2⟩
theorem sqt_keep {p : Addr} {o o2 : HO} {xs : List V} (hp : H p = some o2) (h1 : ∀ xs, o2 ≠ .tup xs) (h2 : ∀ c d, o2 ≠ .frz c d) (h : SqT K H a xs) : SqT K (upd H p o) a xs := by
  rcases h with (h | ⟨c, h⟩) | h
  · refine .inl (.inl ?_)
    rw [upd_ne]
    · exact h
    · intro z
      subst z
      rw [hp] at h
      exact h1 _ (Option.some.inj h)
  · refine .inl (.inr ⟨c, ?_⟩)
    rw [upd_ne]
    · exact h
    · intro z
      subst z
      rw [hp] at h
      exact h2 _ _ (Option.some.inj h)
  · exact .inr h
/-- for over reversed(a tuple), behind it a word B -/
theorem q_forRevT {xs : List V} (h : Ev te σ H (.ref a)) (hx : SqT K H a xs) (Pv : Nat → L2.St → Hp → Prop) (B : L2.St → Hp → Prop) (h0 : ∀ H1, Ex H H1 → Pv 0 σ H1) (hl : ∀ i σ' H', Pv i σ' H' → SqT K H' a xs)
    (hs : ∀ (i : Nat) x σ' H', i < xs.length → xs[xs.length - 1 - i]? = some x → Pv i σ' H' → g x σ' H' fun σ2 H2 => tu { D with nx := Pv (i + 1), ct := Pv (i + 1), bk := B } σ2 H2) (hd : ∀ σ' H', Pv xs.length σ' H' → B σ' H')
    (hb : ∀ σ' H', B σ' H' → tz D σ' H') : tCut (tFor (RT.iRevA K te) g tu) tz D σ H :=
  ⟨B, h H (Ex.refl H) _ fun H1 e => ⟨a, xs, rfl, .inr ⟨ex_t e hx, RT.for_ItvT Pv (h0 H1 e) hl hs hd⟩⟩, hb⟩
/-- a comprehension over zip of two tuples of one length -/
theorem el_lcZT {ta : TA} {a b : Addr} {xs ys : List V} {n m : Nat} {vs : List Nat} (v : Nat → V) (h : EvA ta σ H [.ref a, .ref b]) (hx : SqT K H a xs) (hy : SqT K H b ys) (hl : xs.length = ys.length) (hz : xs.length ≤ 40000)
    (hw : ∀ x y, wipe (((wipe σ vs).set n (some x)).set m (some y)) vs = wipe σ vs)
    (he : ∀ (i : Nat) (x y : V) H1, Ex H H1 → xs[i]? = some x → ys[i]? = some y → Ev te (((wipe σ vs).set n (some x)).set m (some y)) H1 (v i)) :
    EvL (tLc (RZ.iZipA K ta) (gTup K 2 (gCons (gName n) (gCons (gName m) gNil))) tYes te vs) σ H (given xs.length (fun _ => true) v) := fun H0 e Q q => h H0 e _ fun H1 e1 =>
  ⟨a, b, xs, ys, rfl, .inr ⟨ex_t (e.trans e1) hx, ex_t (e.trans e1) hy, fun Dl hD =>
    ⟨fun i k Hi => k = xs.length - i ∧ i ≤ xs.length ∧ Cw H1 (fun _ => true) v Dl i Hi, ⟨xs.length, rfl, Nat.zero_le _, hD, Ex.new hD, upd_same⟩, by
      rintro i k Hi ⟨rfl, hi, p⟩
      have qx := ex_t ((e.trans e1).trans p.2.1) hx
      have qy := ex_t ((e.trans e1).trans p.2.1) hy
      by_cases hlt : i < xs.length
      · have hlt2 : i < ys.length := by omega
        refine .inr ⟨⟨xs, ys, _, _, qx, qy, List.getElem?_eq_getElem hlt, List.getElem?_eq_getElem hlt2⟩, Cw H1 (fun _ => true) v Dl (i + 1), fun H' p' => ⟨xs.length - (i + 1), by omega, rfl, hlt, p'⟩, fun u Hu yy => ?_⟩
        obtain ⟨T, x', y', rfl, hT, rfl, f1, f2⟩ := yy
        have gx := f1 xs qx
        have gy := f2 ys qy
        have hTD : T ≠ Dl := fun z => by
          rw [z, p.2.2] at hT
          cases hT
        have p2 : Cw H1 (fun _ => true) v Dl i (upd Hi T (.tup [x', y'])) := ⟨p.1, p.2.1.trans (Ex.new hT), by rw [upd_ne hTD.symm]; exact p.2.2⟩
        exact ⟨T, [x', y'], rfl, st_of upd_same, rfl, x', [y'], rfl, y', [], rfl, rfl, hw _ _, cw_turn (t := tYes) p2 (by omega) (fun H3 e3 Q3 q3 => q3 H3 (Ex.refl H3)) fun _ => he i x' y' H1 (e.trans e1) gx gy⟩
      · have ei : i = xs.length := by omega
        subst ei
        exact .inl ⟨⟨xs, ys, qx, qy, .inl (Nat.le_refl _)⟩, q Dl Hi (fresh_back e1 p.1) (e1.trans p.2.1) p.2.2⟩⟩⟩⟩
end
end My
namespace My
open PySem PySem.Spec PyProof.Rows L2 Evl
section
variable {K : PySem.W.Frag} {σ : L2.St} {H H' : Hp} {ta tb te tx tv : TE} {t u : TT} {x y z v : V} {D : Ends} {tu tw tz : TS} {g : TG} {i j : Int} {b : Bool} {C a dx : Addr} {fs : List (Str × V)} {f : Str}
theorem takes0 {X : Cx} : Takes X (fun _ _ _ _ => False) := fun _ _ x => by
  obtain ⟨_, _, _, _, _, _, _, _, _, _, _, _, _, _, _, _, z⟩ := x
  exact z.elim
theorem given_all {zs : List V} {n : Nat} (hn : zs.length = n) : given n (fun _ => true) (fun i => zs.getD i .non) = zs := by
  subst hn
  unfold given
  rw [List.filter_eq_self.mpr (by simp)]
  refine List.ext_getElem? fun i => ?_
  rw [List.getElem?_map]
  by_cases h : i < zs.length
  · rw [List.getElem?_range h, List.getElem?_eq_getElem h]
    simp [List.getD, h]
  · rw [List.getElem?_eq_none (by simpa using h), List.getElem?_eq_none (by omega)]
    rfl
theorem getD_some {zs : List V} {i : Nat} {n : Nat} (hn : zs.length = n) (h : i < n) : zs[i]? = some (zs.getD i .non) := by
  subst hn
  rw [List.getElem?_eq_getElem h]
  simp [List.getD, h]
/-- a comprehension over zip of two tuples: its items are zs -/
theorem el_zipT {ta : TA} {a b : Addr} {xs ys zs : List V} {n m : Nat} {vs : List Nat} (h : EvA ta σ H [.ref a, .ref b]) (hx : SqT K H a xs) (hy : SqT K H b ys) (hl : xs.length = ys.length) (hzs : zs.length = xs.length) (hz : xs.length ≤ 40000)
    (hw : ∀ x y, wipe (((wipe σ vs).set n (some x)).set m (some y)) vs = wipe σ vs)
    (he : ∀ (i : Nat) (x y z : V) H1, Ex H H1 → xs[i]? = some x → ys[i]? = some y → zs[i]? = some z → Ev te (((wipe σ vs).set n (some x)).set m (some y)) H1 z) :
    EvL (tLc (RZ.iZipA K ta) (gTup K 2 (gCons (gName n) (gCons (gName m) gNil))) tYes te vs) σ H zs := by
  have q := el_lcZT (te := te) (fun i => zs.getD i .non) h hx hy hl hz hw fun i x y H1 e hx' hy' => he i x y _ H1 e hx' hy' (getD_some hzs (by
    have := (List.getElem?_eq_some_iff.mp hx').1
    omega))
  rwa [given_all hzs] at q
theorem et_yes : EvT tYes σ H true := fun H1 _ _ q => q H1 (Ex.refl H1)
/-- .. over a range, without a test -/
theorem el_rng {ta : TA} {j : Nat} {vs : List Nat} {n : Int} {zs : List V} (h : EvA ta σ H [.int n]) (hn : 0 ≤ n ∧ n ≤ 40000) (hzs : zs.length = n.toNat) (hw : ∀ x, wipe ((wipe σ vs).set j (some x)) vs = wipe σ vs)
    (he : ∀ (i : Nat) (z : V) H1, Ex H H1 → (i : Int) < n → zs[i]? = some z → Ev te ((wipe σ vs).set j (some (.int (i : Int)))) H1 z) :
    EvL (tLc (iRng1 ta) (gName j) tYes te vs) σ H zs := by
  have q := el_lcR1 (t := tYes) (te := te) (fun _ => true) (fun i => zs.getD i .non) h hn hw (fun i H1 _ _ => et_yes) fun i H1 e hi _ => he i _ H1 e hi (getD_some hzs (by omega))
  rwa [given_all hzs] at q
end
end My
namespace My
open PySem PySem.Spec PyProof.Rows L2 Evl
/-! ### methods; calls that may raise -/
section
variable {K : PySem.W.Frag} {σ : L2.St} {H H' : Hp} {ta tb te tx tv : TE} {t : TA} {x y z v : V} {D : Ends} {tu tw tz : TS} {C a dx : Addr} {fs : List (Str × V)} {m : Str} {sp : Sp} {E : XK} {ES : L2.St → XK} {vs : List V} {Q : VK} {d : PyData}
theorem cs_ask (ht : EvA t σ H vs) (k : ∀ H1, Ex H H1 → sp vs H1 Q (ES σ)) : tCallS sp ES t σ H Q := ht H (Ex.refl H) _ k
theorem ms_ask (ho : Ev ta σ H (.ref a)) (hi : H a = some (.ins C dx fs)) (hm : fs.lookup m = none) (ht : EvA t σ H vs) (k : ∀ H1, Ex H H1 → sp (.ref a :: vs) H1 Q (ES σ)) : tMethS C m sp ES ta t σ H Q := ho H (Ex.refl H) _ fun H1 e1 =>
  ⟨a, dx, fs, rfl, e1 _ _ hi, hm, ht H1 e1 _ fun H2 e2 => k H2 (e1.trans e2)⟩
theorem mm_ask (ho : Ev ta σ H (.ref a)) (hi : H a = some (.ins C dx fs)) (hm : fs.lookup m = none) (ht : EvA t σ H vs) (k : ∀ H1, Ex H H1 → sp (.ref a :: vs) H1 Q E) : tMeth C m sp [] E ta t σ H Q := ho H (Ex.refl H) _ fun H1 e1 =>
  ⟨a, dx, fs, rfl, e1 _ _ hi, hm, ht H1 e1 _ fun H2 e2 => by
    rw [List.append_nil]
    exact k H2 (e1.trans e2)⟩
theorem ev_callS (ht : EvA t σ H vs) (k : SpV sp vs H z) : Ev (tCallS sp ES t) σ H z := fun H1 e Q q => cs_ask (ht.mono e) fun H2 e2 => k H2 (e.trans e2) Q (fun H3 e3 => q H3 (e2.trans e3)) _
theorem ev_methS (ho : Ev ta σ H (.ref a)) (hi : H a = some (.ins C dx fs)) (hm : fs.lookup m = none) (ht : EvA t σ H vs) (k : SpV sp (.ref a :: vs) H z) : Ev (tMethS C m sp ES ta t) σ H z := fun H1 e Q q =>
  ms_ask (ho.mono e) (e _ _ hi) hm (ht.mono e) fun H2 e2 => k H2 (e.trans e2) Q (fun H3 e3 => q H3 (e2.trans e3)) _
theorem ev_meth (ho : Ev ta σ H (.ref a)) (hi : H a = some (.ins C dx fs)) (hm : fs.lookup m = none) (ht : EvA t σ H vs) (k : SpV sp (.ref a :: vs) H z) : Ev (tMeth C m sp [] E ta t) σ H z := fun H1 e Q q =>
  mm_ask (ho.mono e) (e _ _ hi) hm (ht.mono e) fun H2 e2 => k H2 (e.trans e2) Q (fun H3 e3 => q H3 (e2.trans e3)) _
/-- what a call gives is data -/
def SpVD (K : PySem.W.Frag) (sp : Sp) (vs : List V) (H : Hp) (d : PyData) : Prop := ∀ H1, Ex H H1 → ∀ Q : VK, RetD K d H1 Q → ∀ E : XK, sp vs H1 Q E
theorem evd_callV (ht : EvA t σ H vs) (k : SpVD K sp vs H d) : EvD K (tCall sp [] E t) σ H d := fun H1 e Q q => ht H1 e _ fun H2 e2 => by
  show sp (vs ++ []) H2 Q E
  rw [List.append_nil]
  exact k H2 (e.trans e2) Q (fun v H3 e3 hd => q v H3 (e2.trans e3) hd) E
theorem evd_methS (ho : Ev ta σ H (.ref a)) (hi : H a = some (.ins C dx fs)) (hm : fs.lookup m = none) (ht : EvA t σ H vs) (k : SpVD K sp (.ref a :: vs) H d) : EvD K (tMethS C m sp ES ta t) σ H d := fun H1 e Q q =>
  ms_ask (ho.mono e) (e _ _ hi) hm (ht.mono e) fun H2 e2 => k H2 (e.trans e2) Q (fun v H3 e3 hd => q v H3 (e2.trans e3) hd) _
theorem evd_meth (ho : Ev ta σ H (.ref a)) (hi : H a = some (.ins C dx fs)) (hm : fs.lookup m = none) (ht : EvA t σ H vs) (k : SpVD K sp (.ref a :: vs) H d) : EvD K (tMeth C m sp [] E ta t) σ H d := fun H1 e Q q =>
  mm_ask (ho.mono e) (e _ _ hi) hm (ht.mono e) fun H2 e2 => k H2 (e.trans e2) Q (fun v H3 e3 hd => q v H3 (e2.trans e3) hd) _
end
end My
namespace My
open PySem PySem.Spec PyProof.Rows L2 Evl
/-! ### isinstance of a caught error -/
section
variable {K : PySem.W.Frag} {σ : L2.St} {H H' : Hp} {te tx : TE} {ta : TA} {D a dd : Addr} {fs : List (Str × V)} {c v : V} {cv : Value} {b : Bool} {f : Str}
theorem ev_isX {tc : TE} (hx : Ev tx σ H (.ref a)) (hc : Ev tc σ H c) (hd : H dd = some (.xd fs)) (k : ClsV c cv) (hk : PySem.W.kitOne K (.ref D) cv = some b) : Ev (tCB (rIsX K D a (.ref D) (some dd)) (tCons tx (tCons tc tNil))) σ H (.bl b) := fun H1 e Q q =>
  hx H1 e _ fun H2 e2 => hc H2 (e.trans e2) _ fun H3 e3 => ⟨rfl, ⟨dd, fs, rfl, ((e.trans e2).trans e3) _ _ hd⟩, .inl ⟨c, cv, b, rfl, k, hk, q H3 (e2.trans e3)⟩⟩
theorem ev_isXT {cs : List V} {us : List Value} (hx : Ev tx σ H (.ref a)) (hc : EvA ta σ H cs) (hl : cs.length ≤ 100) (hd : H dd = some (.xd fs)) (k : Paired ClsV cs us) (hk : PySem.W.kitAny K (.ref D) us = some b) : Ev (tCB (rIsX K D a (.ref D) (some dd)) (tCons tx (tCons (tTup ta) tNil))) σ H (.bl b) := fun H1 e Q q =>
  hx H1 e _ fun H2 e2 => hc H2 (e.trans e2) _ fun H3 e3 => ⟨sz_of (by omega), fun p hp => by
    have E3 := (e2.trans e3).trans (Ex.new (o := .tup cs) hp)
    exact ⟨rfl, ⟨dd, fs, rfl, (e.trans E3) _ _ hd⟩, .inr ⟨p, cs, us, b, rfl, upd_same, k, hk, q _ E3⟩⟩⟩
theorem ev_xf (hx : Ev te σ H (.ref a)) (hd : H dd = some (.xd fs)) (hl : fs.lookup f = some v) : Ev (tXf a (.ref D) (some dd) D f te) σ H v := fun H1 e Q q =>
  hx H1 e _ fun H2 e2 => ⟨rfl, rfl, dd, fs, v, rfl, (e.trans e2) _ _ hd, hl, q H2 e2⟩
/-- an error class named by a def, its catch in a suite -/
theorem catch_as {C B : Addr} {i : Nat} {ts : Addr → Value → Option Addr → TS} {Wout : WX} {DD : Ends} (hx : PySem.W.exmOne K (.ref C) (.ref B) = some true)
    (k : ∀ d H', H d = none → Ex H H' → H' d = some (.xd fs) → ∀ a, H' a = none → ts a (.ref C) (some d) { nx := fun σ' H' => DD.nx (σ'.set i none) H', rt := DD.rt, bk := fun σ' H' => DD.bk (σ'.set i none) H', ct := fun σ' H' => DD.ct (σ'.set i none) H' } (σ.set i (some (.ref a))) H') :
    RaiseR C fs H (WE (wAs K (.ref B) i ts Wout DD) σ) := fun d H' n e h => ⟨true, hx, fun _ a na => k d H' n e h a na, fun z => nomatch z⟩
end
end My
namespace My
open PySem PySem.Spec PyProof.Rows L2 Evl
section
variable {K : PySem.W.Frag} {σ : L2.St} {H H' : Hp} {te tx : TE} {ta : TA} {a l : Addr} {v : V} {xs : List V} {ns : List Int}
theorem evd_Li (h : EvL te σ H (ns.map V.int)) : EvD K te σ H (.list (ns.map PyData.int)) := fun H1 e Q q => h H1 e _ fun p H2 _ e2 h2 => q _ H2 e2 (.lst (sq_of h2) (dpa_ints ns))
theorem evd_Ui (h : EvU te σ H (ns.map V.int)) : EvD K te σ H (.tuple (ns.map PyData.int)) := fun H1 e Q q => h H1 e _ fun p H2 _ e2 h2 => q _ H2 e2 (.tup (st_of h2) (dpa_ints ns))
theorem dp_tups {a : Addr} (h : SqT K H a (ns.map V.int)) : Dp K H (.ref a) (.tuple (ns.map PyData.int)) := .tup h (dpa_ints ns)
theorem el_listQ (ha : Ev te σ H (.ref a)) (h : SqL K H a xs) : EvL (tCB (rListQ K) (tCons te tNil)) σ H xs := fun H1 e Q q =>
  ha H1 e _ fun H2 e2 => ⟨a, xs, rfl, .inl (ex_l (e.trans e2) h), fun l hl => q l _ (fresh_back e2 hl) (e2.trans (Ex.new hl)) upd_same⟩
theorem dn_tups {n : Nat} (h : ns.length ≤ 40000) : Dn (n + 1) (.tuple (ns.map PyData.int)) := by
  simp only [Dn, List.length_map]
  refine ⟨h, fun d hd => ?_⟩
  obtain ⟨x, _, rfl⟩ := List.mem_map.mp hd
  simp [Dn]
theorem dn_lists {n : Nat} (h : ns.length ≤ 40000) : Dn (n + 1) (.list (ns.map PyData.int)) := by
  simp only [Dn, List.length_map]
  refine ⟨h, fun d hd => ?_⟩
  obtain ⟨x, _, rfl⟩ := List.mem_map.mp hd
  simp [Dn]
theorem dn_int {n : Nat} {i : Int} : Dn n (.int i) := by simp [Dn]
theorem sql_keep {p : Addr} {o o2 : HO} (hp : H p = some o2) (h1 : ∀ xs, o2 ≠ .lst xs) (h2 : ∀ c d, o2 ≠ .frz c d) (h : SqL K H a xs) : SqL K (upd H p o) a xs := by
  rcases h with (h | ⟨c, h⟩) | h
  · refine .inl (.inl ?_)
    rw [upd_ne]
    · exact h
    · intro z
      subst z
      rw [hp] at h
      exact h1 _ (Option.some.inj h)
  · refine .inl (.inr ⟨c, ?_⟩)
    rw [upd_ne]
    · exact h
    · intro z
      subst z
      rw [hp] at h
      exact h2 _ _ (Option.some.inj h)
  · exact .inr h
/-- a value that is a list or a tuple -/
theorem evp_var {i : Nat} {P : V → Hp → Prop} (h : σ[i]? = some (some v)) (p : ∀ H1, Ex H H1 → P v H1) : EvP (tVar i) σ H P := fun H1 e Q q => ev_var h H1 e _ fun H2 e2 => q _ H2 e2 (p H2 (e.trans e2))
theorem evp_U {P : V → Hp → Prop} (h : EvU te σ H xs) (p : ∀ l H1, H1 l = some (.tup xs) → P (.ref l) H1) : EvP te σ H P := fun H1 e Q q => h H1 e _ fun l H2 _ e2 h2 => q _ H2 e2 (p l H2 h2)
end
end My

namespace Mi
open PySem PySem.Spec PyProof.Rows L2 Evl My
/-! ### values and a store of one's own; what a piece of the program does to them -/
inductive D where
  | non | bl (b : Bool) | int (i : Int) | str (x : Str) | ref (l : Nat) | tup (xs : List D)
/-- what lies at a place of the store: a list, a list that is only read, a dict, an instance -/
inductive O where
  | lst (xs : List D) | rol (xs : List D) | dK (kvs : List (Key × D)) | dT (kvs : List (List Key × D)) | ins (C : Str) (fs : List (Str × D)) | set (f : Int → Bool) (n : Nat) | opq | tbls (T : List ((Str × Option Str) × Str))
abbrev Sto := List O
/-- what an expression ends with: a value, an error of an own class, nothing that is told -/
inductive R (α : Type) where
  | ok (a : α) (S : Sto) | exc (c : Str) (fs : List (Str × D)) (S : Sto) | bad
abbrev Env := List (Option D)
inductive RS where
  | nx (e : Env) (S : Sto) | ret (d : D) (S : Sto) | bk (e : Env) (S : Sto) | ct (e : Env) (S : Sto) | exc (c : Str) (fs : List (Str × D)) (e : Env) (S : Sto) | bad
def R.bind {α β : Type} (r : R α) (g : α → Sto → R β) : R β := match r with
  | .ok a S => g a S
  | .exc c fs S => .exc c fs S
  | .bad => .bad
def R.bindS {α : Type} (r : R α) (env : Env) (g : α → Sto → RS) : RS := match r with
  | .ok a S => g a S
  | .exc c fs S => .exc c fs env S
  | .bad => .bad
def RS.seq (r : RS) (g : Env → Sto → RS) : RS := match r with
  | .nx e S => g e S
  | r => r
@[simp] theorem R.bind_ok {α β : Type} {a : α} {S : Sto} {g : α → Sto → R β} : (R.ok a S).bind g = g a S := rfl
@[simp] theorem R.bind_exc {α β : Type} {c : Str} {fs : List (Str × D)} {S : Sto} {g : α → Sto → R β} : (R.exc c fs S).bind g = .exc c fs S := rfl
@[simp] theorem R.bind_bad {α β : Type} {g : α → Sto → R β} : (R.bad).bind g = .bad := rfl
@[simp] theorem R.bindS_ok {α : Type} {a : α} {S : Sto} {env : Env} {g : α → Sto → RS} : (R.ok a S).bindS env g = g a S := rfl
@[simp] theorem R.bindS_exc {α : Type} {c : Str} {fs : List (Str × D)} {S : Sto} {env : Env} {g : α → Sto → RS} : (R.exc c fs S).bindS env g = .exc c fs env S := rfl
@[simp] theorem R.bindS_bad {α : Type} {env : Env} {g : α → Sto → RS} : (R.bad).bindS env g = .bad := rfl
@[simp] theorem RS.seq_nx {e : Env} {S : Sto} {g : Env → Sto → RS} : (RS.nx e S).seq g = g e S := rfl
@[simp] theorem RS.seq_ret {d : D} {S : Sto} {g : Env → Sto → RS} : (RS.ret d S).seq g = .ret d S := rfl
@[simp] theorem RS.seq_bk {e : Env} {S : Sto} {g : Env → Sto → RS} : (RS.bk e S).seq g = .bk e S := rfl
@[simp] theorem RS.seq_ct {e : Env} {S : Sto} {g : Env → Sto → RS} : (RS.ct e S).seq g = .ct e S := rfl
@[simp] theorem RS.seq_exc {c : Str} {fs : List (Str × D)} {e : Env} {S : Sto} {g : Env → Sto → RS} : (RS.exc c fs e S).seq g = .exc c fs e S := rfl
@[simp] theorem RS.seq_bad {g : Env → Sto → RS} : (RS.bad).seq g = .bad := rfl
/-- what lies at a place -/
def at_ (S : Sto) (l : Nat) : Option O := S[l]?
/-- a list that may be read -/
def rdL (S : Sto) (l : Nat) : Option (List D) := match at_ S l with
  | some (.lst xs) => some xs
  | some (.rol xs) => some xs
  | _ => none
/-! ### what stands for what -/
section
variable (K : PySem.W.Frag) (φ : Nat → Addr) (n : Nat) (H : Hp)
mutual
inductive VR : D → V → Prop where
  | non : VR .non .non
  | bl (b : Bool) : VR (.bl b) (.bl b)
  | int (i : Int) : VR (.int i) (.int i)
  | str (x : Str) : VR (.str x) (.str x)
  | ref {l : Nat} (h : l < n) : VR (.ref l) (.ref (φ l))
  | tup {a : Addr} {xs : List D} {vs : List V} (h : SqT K H a vs) (t : VRs xs vs) : VR (.tup xs) (.ref a)
inductive VRs : List D → List V → Prop where
  | nil : VRs [] []
  | cons {x : D} {v : V} {xs : List D} {vs : List V} (h : VR x v) (t : VRs xs vs) : VRs (x :: xs) (v :: vs)
end
inductive KR {κ : Type} : List (κ × D) → List (κ × V) → Prop where
  | nil : KR [] []
  | cons {k : κ} {x : D} {v : V} {xs : List (κ × D)} {vs : List (κ × V)} (h : VR K φ n H x v) (t : KR xs vs) : KR ((k, x) :: xs) ((k, v) :: vs)
/-- the tables of code objects of the defs that make lambdas, and how these are called -/
def tabsK (T : List ((Str × Option Str) × Str)) : List (Addr × Str) := T.map fun p => ((He.cT K p.1).2, p.2)
def OR (a : Addr) : O → Prop
  | .lst xs => ∃ vs, H a = some (.lst vs) ∧ VRs K φ n H xs vs
  | .rol xs => ∃ vs, ((∃ o, H a = some (.frz o (.lst vs))) ∨ ∀ H', SqL K H' a vs) ∧ VRs K φ n H xs vs
  | .dK kvs => ∃ kws, H a = some (.dK kws) ∧ KR K φ n H kvs kws
  | .dT kvs => ∃ kws, H a = some (.dT kws) ∧ KR K φ n H kvs kws
  | .ins C fs => ∃ dx fv, H a = some (.ins (He.ga K C) dx fv) ∧ KR K φ n H fs fv
  | .set f m => H a = some (.set f m)
  | .opq => True
  | .tbls T => LamX.Tabs (tabsK K T) H ∧ ∀ p ∈ tabsK K T, ∀ p' ∈ tabsK K T, p.1 = p'.1 → p.2 = p'.2
end
def mutO : O → Bool
  | .rol _ => false
  | .opq => false
  | .tbls _ => false
  | _ => true
def isT : O → Bool
  | .tbls _ => true
  | _ => false
structure Rel (K : PySem.W.Frag) (φ : Nat → Addr) (S : Sto) (H : Hp) : Prop where
  inj : ∀ i j o u, S[i]? = some o → S[j]? = some u → mutO o = true → mutO u = true → φ i = φ j → i = j
  ob : ∀ l o, S[l]? = some o → OR K φ S.length H (φ l) o
  tu : ∀ l o, S[l]? = some o → isT o = true → l = 1
/-- what comes later -/
structure Fut (K : PySem.W.Frag) (φ : Nat → Addr) (n : Nat) (H : Hp) (φ' : Nat → Addr) (n' : Nat) (H' : Hp) : Prop where
  le : n ≤ n'
  ag : ∀ l, l < n → φ' l = φ l
  tp : ∀ a vs, SqT K H a vs → SqT K H' a vs
  xd : ∀ a fs, H a = some (.xd fs) → H' a = some (.xd fs)
section
variable {K : PySem.W.Frag} {φ φ1 φ2 φ' : Nat → Addr} {n n1 n2 n' : Nat} {H H1 H2 H' : Hp}
theorem Fut.refl : Fut K φ n H φ n H := ⟨Nat.le_refl _, fun _ _ => rfl, fun _ _ h => h, fun _ _ h => h⟩
theorem Fut.trans (a : Fut K φ n H φ1 n1 H1) (b : Fut K φ1 n1 H1 φ2 n2 H2) : Fut K φ n H φ2 n2 H2 :=
  ⟨Nat.le_trans a.le b.le, fun l h => (b.ag l (Nat.lt_of_lt_of_le h a.le)).trans (a.ag l h), fun c vs h => b.tp c vs (a.tp c vs h), fun c fs h => b.xd c fs (a.xd c fs h)⟩
theorem Fut.ex (e : Ex H H') : Fut K φ n H φ n H' := ⟨Nat.le_refl _, fun _ _ => rfl, fun _ _ h => ex_t e h, fun _ _ h => e _ _ h⟩
mutual
theorem VR.fut (f : Fut K φ n H φ' n' H') : ∀ {d : D} {v : V}, VR K φ n H d v → VR K φ' n' H' d v
  | _, _, .non => .non
  | _, _, .bl b => .bl b
  | _, _, .int i => .int i
  | _, _, .str x => .str x
  | _, _, .ref h => by rw [← f.ag _ h]; exact .ref (Nat.lt_of_lt_of_le h f.le)
  | _, _, .tup h t => .tup (f.tp _ _ h) (VRs.fut f t)
theorem VRs.fut (f : Fut K φ n H φ' n' H') : ∀ {d : List D} {v : List V}, VRs K φ n H d v → VRs K φ' n' H' d v
  | _, _, .nil => .nil
  | _, _, .cons h t => .cons (VR.fut f h) (VRs.fut f t)
end
theorem KR.fut {κ : Type} (f : Fut K φ n H φ' n' H') : ∀ {d : List (κ × D)} {v : List (κ × V)}, KR K φ n H d v → KR K φ' n' H' d v
  | _, _, .nil => .nil
  | _, _, .cons h t => .cons (VR.fut f h) (KR.fut f t)
theorem VRs.len : ∀ {d : List D} {v : List V}, VRs K φ n H d v → v.length = d.length
  | _, _, .nil => rfl
  | _, _, .cons _ t => congrArg Nat.succ (VRs.len t)
theorem VRs.app : ∀ {d e : List D} {v w : List V}, VRs K φ n H d v → VRs K φ n H e w → VRs K φ n H (d ++ e) (v ++ w)
  | _, _, _, _, .nil, h => h
  | _, _, _, _, .cons a t, h => .cons a (VRs.app t h)
theorem VRs.one {d : D} {v : V} (h : VR K φ n H d v) : VRs K φ n H [d] [v] := .cons h .nil
theorem VRs.get : ∀ {xs : List D} {vs : List V} {i : Nat} {x : D}, VRs K φ n H xs vs → xs[i]? = some x → ∃ v, vs[i]? = some v ∧ VR K φ n H x v
  | _, _, 0, _, .cons h _, e => ⟨_, rfl, by cases e; exact h⟩
  | _, _, i + 1, _, .cons _ t, e => VRs.get (i := i) t e
theorem VRs.take : ∀ {xs : List D} {vs : List V} (m : Nat), VRs K φ n H xs vs → VRs K φ n H (xs.take m) (vs.take m)
  | _, _, 0, _ => .nil
  | _, _, _ + 1, .nil => .nil
  | _, _, m + 1, .cons h t => .cons h (VRs.take m t)
theorem VRs.drop : ∀ {xs : List D} {vs : List V} (m : Nat), VRs K φ n H xs vs → VRs K φ n H (xs.drop m) (vs.drop m)
  | _, _, 0, h => h
  | _, _, _ + 1, .nil => .nil
  | _, _, m + 1, .cons _ t => VRs.drop m t
theorem VRs.set : ∀ {xs : List D} {vs : List V} {x : D} {v : V} (i : Nat), VRs K φ n H xs vs → VR K φ n H x v → VRs K φ n H (xs.set i x) (vs.set i v)
  | _, _, _, _, _, .nil, _ => .nil
  | _, _, _, _, 0, .cons _ t, h => .cons h t
  | _, _, _, _, i + 1, .cons h0 t, h => .cons h0 (VRs.set i t h)
theorem VRs.eraseIdx : ∀ {xs : List D} {vs : List V} (i : Nat), VRs K φ n H xs vs → VRs K φ n H (xs.eraseIdx i) (vs.eraseIdx i)
  | _, _, _, .nil => .nil
  | _, _, 0, .cons _ t => t
  | _, _, i + 1, .cons h0 t => .cons h0 (VRs.eraseIdx i t)
theorem VRs.dropLast : ∀ {xs : List D} {vs : List V}, VRs K φ n H xs vs → VRs K φ n H xs.dropLast vs.dropLast
  | _, _, .nil => .nil
  | _, _, .cons _ .nil => .nil
  | _, _, .cons h (.cons h2 t) => .cons h (VRs.dropLast (.cons h2 t))
theorem VRs.reverse {xs : List D} {vs : List V} (h : VRs K φ n H xs vs) : VRs K φ n H xs.reverse vs.reverse := by
  induction xs generalizing vs with
  | nil => cases h; exact .nil
  | cons x xs ih =>
    cases h with
    | cons h t =>
      rw [List.reverse_cons, List.reverse_cons]
      exact (ih t).app (.one h)
theorem VRs.repl {x : D} {v : V} (h : VR K φ n H x v) : ∀ m, VRs K φ n H (List.replicate m x) (List.replicate m v)
  | 0 => .nil
  | m + 1 => .cons h (VRs.repl h m)
theorem VRs.ints : ∀ ns : List Int, VRs K φ n H (ns.map D.int) (ns.map V.int)
  | [] => .nil
  | i :: r => .cons (.int i) (VRs.ints r)
theorem VRs.ints_inv : ∀ {ns : List Int} {vs : List V}, VRs K φ n H (ns.map D.int) vs → vs = ns.map V.int
  | [], _, .nil => rfl
  | i :: r, _, .cons h t => by
    cases h
    rw [VRs.ints_inv t]
    rfl
theorem VR.int_inv {i : Int} {v : V} (h : VR K φ n H (.int i) v) : v = .int i := by cases h; rfl
theorem VR.bl_inv {i : Bool} {v : V} (h : VR K φ n H (.bl i) v) : v = .bl i := by cases h; rfl
theorem VR.str_inv {i : Str} {v : V} (h : VR K φ n H (.str i) v) : v = .str i := by cases h; rfl
theorem VR.non_inv {v : V} (h : VR K φ n H .non v) : v = .non := by cases h; rfl
theorem VR.ref_inv {l : Nat} {v : V} (h : VR K φ n H (.ref l) v) : l < n ∧ v = .ref (φ l) := by cases h with | ref h => exact ⟨h, rfl⟩
theorem VR.tup_inv {xs : List D} {v : V} (h : VR K φ n H (.tup xs) v) : ∃ a vs, v = .ref a ∧ SqT K H a vs ∧ VRs K φ n H xs vs := by
  cases h with | tup h t => exact ⟨_, _, rfl, h, t⟩
/-! ### the store grows, changes -/
/-- what is written over, or is neither a tuple nor locked -/
def MHO : HO → Prop
  | .lst _ => True
  | .dK _ => True
  | .dT _ => True
  | .ins _ _ _ => True
  | .set _ _ => True
  | _ => False
theorem OR.mho {a : Addr} {o : O} (h : OR K φ n H a o) (m : mutO o = true) : ∃ u, H a = some u ∧ MHO u := by
  cases o with
  | lst xs => obtain ⟨vs, h, _⟩ := h; exact ⟨_, h, trivial⟩
  | rol xs => cases m
  | dK xs => obtain ⟨vs, h, _⟩ := h; exact ⟨_, h, trivial⟩
  | dT xs => obtain ⟨vs, h, _⟩ := h; exact ⟨_, h, trivial⟩
  | ins C fs => obtain ⟨dx, vs, h, _⟩ := h; exact ⟨_, h, trivial⟩
  | set f m => exact ⟨_, h, trivial⟩
  | opq => cases m
  | tbls T => cases m
theorem sqt_upd {p a : Addr} {o u : HO} {xs : List V} (hp : H p = some u) (m : MHO u) (h : SqT K H a xs) : SqT K (upd H p o) a xs := by
  refine sqt_keep hp (fun xs z => ?_) (fun c d z => ?_) h
  · subst z; exact m
  · subst z; exact m
theorem Fut.upd {p : Addr} {o u : HO} (hp : H p = some u) (m : MHO u) : Fut K φ n H φ n (upd H p o) := ⟨Nat.le_refl _, fun _ _ => rfl, fun _ _ h => sqt_upd hp m h, fun a fs h => by
  rw [upd_ne]
  · exact h
  · intro z
    rw [z, hp] at h
    cases h
    exact m⟩
/-- the same object elsewhere in time -/
theorem tabs_upd {p : Addr} {o u : HO} (hp : H p = some u) (m : MHO u) {T : List (Addr × Str)} (h : LamX.Tabs T H) : LamX.Tabs T (upd H p o) := fun q hq => by
  have ne : ∀ b v, H b = some v → ¬ MHO v → b ≠ p := fun b v e n z => by
    rw [z, hp] at e
    cases e
    exact n m
  obtain ⟨ps, h1, h2, h3⟩ := h q hq
  refine ⟨ps, by rw [upd_ne (ne _ _ h1 id)]; exact h1, h2, fun pos cv hc => ?_⟩
  obtain ⟨c, e1, e2⟩ := h3 pos cv hc
  exact ⟨c, e1, by rw [upd_ne (ne _ _ e2 id)]; exact e2⟩
theorem OR.fut {a : Addr} {o : O} (f : Fut K φ n H φ' n' H') (ht : ∀ T, LamX.Tabs T H → LamX.Tabs T H') (h : OR K φ n H a o) (e : ∀ u, H a = some u → H' a = some u) : OR K φ' n' H' a o := by
  cases o with
  | lst xs => obtain ⟨vs, h, r⟩ := h; exact ⟨vs, e _ h, r.fut f⟩
  | rol xs =>
    obtain ⟨vs, h, r⟩ := h
    refine ⟨vs, ?_, r.fut f⟩
    rcases h with ⟨o, h⟩ | h
    · exact .inl ⟨o, e _ h⟩
    · exact .inr h
  | dK xs => obtain ⟨vs, h, r⟩ := h; exact ⟨vs, e _ h, r.fut f⟩
  | dT xs => obtain ⟨vs, h, r⟩ := h; exact ⟨vs, e _ h, r.fut f⟩
  | ins C fs => obtain ⟨dx, vs, h, r⟩ := h; exact ⟨dx, vs, e _ h, r.fut f⟩
  | set f m => exact e _ h
  | opq => trivial
  | tbls T => exact ⟨ht _ h.1, h.2⟩
theorem Rel.ex {S : Sto} (r : Rel K φ S H) (e : Ex H H') : Rel K φ S H' := ⟨r.inj, fun l o h => (r.ob l o h).fut (Fut.ex e) (fun _ q => q.ext e) (fun u hu => e _ _ hu), r.tu⟩
theorem Rel.put {S : Sto} {l : Nat} {o o' : O} {u : HO} (r : Rel K φ S H) (hl : S[l]? = some o) (m : mutO o = true) (m' : mutO o' = true) (hn : OR K φ S.length (L2.upd H (φ l) u) (φ l) o') :
    Rel K φ (S.set l o') (L2.upd H (φ l) u) ∧ Fut K φ S.length H φ (S.set l o').length (L2.upd H (φ l) u) := by
  obtain ⟨w, hw, mw⟩ := (r.ob l o hl).mho m
  have f : Fut K φ S.length H φ S.length (L2.upd H (φ l) u) := Fut.upd hw mw
  have hlt := (List.getElem?_eq_some_iff.mp hl).1
  refine ⟨⟨fun i j oi oj hi hj mi mj e => ?_, fun i oi hi => ?_, fun i oi hi ti => ?_⟩, by rw [List.length_set]; exact f⟩
  rotate_left 2
  · by_cases h1 : i = l
    · subst h1
      rw [List.getElem?_set_self hlt] at hi
      cases hi
      cases o' with
      | tbls T => cases m'
      | _ => cases ti
    · rw [List.getElem?_set_ne (by omega)] at hi
      exact r.tu i oi hi ti
  · by_cases h1 : i = l <;> by_cases h2 : j = l
    · rw [h1, h2]
    · subst h1
      rw [List.getElem?_set_ne (by omega)] at hj
      exact r.inj i j o oj hl hj m mj e
    · subst h2
      rw [List.getElem?_set_ne (by omega)] at hi
      exact r.inj i j oi o hi hl mi m e
    · rw [List.getElem?_set_ne (by omega)] at hi hj
      exact r.inj i j oi oj hi hj mi mj e
  · rw [List.length_set]
    by_cases h1 : i = l
    · subst h1
      rw [List.getElem?_set_self hlt] at hi
      cases hi
      exact hn
    · rw [List.getElem?_set_ne (by omega)] at hi
      have hi' := r.ob i oi hi
      cases mi : mutO oi with
      | true =>
        refine hi'.fut f (fun _ q => tabs_upd hw mw q) fun v hv => ?_
        rw [upd_ne]
        · exact hv
        · intro z
          exact h1 (r.inj i l oi o hi hl mi m z)
      | false =>
        cases oi with
        | rol xs =>
          obtain ⟨vs, h, q⟩ := hi'
          refine ⟨vs, ?_, q.fut f⟩
          rcases h with ⟨ob, h⟩ | h
          · refine .inl ⟨ob, ?_⟩
            rw [upd_ne]
            · exact h
            · intro z
              rw [z, hw] at h
              cases h
              exact mw
          · exact .inr h
        | opq => trivial
        | tbls T => exact ⟨tabs_upd hw mw hi'.1, hi'.2⟩
        | _ => cases mi
/-- the store's next place -/
def nxt (φ : Nat → Addr) (n : Nat) (p : Addr) : Nat → Addr := fun i => if i = n then p else φ i
theorem nxt_at {p : Addr} : nxt φ n p n = p := by simp [nxt]
theorem Fut.new {p : Addr} {u : HO} (hp : H p = none) : Fut K φ n H (nxt φ n p) (n + 1) (L2.upd H p u) :=
  ⟨Nat.le_succ _, fun l h => by simp [nxt, Nat.ne_of_lt h], fun _ _ h => ex_t (Ex.new hp) h, fun _ _ h => (Ex.new hp) _ _ h⟩
theorem Rel.new {S : Sto} {p : Addr} {o : O} {u : HO} (r : Rel K φ S H) (hp : H p = none) (hn : OR K (nxt φ S.length p) (S.length + 1) (L2.upd H p u) p o) (nt : isT o = false := by rfl) :
    Rel K (nxt φ S.length p) (S ++ [o]) (L2.upd H p u) := by
  have f : Fut K φ S.length H (nxt φ S.length p) (S.length + 1) (L2.upd H p u) := Fut.new hp
  have old : ∀ i oi, (S ++ [o])[i]? = some oi → (i < S.length ∧ S[i]? = some oi) ∨ (i = S.length ∧ oi = o) := fun i oi h => by
    have h1 := (List.getElem?_eq_some_iff.mp h).1
    rw [List.length_append, List.length_singleton] at h1
    by_cases h2 : i < S.length
    · rw [List.getElem?_append_left h2] at h
      exact .inl ⟨h2, h⟩
    · have h3 : i = S.length := by omega
      subst h3
      rw [List.getElem?_append_right (Nat.le_refl _), Nat.sub_self] at h
      exact .inr ⟨rfl, (Option.some.inj h).symm⟩
  have ne : ∀ i oi, i < S.length → S[i]? = some oi → mutO oi = true → φ i ≠ p := fun i oi _ h m z => by
    obtain ⟨w, hw, _⟩ := (r.ob i oi h).mho m
    rw [z, hp] at hw
    cases hw
  refine ⟨fun i j oi oj hi hj mi mj e => ?_, fun i oi hi => ?_, fun i oi hi ti => ?_⟩
  rotate_left 2
  · rcases old i oi hi with ⟨_, i2⟩ | ⟨_, rfl⟩
    · exact r.tu i oi i2 ti
    · rw [nt] at ti
      cases ti
  · rcases old i oi hi with ⟨i1, i2⟩ | ⟨rfl, rfl⟩ <;> rcases old j oj hj with ⟨j1, j2⟩ | ⟨rfl, rfl⟩
    · rw [f.ag i i1, f.ag j j1] at e
      exact r.inj i j oi oj i2 j2 mi mj e
    · rw [f.ag i i1, nxt_at] at e
      exact absurd e (ne i oi i1 i2 mi)
    · rw [f.ag j j1, nxt_at] at e
      exact absurd e.symm (ne j oj j1 j2 mj)
    · rfl
  · rw [List.length_append, List.length_singleton]
    rcases old i oi hi with ⟨i1, i2⟩ | ⟨rfl, rfl⟩
    · rw [f.ag i i1]
      exact (r.ob i oi i2).fut f (fun _ q => q.ext (Ex.new hp)) fun v hv => (Ex.new hp) _ _ hv
    · rw [nxt_at]
      exact hn
/-- something of which nothing is known -/
theorem Fut.newO {p : Addr} : Fut K φ n H (nxt φ n p) (n + 1) H := ⟨Nat.le_succ _, fun l h => by simp [nxt, Nat.ne_of_lt h], fun _ _ h => h, fun _ _ h => h⟩
theorem Rel.newO {S : Sto} (r : Rel K φ S H) (p : Addr) : Rel K (nxt φ S.length p) (S ++ [.opq]) H := by
  have old : ∀ i oi, (S ++ [O.opq])[i]? = some oi → (i < S.length ∧ S[i]? = some oi) ∨ oi = .opq := fun i oi h => by
    have h1 := (List.getElem?_eq_some_iff.mp h).1
    rw [List.length_append, List.length_singleton] at h1
    by_cases h2 : i < S.length
    · rw [List.getElem?_append_left h2] at h
      exact .inl ⟨h2, h⟩
    · have h3 : i = S.length := by omega
      subst h3
      rw [List.getElem?_append_right (Nat.le_refl _), Nat.sub_self] at h
      exact .inr (Option.some.inj h).symm
  have f : Fut K φ S.length H (nxt φ S.length p) (S.length + 1) H := Fut.newO
  refine ⟨fun i j oi oj hi hj mi mj e => ?_, fun i oi hi => ?_, fun i oi hi ti => ?_⟩
  rotate_left 2
  · rcases old i oi hi with ⟨_, i2⟩ | rfl
    · exact r.tu i oi i2 ti
    · cases ti
  · rcases old i oi hi with ⟨i1, i2⟩ | rfl
    · rcases old j oj hj with ⟨j1, j2⟩ | rfl
      · rw [f.ag i i1, f.ag j j1] at e
        exact r.inj i j oi oj i2 j2 mi mj e
      · cases mj
    · cases mi
  · rw [List.length_append, List.length_singleton]
    rcases old i oi hi with ⟨i1, i2⟩ | rfl
    · rw [f.ag i i1]
      exact (r.ob i oi i2).fut f (fun _ q => q) fun v hv => hv
    · trivial
theorem at_lt {S : Sto} {l : Nat} {o : O} (h : at_ S l = some o) : l < S.length := (List.getElem?_eq_some_iff.mp h).1
theorem Rel.rd {S : Sto} {l : Nat} {xs : List D} (r : Rel K φ S H) (h : rdL S l = some xs) : ∃ vs, SqL K H (φ l) vs ∧ VRs K φ S.length H xs vs := by
  unfold rdL at h
  split at h
  · rename_i ys e
    cases h
    obtain ⟨vs, h1, h2⟩ := r.ob l _ e
    exact ⟨vs, sq_of h1, h2⟩
  · rename_i ys e
    cases h
    obtain ⟨vs, h1, h2⟩ := r.ob l _ e
    refine ⟨vs, ?_, h2⟩
    rcases h1 with ⟨o, h1⟩ | h1
    · exact .inl (.inr ⟨o, h1⟩)
    · exact h1 H
  · cases h
theorem rdL_lt {S : Sto} {l : Nat} {xs : List D} (h : rdL S l = some xs) : l < S.length := by
  unfold rdL at h
  split at h
  · rename_i e; exact at_lt e
  · rename_i e; exact at_lt e
  · cases h
end
/-! ### slots -/
inductive ER (K : PySem.W.Frag) (φ : Nat → Addr) (n : Nat) (H : Hp) : Env → L2.St → Prop where
  | nil : ER K φ n H [] []
  | none {o : Option V} {e : Env} {σ : L2.St} (t : ER K φ n H e σ) : ER K φ n H (.none :: e) (o :: σ)
  | some {d : D} {v : V} {e : Env} {σ : L2.St} (h : VR K φ n H d v) (t : ER K φ n H e σ) : ER K φ n H (.some d :: e) (.some v :: σ)
section
variable {K : PySem.W.Frag} {φ φ' : Nat → Addr} {n n' : Nat} {H H' : Hp}
theorem ER.fut (f : Fut K φ n H φ' n' H') : ∀ {e : Env} {σ : L2.St}, ER K φ n H e σ → ER K φ' n' H' e σ
  | _, _, .nil => .nil
  | _, _, .none t => .none (ER.fut f t)
  | _, _, .some h t => .some (h.fut f) (ER.fut f t)
theorem ER.get : ∀ {e : Env} {σ : L2.St} {i : Nat} {d : D}, ER K φ n H e σ → e[i]? = .some (.some d) → ∃ v, σ[i]? = .some (.some v) ∧ VR K φ n H d v
  | _, _, 0, _, .none _, h => by cases h
  | _, _, 0, _, .some h _, e => ⟨_, rfl, by cases e; exact h⟩
  | _, _, i + 1, _, .none t, h => ER.get (i := i) t h
  | _, _, i + 1, _, .some _ t, h => ER.get (i := i) t h
theorem ER.set : ∀ {e : Env} {σ : L2.St} {d : D} {v : V} (i : Nat), ER K φ n H e σ → VR K φ n H d v → ER K φ n H (e.set i (.some d)) (σ.set i (.some v))
  | _, _, _, _, _, .nil, _ => .nil
  | _, _, _, _, 0, .none t, h => .some h t
  | _, _, _, _, 0, .some _ t, h => .some h t
  | _, _, _, _, i + 1, .none t, h => .none (ER.set i t h)
  | _, _, _, _, i + 1, .some h0 t, h => .some h0 (ER.set i t h)
theorem ER.unset (o : Option V) : ∀ {e : Env} {σ : L2.St} (i : Nat), ER K φ n H e σ → ER K φ n H (e.set i .none) (σ.set i o)
  | _, _, _, .nil => .nil
  | _, _, 0, .none t => .none t
  | _, _, 0, .some _ t => .none t
  | _, _, i + 1, .none t => .none (ER.unset o i t)
  | _, _, i + 1, .some h0 t => .some h0 (ER.unset o i t)
def wipeE (e : Env) : List Nat → Env
  | [] => e
  | v :: vs => (wipeE e vs).set v .none
theorem ER.wipe {e : Env} {σ : L2.St} (h : ER K φ n H e σ) : ∀ vs : List Nat, ER K φ n H (wipeE e vs) (wipe σ vs)
  | [] => h
  | v :: vs => ER.unset Option.none v (ER.wipe h vs)
theorem ER.ofs : ∀ {ds : List D} {vs : List V} (m : Nat), VRs K φ n H ds vs → ER K φ n H (ds.map .some ++ List.replicate m .none) (vs.map .some ++ List.replicate m .none)
  | _, _, 0, .nil => .nil
  | _, _, m + 1, .nil => .none (ER.ofs m .nil)
  | _, _, m, .cons h t => .some h (ER.ofs m t)
end
/-- what is wished of an error, and what is known meanwhile -/
structure Wc (K : PySem.W.Frag) where
  wx : WX
  ctx : (Nat → Addr) → Nat → Hp → Prop
  mono : ∀ {φ n H φ' n' H'}, Fut K φ n H φ' n' H' → ctx φ n H → ctx φ' n' H'
instance {K : PySem.W.Frag} : CoeFun (Wc K) fun _ => WX := ⟨Wc.wx⟩
def W0 (K : PySem.W.Frag) : Wc K := ⟨fun _ _ _ _ => False, fun _ _ _ => True, fun _ h => h⟩
def WEx (K : PySem.W.Frag) (E : XK) : Wc K := ⟨fun c d _ h => E c d h, fun _ _ _ => True, fun _ h => h⟩
structure EW (K : PySem.W.Frag) (W : Wc K) (φ : Nat → Addr) (n : Nat) (H : Hp) (env : Env) (σ : L2.St) : Prop where
  e : ER K φ n H env σ
  c : W.ctx φ n H
section
variable {K : PySem.W.Frag} {W : Wc K} {φ φ' : Nat → Addr} {n n' : Nat} {H H' : Hp} {env : Env} {σ : L2.St}
theorem EW.fut (h : EW K W φ n H env σ) (f : Fut K φ n H φ' n' H') : EW K W φ' n' H' env σ := ⟨h.e.fut f, W.mono f h.c⟩
theorem EW.get {i : Nat} {d : D} (h : EW K W φ n H env σ) (e : env[i]? = some (some d)) : ∃ v, σ[i]? = some (some v) ∧ VR K φ n H d v := h.e.get e
theorem EW.set {d : D} {v : V} (i : Nat) (h : EW K W φ n H env σ) (q : VR K φ n H d v) : EW K W φ n H (env.set i (some d)) (σ.set i (some v)) := ⟨h.e.set i q, h.c⟩
theorem EW.wipe (h : EW K W φ n H env σ) (vs : List Nat) : EW K W φ n H (wipeE env vs) (L2.wipe σ vs) := ⟨h.e.wipe vs, h.c⟩
end
end Mi

namespace Mi
open PySem PySem.Spec PyProof.Rows L2 Evl My
open Classical in
/-! ### what a piece promises -/
abbrev Rl (α β : Type) := (Nat → Addr) → Nat → Hp → α → β → Prop
def vr (K : PySem.W.Frag) : Rl D V := fun φ n H d v => VR K φ n H d v
def vrs (K : PySem.W.Frag) : Rl (List D) (List V) := fun φ n H d v => VRs K φ n H d v
def same {α : Type} : Rl α α := fun _ _ _ a b => a = b
def Post (K : PySem.W.Frag) {α β : Type} (ρ : Rl α β) (φ : Nat → Addr) (n : Nat) (H : Hp) (X : XK) (r : R α) (Q : β → Hp → Prop) : Prop := match r with
  | .ok d S' => ∀ φ' H' v, Fut K φ n H φ' S'.length H' → Rel K φ' S' H' → ρ φ' S'.length H' d v → Q v H'
  | .exc c fs S' => ∀ φ' H' dd fv, Fut K φ n H φ' S'.length H' → Rel K φ' S' H' → H' dd = some (.xd fv) → KR K φ' S'.length H' fs fv → X (.ref (He.ga K c)) (some dd) H'
  | .bad => False
section
variable {K : PySem.W.Frag} {φ φ1 φ' : Nat → Addr} {n n1 n' : Nat} {H H1 H' : Hp} {α β γ δ : Type} {ρ : Rl α β} {ρ' : Rl γ δ} {X : XK} {W : Wc K} {S : Sto}
theorem Post.fut {r : R α} {Q : β → Hp → Prop} (f : Fut K φ n H φ1 n1 H1) (h : Post K ρ φ n H X r Q) : Post K ρ φ1 n1 H1 X r Q := by
  cases r with
  | ok d S' => exact fun φ' H' v f' => h φ' H' v (f.trans f')
  | exc c fs S' => exact fun φ' H' dd fv f' => h φ' H' dd fv (f.trans f')
  | bad => exact h
theorem Post.here {d : α} {v : β} {Q : β → Hp → Prop} (h : Post K ρ φ S.length H X (.ok d S) Q) (r : Rel K φ S H) (q : ρ φ S.length H d v) : Q v H := h φ H v Fut.refl r q
theorem Post.ex {d : α} {v : β} {Q : β → Hp → Prop} (h : Post K ρ φ S.length H X (.ok d S) Q) (r : Rel K φ S H) (e : Ex H H') (q : ρ φ S.length H' d v) : Q v H' := h φ H' v (Fut.ex e) (r.ex e) q
theorem Post.new {o : O} {u : HO} {p : Addr} {Q : VK} (h : Post K (vr K) φ S.length H X (.ok (.ref S.length) (S ++ [o])) Q) (r : Rel K φ S H) (hp : H p = none) (hn : OR K (nxt φ S.length p) (S.length + 1) (upd H p u) p o) (nt : isT o = false := by rfl) : Q (.ref p) (upd H p u) := by
  refine h (nxt φ S.length p) _ _ (by rw [List.length_append]; exact Fut.new hp) (r.new hp hn nt) ?_
  show VR K _ _ _ _ _
  have := VR.ref (K := K) (φ := nxt φ S.length p) (n := (S ++ [o]).length) (H := upd H p u) (l := S.length) (by simp)
  rw [nxt_at] at this
  exact this
theorem Post.tup {Q : VK} {xs : List D} {vs : List V} {p : Addr} (h : Post K (vr K) φ S.length H X (.ok (.tup xs) S) Q) (r : Rel K φ S H) (hp : H p = none) (q : VRs K φ S.length H xs vs) : Q (.ref p) (upd H p (.tup vs)) :=
  h φ _ _ (Fut.ex (Ex.new hp)) (r.ex (Ex.new hp)) (VR.tup (st_of upd_same) (q.fut (Fut.ex (Ex.new hp))))
theorem Post.put {d : α} {v : β} {Q : β → Hp → Prop} {l : Nat} {o o' : O} {u : HO} (h : Post K ρ φ S.length H X (.ok d (S.set l o')) Q) (r : Rel K φ S H) (hl : at_ S l = some o) (m : mutO o = true) (m' : mutO o' = true) (hn : OR K φ S.length (upd H (φ l) u) (φ l) o')
    (q : ρ φ S.length (upd H (φ l) u) d v) : Q v (upd H (φ l) u) := by
  obtain ⟨r', f'⟩ := r.put hl m m' hn
  exact h φ _ _ f' r' (by rw [List.length_set]; exact q)
/-- a reading does what f says -/
def Imp (K : PySem.W.Frag) (W : Wc K) {α β : Type} (ρ : Rl α β) (t : L2.St → Hp → (β → Hp → Prop) → Prop) (f : Env → Sto → R α) : Prop :=
  ∀ φ S H env σ, Rel K φ S H → EW K W φ S.length H env σ → ∀ Q, Post K ρ φ S.length H (fun c d h => W c d σ h) (f env S) Q → t σ H Q
theorem imp_bind {ta : L2.St → Hp → (β → Hp → Prop) → Prop} {tb : β → L2.St → Hp → (δ → Hp → Prop) → Prop} {fa : Env → Sto → R α} {g : Env → α → Sto → R γ} (ha : Imp K W ρ ta fa)
    (hb : ∀ φ S H env σ x v, Rel K φ S H → EW K W φ S.length H env σ → ρ φ S.length H x v → ∀ Q, Post K ρ' φ S.length H (fun c d h => W c d σ h) (g env x S) Q → tb v σ H Q) :
    Imp K W ρ' (fun σ H Q => ta σ H fun v H1 => tb v σ H1 Q) (fun env S => (fa env S).bind (g env)) := by
  intro φ S H env σ r e Q p
  dsimp only at p
  refine ha φ S H env σ r e _ ?_
  cases hf : fa env S with
  | ok x S1 =>
    rw [hf] at p
    exact fun φ' H' v f r' hv => hb φ' S1 H' env σ x v r' (e.fut f) hv Q (p.fut f)
  | exc c fs S1 =>
    rw [hf] at p
    exact p
  | bad =>
    rw [hf] at p
    exact p
/-- .. that is known to be so at a state -/
theorem Imp.go {ta : L2.St → Hp → (β → Hp → Prop) → Prop} {fa : Env → Sto → R α} (ha : Imp K W ρ ta fa) {env : Env} {σ : L2.St} {g : α → Sto → R γ} {tb : β → Hp → Prop} (r : Rel K φ S H) (e : EW K W φ S.length H env σ) {Q : δ → Hp → Prop}
    (p : Post K ρ' φ S.length H (fun c d h => W c d σ h) ((fa env S).bind g) Q)
    (hb : ∀ φ1 S1 H1 x v, Fut K φ S.length H φ1 S1.length H1 → Rel K φ1 S1 H1 → EW K W φ1 S1.length H1 env σ → ρ φ1 S1.length H1 x v → Post K ρ' φ1 S1.length H1 (fun c d h => W c d σ h) (g x S1) Q → tb v H1) : ta σ H tb := by
  refine ha φ S H env σ r e _ ?_
  cases hf : fa env S with
  | ok x S1 =>
    rw [hf] at p
    exact fun φ' H' v f r' hv => hb φ' S1 H' x v f r' (e.fut f) hv (p.fut f)
  | exc c fs S1 =>
    rw [hf] at p
    exact p
  | bad =>
    rw [hf] at p
    exact p
/-! ### expressions -/
def xVar (i : Nat) : Env → Sto → R D := fun env S => match env[i]? with
  | some (some d) => .ok d S
  | _ => .bad
def xC (d : D) : Env → Sto → R D := fun _ S => .ok d S
theorem imp_var {i : Nat} : Imp K W (vr K) (tVar i) (xVar i) := by
  intro φ S H env σ r e Q p
  unfold xVar at p
  split at p
  · rename_i d h
    obtain ⟨v, hv, q⟩ := e.get h
    exact ⟨v, hv, p.here r q⟩
  · exact p.elim
theorem imp_int {i : Int} : Imp K W (vr K) (tC (.int i)) (xC (.int i)) := fun φ S H env σ r e Q p => p.here r (VR.int i)
theorem imp_str {i : Str} : Imp K W (vr K) (tC (.str i)) (xC (.str i)) := fun φ S H env σ r e Q p => p.here r (VR.str i)
theorem imp_bl {i : Bool} : Imp K W (vr K) (tC (.bl i)) (xC (.bl i)) := fun φ S H env σ r e Q p => p.here r (VR.bl i)
theorem imp_non : Imp K W (vr K) (tC .non) (xC .non) := fun φ S H env σ r e Q p => p.here r VR.non
/-- two operands -/
def xOp (o : D → D → Sto → R D) (fa fb : Env → Sto → R D) : Env → Sto → R D := fun env S => (fa env S).bind fun x S1 => (fb env S1).bind fun y S2 => o x y S2
def OpI (K : PySem.W.Frag) (r : R2) (o : D → D → Sto → R D) : Prop := ∀ φ S H x y v w X, Rel K φ S H → VR K φ S.length H x v → VR K φ S.length H y w → ∀ Q, Post K (vr K) φ S.length H X (o x y S) Q → r v w H Q
theorem imp_op {r : R2} {o : D → D → Sto → R D} {ta tb : TE} {fa fb : Env → Sto → R D} (hr : OpI K r o) (ha : Imp K W (vr K) ta fa) (hb : Imp K W (vr K) tb fb) : Imp K W (vr K) (tOp r ta tb) (xOp o fa fb) :=
  imp_bind (tb := fun v σ H Q => tb σ H fun y H2 => r v y H2 Q) ha fun φ S H env σ x v rl e hv Q p => hb.go rl e p fun φ1 S1 H1 y w f r1 _ hw p1 => hr φ1 S1 H1 x y v w _ r1 (VR.fut f hv) hw Q p1
def UnI (K : PySem.W.Frag) (r : V → Hp → VK → Prop) (o : D → Sto → R D) : Prop := ∀ φ S H x v X, Rel K φ S H → VR K φ S.length H x v → ∀ Q, Post K (vr K) φ S.length H X (o x S) Q → r v H Q
def xUn (o : D → Sto → R D) (fa : Env → Sto → R D) : Env → Sto → R D := fun env S => (fa env S).bind o
theorem imp_un {r : V → Hp → VK → Prop} {o : D → Sto → R D} {ta : TE} {fa : Env → Sto → R D} (hr : UnI K r o) (ha : Imp K W (vr K) ta fa) : Imp K W (vr K) (tUn r ta) (xUn o fa) :=
  imp_bind (tb := fun (v : V) _ H (Q : VK) => r v H Q) ha fun φ S H env σ x v rl e hv Q p => hr φ S H x v _ rl hv Q p
/-- of two ints -/
def oI (g : Int → Int → D) : D → D → Sto → R D := fun x y S => match x, y with
  | .int i, .int j => .ok (g i j) S
  | _, _ => .bad
@[simp] theorem oI_int {g : Int → Int → D} {i j : Int} : oI g (.int i) (.int j) S = .ok (g i j) S := rfl
theorem opi_I {g : Int → Int → V} {g' : Int → Int → D} (h : ∀ φ n H i j, VR K φ n H (g' i j) (g i j)) : OpI K (rI0 g) (oI g') := by
  intro φ S H x y v w X r hx hy Q p
  unfold oI at p
  split at p
  · cases hx; cases hy
    exact ⟨_, _, rfl, rfl, p.here r (h ..)⟩
  · exact p.elim
noncomputable def oIC (C : Int → Int → Prop) (g : Int → Int → D) : D → D → Sto → R D := fun x y S => match x, y with
  | .int i, .int j => open Classical in if C i j then .ok (g i j) S else .bad
  | _, _ => .bad
theorem oIC_int {C : Int → Int → Prop} {g : Int → Int → D} {i j : Int} (h : C i j) : oIC C g (.int i) (.int j) S = .ok (g i j) S := by simp [oIC, h]
theorem opi_IC {C : Int → Int → Prop} {g : Int → Int → V} {g' : Int → Int → D} (h : ∀ φ n H i j, VR K φ n H (g' i j) (g i j)) : OpI K (rI C g) (oIC C g') := by
  intro φ S H x y v w X r hx hy Q p
  unfold oIC at p
  split at p
  · cases hx; cases hy
    split at p
    · rename_i hc
      exact ⟨_, _, rfl, rfl, hc, p.here r (h ..)⟩
    · exact p.elim
  · exact p.elim
def gI (f : Int → Int → Int) : Int → Int → D := fun i j => .int (f i j)
def gB (f : Int → Int → Bool) : Int → Int → D := fun i j => .bl (f i j)
theorem opi_add : OpI K (rI0 fun i j => .int (i + j)) (oI fun i j => .int (i + j)) := opi_I fun _ _ _ _ _ => .int _
theorem opi_sub : OpI K (rI0 fun i j => .int (i - j)) (oI fun i j => .int (i - j)) := opi_I fun _ _ _ _ _ => .int _
theorem opi_mul : OpI K (rI CMul fun i j => .int (i * j)) (oIC CMul fun i j => .int (i * j)) := opi_IC fun _ _ _ _ _ => .int _
theorem opi_fdiv : OpI K (rI CDiv fun i j => .int (i / j)) (oIC CDiv fun i j => .int (i / j)) := opi_IC fun _ _ _ _ _ => .int _
theorem opi_fdivW : OpI K (rI CDivW fun i j => .int (i / j)) (oIC CDivW fun i j => .int (i / j)) := opi_IC fun _ _ _ _ _ => .int _
theorem opi_mod : OpI K (rI (fun _ j => 0 < j) fun i j => .int (i % j)) (oIC (fun _ j => 0 < j) fun i j => .int (i % j)) := opi_IC fun _ _ _ _ _ => .int _
theorem opi_pow : OpI K (rI CPow fun i j => .int (i ^ j.toNat)) (oIC CPow fun i j => .int (i ^ j.toNat)) := opi_IC fun _ _ _ _ _ => .int _
theorem opi_lt : OpI K (rI0 fun i j => .bl (decide (i < j))) (oI fun i j => .bl (decide (i < j))) := opi_I fun _ _ _ _ _ => .bl _
theorem opi_le : OpI K (rI0 fun i j => .bl (decide (i ≤ j))) (oI fun i j => .bl (decide (i ≤ j))) := opi_I fun _ _ _ _ _ => .bl _
theorem opi_gt : OpI K (rI0 fun i j => .bl (decide (j < i))) (oI fun i j => .bl (decide (j < i))) := opi_I fun _ _ _ _ _ => .bl _
theorem opi_ge : OpI K (rI0 fun i j => .bl (decide (j ≤ i))) (oI fun i j => .bl (decide (j ≤ i))) := opi_I fun _ _ _ _ _ => .bl _
def oNeg : D → Sto → R D := fun x S => match x with
  | .int i => .ok (.int (-i)) S
  | _ => .bad
@[simp] theorem oNeg_int {i : Int} : oNeg (.int i) S = .ok (.int (-i)) S := rfl
theorem uni_neg : UnI K (rU fun i => .int (-i)) oNeg := by
  intro φ S H x v X r hx Q p
  unfold oNeg at p
  split at p
  · cases hx
    exact ⟨_, rfl, p.here r (VR.int _)⟩
  · exact p.elim
/-! ### == of scalars -/
/-- scalars, as they are told -/
def scV : D → Option V
  | .non => some .non
  | .bl b => some (.bl b)
  | .int i => some (.int i)
  | .str x => some (.str x)
  | _ => none
theorem scV_eq {d : D} {u v : V} (h : scV d = some u) (r : VR K φ n H d v) : v = u := by
  cases r <;> simp [scV] at h <;> exact h
def oEqS : D → D → Sto → R D := fun x y S => match scV x, scV y with
  | some u, some w => if scal u w = true then .ok (.bl (decide (u = w))) S else .bad
  | _, _ => .bad
def oNeS : D → D → Sto → R D := fun x y S => match scV x, scV y with
  | some u, some w => if scal u w = true then .ok (.bl (!decide (u = w))) S else .bad
  | _, _ => .bad
@[simp] theorem oEqS_int {i j : Int} : oEqS (.int i) (.int j) S = .ok (.bl (decide (i = j))) S := by simp [oEqS, scV, scal]
@[simp] theorem oNeS_int {i j : Int} : oNeS (.int i) (.int j) S = .ok (.bl (!decide (i = j))) S := by simp [oNeS, scV, scal]
@[simp] theorem oEqS_str {i j : Str} : oEqS (.str i) (.str j) S = .ok (.bl (decide (i = j))) S := by simp [oEqS, scV, scal]
@[simp] theorem oNeS_str {i j : Str} : oNeS (.str i) (.str j) S = .ok (.bl (!decide (i = j))) S := by simp [oNeS, scV, scal]
@[simp] theorem oEqS_bl {i j : Bool} : oEqS (.bl i) (.bl j) S = .ok (.bl (decide (i = j))) S := by simp [oEqS, scV, scal]
@[simp] theorem oNeS_bl {i j : Bool} : oNeS (.bl i) (.bl j) S = .ok (.bl (!decide (i = j))) S := by simp [oNeS, scV, scal]
theorem opi_eqS : OpI K rEq oEqS := by
  intro φ S H x y v w X r hx hy Q p
  unfold oEqS at p
  split at p
  · rename_i a b ha hb
    rw [scV_eq ha hx, scV_eq hb hy]
    split at p
    · rename_i hc
      exact ⟨hc, p.here r (VR.bl _)⟩
    · exact p.elim
  · exact p.elim
theorem opi_neS : OpI K rNe oNeS := by
  intro φ S H x y v w X r hx hy Q p
  unfold oNeS at p
  split at p
  · rename_i a b ha hb
    rw [scV_eq ha hx, scV_eq hb hy]
    split at p
    · rename_i hc
      exact ⟨hc, p.here r (VR.bl _)⟩
    · exact p.elim
  · exact p.elim
/-! ### data -/
mutual
/-- what the value d, read in the store, is -/
inductive DD (S : Sto) : D → PyData → Prop where
  | non : DD S .non .none
  | bl (b : Bool) : DD S (.bl b) (.bool b)
  | int (i : Int) : DD S (.int i) (.int i)
  | str (x : Str) : DD S (.str x) (.str x)
  | lst {l : Nat} {xs : List D} {ps : List PyData} (h : rdL S l = some xs) (t : DDs S xs ps) : DD S (.ref l) (.list ps)
  | tup {xs : List D} {ps : List PyData} (t : DDs S xs ps) : DD S (.tup xs) (.tuple ps)
inductive DDs (S : Sto) : List D → List PyData → Prop where
  | nil : DDs S [] []
  | cons {x : D} {p : PyData} {xs : List D} {ps : List PyData} (h : DD S x p) (t : DDs S xs ps) : DDs S (x :: xs) (p :: ps)
end
mutual
theorem DD.fn : ∀ {d : D} {p q : PyData}, DD S d p → DD S d q → p = q
  | _, _, _, .non, .non => rfl
  | _, _, _, .bl _, .bl _ => rfl
  | _, _, _, .int _, .int _ => rfl
  | _, _, _, .str _, .str _ => rfl
  | _, _, _, .lst h t, .lst h' t' => by
    rw [h] at h'
    cases h'
    rw [DDs.fn t t']
  | _, _, _, .tup t, .tup t' => by rw [DDs.fn t t']
theorem DDs.fn : ∀ {d : List D} {p q : List PyData}, DDs S d p → DDs S d q → p = q
  | _, _, _, .nil, .nil => rfl
  | _, _, _, .cons h t, .cons h' t' => by rw [DD.fn h h', DDs.fn t t']
end
mutual
theorem DD.dp (r : Rel K φ S H) : ∀ {d : D} {p : PyData} {v : V}, DD S d p → VR K φ S.length H d v → Dp K H v p
  | _, _, _, .non, .non => .non
  | _, _, _, .bl b, .bl _ => .bl b
  | _, _, _, .int b, .int _ => .int b
  | _, _, _, .str b, .str _ => .str b
  | _, _, _, .lst h t, .ref _ => by
    obtain ⟨vs, h1, h2⟩ := r.rd h
    exact .lst h1 (DDs.dp r t h2)
  | _, _, _, .tup t, .tup h t' => .tup h (DDs.dp r t t')
theorem DDs.dp (r : Rel K φ S H) : ∀ {d : List D} {p : List PyData} {v : List V}, DDs S d p → VRs K φ S.length H d v → DpAll K H v p
  | _, _, _, .nil, .nil => .nil
  | _, _, _, .cons h t, .cons h' t' => .cons (DD.dp r h h') (DDs.dp r t t')
end
open Classical in
noncomputable def dataOf (S : Sto) (d : D) : Option PyData := if h : ∃ p, DD S d p then some h.choose else none
theorem dataOf_some {d : D} {p : PyData} (h : dataOf S d = some p) : DD S d p := by
  unfold dataOf at h
  split at h
  · rename_i k
    cases h
    exact k.choose_spec
  · cases h
theorem dataOf_eq {d : D} {p : PyData} (h : DD S d p) : dataOf S d = some p := by
  unfold dataOf
  rw [dif_pos ⟨p, h⟩]
  exact congrArg some (DD.fn (Exists.choose_spec (⟨p, h⟩ : ∃ p, DD S d p)) h)
noncomputable def oEqD (neg : Bool) : D → D → Sto → R D := fun x y S => match dataOf S x, dataOf S y with
  | some p, some q => if SeqAt.shaped p = true ∧ SeqAt.shaped q = true then .ok (.bl (if neg = true then !PyData.eqv p q else PyData.eqv p q)) S else .bad
  | _, _ => .bad
theorem oEqD_eq {neg : Bool} {x y : D} {p q : PyData} (hx : DD S x p) (hy : DD S y q) (sx : SeqAt.shaped p = true) (sy : SeqAt.shaped q = true) : oEqD neg x y S = .ok (.bl (if neg = true then !PyData.eqv p q else PyData.eqv p q)) S := by
  simp [oEqD, dataOf_eq hx, dataOf_eq hy, sx, sy]
theorem opi_eqD : OpI K (rEqD K) (oEqD false) := by
  intro φ S H x y v w X r hx hy Q p
  unfold oEqD at p
  split at p
  · rename_i a b ha hb
    split at p
    · rename_i hc
      exact ⟨a, b, (dataOf_some ha).dp r hx, (dataOf_some hb).dp r hy, hc.1, hc.2, p.here r (VR.bl _)⟩
    · exact p.elim
  · exact p.elim
theorem opi_neD : OpI K (rNeD K) (oEqD true) := by
  intro φ S H x y v w X r hx hy Q p
  unfold oEqD at p
  split at p
  · rename_i a b ha hb
    split at p
    · rename_i hc
      exact ⟨a, b, (dataOf_some ha).dp r hx, (dataOf_some hb).dp r hy, hc.1, hc.2, p.here r (VR.bl _)⟩
    · exact p.elim
  · exact p.elim
/-! ### None, and, or, not, if -/
def nonD : D → Bool
  | .non => true
  | _ => false
theorem isNon_eq {d : D} {v : V} (h : VR K φ n H d v) : decide (v = .non) = nonD d := by cases h <;> simp [nonD]
def xIsN (fa : Env → Sto → R D) : Env → Sto → R D := fun env S => (fa env S).bind fun x S1 => .ok (.bl (nonD x)) S1
def xNotN (fa : Env → Sto → R D) : Env → Sto → R D := fun env S => (fa env S).bind fun x S1 => .ok (.bl (!nonD x)) S1
theorem imp_isN {ta : TE} {fa : Env → Sto → R D} (ha : Imp K W (vr K) ta fa) : Imp K W (vr K) (tIsN ta) (xIsN fa) :=
  imp_bind (tb := fun (v : V) _ H (Q : VK) => Q (.bl (decide (v = .non))) H) ha fun φ S H env σ x v rl e hv Q p => by
    rw [isNon_eq hv]
    exact p.here rl (VR.bl _)
theorem imp_notN {ta : TE} {fa : Env → Sto → R D} (ha : Imp K W (vr K) ta fa) : Imp K W (vr K) (tNotN ta) (xNotN fa) :=
  imp_bind (tb := fun (v : V) _ H (Q : VK) => Q (.bl (!decide (v = .non))) H) ha fun φ S H env σ x v rl e hv Q p => by
    rw [isNon_eq hv]
    exact p.here rl (VR.bl _)
/-- a truth value as a value -/
def asB {α : Type} (x : D) (g : Bool → R α) : R α := match x with
  | .bl b => g b
  | _ => .bad
@[simp] theorem asB_bl {α : Type} {b : Bool} {g : Bool → R α} : asB (.bl b) g = g b := rfl
def xAndV (fa fb : Env → Sto → R D) : Env → Sto → R D := fun env S => (fa env S).bind fun x S1 => asB x fun b => if b = true then fb env S1 else .ok (.bl false) S1
def xOrV (fa fb : Env → Sto → R D) : Env → Sto → R D := fun env S => (fa env S).bind fun x S1 => asB x fun b => if b = true then .ok (.bl true) S1 else fb env S1
def xNotV (fa : Env → Sto → R D) : Env → Sto → R D := fun env S => (fa env S).bind fun x S1 => asB x fun b => .ok (.bl (!b)) S1
theorem asB_inv {x : D} {v : V} {g : Bool → R α} {Q : β → Hp → Prop} (h : VR K φ n H x v) (p : Post K ρ φ1 n1 H1 X (asB x g) Q) : ∃ b, v = .bl b ∧ Post K ρ φ1 n1 H1 X (g b) Q := by
  unfold asB at p
  split at p
  · cases h
    exact ⟨_, rfl, p⟩
  · exact p.elim
theorem imp_andV {ta tb : TE} {fa fb : Env → Sto → R D} (ha : Imp K W (vr K) ta fa) (hb : Imp K W (vr K) tb fb) : Imp K W (vr K) (tAndV ta tb) (xAndV fa fb) :=
  imp_bind (tb := fun (v : V) σ H (Q : VK) => ∃ c, v = .bl c ∧ if c = true then tb σ H Q else Q (.bl false) H) ha fun φ S H env σ x v rl e hv Q p => by
    obtain ⟨b, rfl, p⟩ := asB_inv hv p
    refine ⟨b, rfl, ?_⟩
    cases b with
    | true => exact hb φ S H env σ rl e Q p
    | false => exact p.here rl (VR.bl _)
theorem imp_orV {ta tb : TE} {fa fb : Env → Sto → R D} (ha : Imp K W (vr K) ta fa) (hb : Imp K W (vr K) tb fb) : Imp K W (vr K) (tOrV ta tb) (xOrV fa fb) :=
  imp_bind (tb := fun (v : V) σ H (Q : VK) => ∃ c, v = .bl c ∧ if c = true then Q (.bl true) H else tb σ H Q) ha fun φ S H env σ x v rl e hv Q p => by
    obtain ⟨b, rfl, p⟩ := asB_inv hv p
    refine ⟨b, rfl, ?_⟩
    cases b with
    | true => exact p.here rl (VR.bl _)
    | false => exact hb φ S H env σ rl e Q p
theorem imp_notV {ta : TE} {fa : Env → Sto → R D} (ha : Imp K W (vr K) ta fa) : Imp K W (vr K) (tNotV ta) (xNotV fa) :=
  imp_bind (tb := fun (v : V) _ H (Q : VK) => ∃ c, v = .bl c ∧ Q (.bl (!c)) H) ha fun φ S H env σ x v rl e hv Q p => by
    obtain ⟨b, rfl, p⟩ := asB_inv hv p
    exact ⟨b, rfl, p.here rl (VR.bl _)⟩
/-! ### tests -/
def xB (fa : Env → Sto → R D) : Env → Sto → R Bool := fun env S => (fa env S).bind fun x S1 => asB x fun b => .ok b S1
theorem imp_test {ta : TE} {fa : Env → Sto → R D} (ha : Imp K W (vr K) ta fa) : Imp K W same (tTest ta) (xB fa) :=
  imp_bind (tb := fun (v : V) _ H (Q : Bool → Hp → Prop) => ∃ k, v = .bl k ∧ Q k H) ha fun φ S H env σ x v rl e hv Q p => by
    obtain ⟨b, rfl, p⟩ := asB_inv hv p
    exact ⟨b, rfl, p.here rl rfl⟩
theorem imp_tB {ta : TE} {fa : Env → Sto → R D} (ha : Imp K W (vr K) ta fa) : Imp K W same (tB ta) (xB fa) :=
  imp_bind (tb := fun (v : V) _ H (Q : Bool → Hp → Prop) => ∃ k, v = .bl k ∧ Q k H) ha fun φ S H env σ x v rl e hv Q p => by
    obtain ⟨b, rfl, p⟩ := asB_inv hv p
    exact ⟨b, rfl, p.here rl rfl⟩
def xAnd (fa fb : Env → Sto → R Bool) : Env → Sto → R Bool := fun env S => (fa env S).bind fun b S1 => if b = true then fb env S1 else .ok false S1
def xOr (fa fb : Env → Sto → R Bool) : Env → Sto → R Bool := fun env S => (fa env S).bind fun b S1 => if b = true then .ok true S1 else fb env S1
def xNot (fa : Env → Sto → R Bool) : Env → Sto → R Bool := fun env S => (fa env S).bind fun b S1 => .ok (!b) S1
theorem imp_and {ta tb : TT} {fa fb : Env → Sto → R Bool} (ha : Imp K W same ta fa) (hb : Imp K W same tb fb) : Imp K W same (tAnd ta tb) (xAnd fa fb) :=
  imp_bind (tb := fun (c : Bool) σ H (Q : Bool → Hp → Prop) => if c = true then tb σ H Q else Q false H) ha fun φ S H env σ x v rl e hv Q p => by
    obtain rfl : x = v := hv
    cases x with
    | true => exact hb φ S H env σ rl e Q p
    | false => exact p.here rl rfl
theorem imp_or {ta tb : TT} {fa fb : Env → Sto → R Bool} (ha : Imp K W same ta fa) (hb : Imp K W same tb fb) : Imp K W same (tOr ta tb) (xOr fa fb) :=
  imp_bind (tb := fun (c : Bool) σ H (Q : Bool → Hp → Prop) => if c = true then Q true H else tb σ H Q) ha fun φ S H env σ x v rl e hv Q p => by
    obtain rfl : x = v := hv
    cases x with
    | true => exact p.here rl rfl
    | false => exact hb φ S H env σ rl e Q p
theorem imp_not {ta : TT} {fa : Env → Sto → R Bool} (ha : Imp K W same ta fa) : Imp K W same (tNot ta) (xNot fa) :=
  imp_bind (tb := fun (c : Bool) _ H (Q : Bool → Hp → Prop) => Q (!c) H) ha fun φ S H env σ x v rl e hv Q p => by
    obtain rfl : x = v := hv
    exact p.here rl rfl
def xIf {α : Type} (t : Env → Sto → R Bool) (fa fb : Env → Sto → R α) : Env → Sto → R α := fun env S => (t env S).bind fun b S1 => if b = true then fa env S1 else fb env S1
theorem imp_if {tt : TT} {ta tb : TE} {ft : Env → Sto → R Bool} {fa fb : Env → Sto → R D} (ht : Imp K W same tt ft) (ha : Imp K W (vr K) ta fa) (hb : Imp K W (vr K) tb fb) : Imp K W (vr K) (tIf tt ta tb) (xIf ft fa fb) :=
  imp_bind (tb := fun (c : Bool) σ H (Q : VK) => if c = true then ta σ H Q else tb σ H Q) ht fun φ S H env σ x v rl e hv Q p => by
    obtain rfl : x = v := hv
    cases x with
    | true => exact ha φ S H env σ rl e Q p
    | false => exact hb φ S H env σ rl e Q p
def xYes : Env → Sto → R Bool := fun _ S => .ok true S
theorem imp_yes : Imp K W same tYes xYes := fun φ S H env σ r e Q p => p.here r rfl
/-- a chain of two comparisons -/
def xChain (o o' : D → D → Sto → R D) (fa fb fc : Env → Sto → R D) : Env → Sto → R D := fun env S => (fa env S).bind fun x S1 => (fb env S1).bind fun y S2 => (o x y S2).bind fun z S3 => asB z fun k =>
  if k = true then (fc env S3).bind fun u S4 => o' y u S4 else .ok (.bl false) S3
theorem OpI.go {r : R2} {o : D → D → Sto → R D} (h : OpI K r o) {x y : D} {v w : V} {g : D → Sto → R γ} {tb : V → Hp → Prop} (rl : Rel K φ S H) (hx : VR K φ S.length H x v) (hy : VR K φ S.length H y w) {Q : δ → Hp → Prop}
    (p : Post K ρ' φ S.length H X ((o x y S).bind g) Q)
    (hb : ∀ φ1 S1 H1 z u, Fut K φ S.length H φ1 S1.length H1 → Rel K φ1 S1 H1 → VR K φ1 S1.length H1 z u → Post K ρ' φ1 S1.length H1 X (g z S1) Q → tb u H1) (he : ∀ c fs S', o x y S ≠ .exc c fs S') : r v w H tb := by
  refine h φ S H x y v w X rl hx hy _ ?_
  cases hf : o x y S with
  | ok z S1 =>
    rw [hf] at p
    exact fun φ' H' v f r' hv => hb φ' S1 H' z v f r' hv (p.fut f)
  | exc c fs S1 => exact (he c fs S1 hf).elim
  | bad =>
    rw [hf] at p
    exact p
end
end Mi

namespace Mi
open PySem PySem.Spec PyProof.Rows L2 Evl My
section
variable {K : PySem.W.Frag} {φ φ1 φ' : Nat → Addr} {n n1 n' : Nat} {H H1 H' : Hp} {X : XK} {W : Wc K} {S : Sto}
/-! ### arguments, displays -/
def xNil : Env → Sto → R (List D) := fun _ S => .ok [] S
def xCons (fa : Env → Sto → R D) (fr : Env → Sto → R (List D)) : Env → Sto → R (List D) := fun env S => (fa env S).bind fun x S1 => (fr env S1).bind fun xs S2 => .ok (x :: xs) S2
theorem imp_nil : Imp K W (vrs K) tNil xNil := fun φ S H env σ r e Q p => p.here r VRs.nil
theorem imp_cons {ta : TE} {tr : TA} {fa : Env → Sto → R D} {fr : Env → Sto → R (List D)} (ha : Imp K W (vr K) ta fa) (hr : Imp K W (vrs K) tr fr) : Imp K W (vrs K) (tCons ta tr) (xCons fa fr) :=
  imp_bind (tb := fun (v : V) σ H (Q : List V → Hp → Prop) => tr σ H fun vs H2 => Q (v :: vs) H2) ha fun φ S H env σ x v rl e hv Q p => hr.go rl e p fun φ1 S1 H1 xs vs f r1 _ hvs p1 => p1.here r1 (VRs.cons (VR.fut f hv) hvs)
def xTup (fa : Env → Sto → R (List D)) : Env → Sto → R D := fun env S => (fa env S).bind fun xs S1 => if xs.length ≤ 100000 then .ok (.tup xs) S1 else .bad
def xLst (fa : Env → Sto → R (List D)) : Env → Sto → R D := fun env S => (fa env S).bind fun xs S1 => if xs.length ≤ 100000 then .ok (.ref S1.length) (S1 ++ [.lst xs]) else .bad
theorem imp_tup {ta : TA} {fa : Env → Sto → R (List D)} (ha : Imp K W (vrs K) ta fa) : Imp K W (vr K) (tTup ta) (xTup fa) :=
  imp_bind (tb := fun (xs : List V) _ H (Q : VK) => xs.length ≤ sizeLine ∧ ∀ p, H p = none → Q (.ref p) (upd H p (.tup xs))) ha fun φ S H env σ x v rl e hv Q p => by
    split at p
    · rename_i hl
      refine ⟨by rw [VRs.len hv]; exact sz_of hl, fun a ha => p.tup rl ha hv⟩
    · exact p.elim
theorem or_lst {xs : List D} {vs : List V} {p : Addr} (hp : H p = none) (h : VRs K φ n H xs vs) : OR K (nxt φ n p) (n + 1) (upd H p (.lst vs)) p (.lst xs) := ⟨vs, upd_same, h.fut (Fut.new hp)⟩
theorem imp_lst {ta : TA} {fa : Env → Sto → R (List D)} (ha : Imp K W (vrs K) ta fa) : Imp K W (vr K) (tLst ta) (xLst fa) :=
  imp_bind (tb := fun (xs : List V) _ H (Q : VK) => xs.length ≤ sizeLine ∧ ∀ p, H p = none → Q (.ref p) (upd H p (.lst xs))) ha fun φ S H env σ x v rl e hv Q p => by
    split at p
    · rename_i hl
      exact ⟨by rw [VRs.len hv]; exact sz_of hl, fun a ha => p.new rl ha (or_lst ha hv)⟩
    · exact p.elim
/-! ### places in lists and tuples -/
theorem VRs.atI {xs : List D} {vs : List V} {i : Int} {x : D} (h : VRs K φ n H xs vs) (e : L2.atI xs i = some x) : ∃ v, L2.atI vs i = some v ∧ VR K φ n H x v := by
  obtain ⟨j, hj, hx⟩ := Option.bind_eq_some_iff.mp (show (ixN xs.length i).bind (fun j => xs[j]?) = some x from e)
  obtain ⟨v, hv, q⟩ := h.get hx
  refine ⟨v, ?_, q⟩
  show (ixN vs.length i).bind (fun j => vs[j]?) = some v
  rw [h.len, hj]
  exact hv
def oIxL : D → D → Sto → R D := fun x y S => match x, y with
  | .ref l, .int i => match (rdL S l).bind fun xs => atI xs i with
    | some d => .ok d S
    | none => .bad
  | _, _ => .bad
theorem oIxL_eq {l : Nat} {i : Int} {xs : List D} {d : D} (h : rdL S l = some xs) (e : atI xs i = some d) : oIxL (.ref l) (.int i) S = .ok d S := by simp [oIxL, h, e]
theorem opi_ixL : OpI K (rIxL K) oIxL := by
  intro φ S H x y v w X r hx hy Q p
  unfold oIxL at p
  split at p
  · split at p
    · rename_i d hd
      obtain ⟨xs, h1, h2⟩ := Option.bind_eq_some_iff.mp hd
      cases hx; cases hy
      obtain ⟨vs, q1, q2⟩ := r.rd h1
      obtain ⟨u, hu, q3⟩ := q2.atI h2
      exact ⟨_, vs, _, u, rfl, rfl, q1, hu, p.here r q3⟩
    · exact p.elim
  · exact p.elim
def oIxT : D → D → Sto → R D := fun x y S => match x, y with
  | .tup xs, .int i => match atI xs i with
    | some d => .ok d S
    | none => .bad
  | _, _ => .bad
theorem oIxT_eq {i : Int} {xs : List D} {d : D} (e : atI xs i = some d) : oIxT (.tup xs) (.int i) S = .ok d S := by simp [oIxT, e]
theorem opi_ixT : OpI K (rIxT K) oIxT := by
  intro φ S H x y v w X r hx hy Q p
  unfold oIxT at p
  split at p
  · split at p
    · rename_i d hd
      cases hy
      obtain ⟨a, vs, rfl, q1, q2⟩ := hx.tup_inv
      obtain ⟨u, hu, q3⟩ := q2.atI hd
      exact ⟨_, vs, _, u, rfl, rfl, q1, hu, p.here r q3⟩
    · exact p.elim
  · exact p.elim
def oIxS : D → D → Sto → R D := fun x y S => match x, y with
  | .str z, .int i => if z.length ≤ 100000 then match atI z.cps.toList i with
    | some c => .ok (.str ⟨#[c]⟩) S
    | none => .bad
    else .bad
  | _, _ => .bad
theorem oIxS_eq {z : Str} {i : Int} {c : Nat} (h : z.length ≤ 100000) (e : atI z.cps.toList i = some c) : oIxS (.str z) (.int i) S = .ok (.str ⟨#[c]⟩) S := by simp [oIxS, h, e]
theorem opi_ixS : OpI K rIxS oIxS := by
  intro φ S H x y v w X r hx hy Q p
  unfold oIxS at p
  split at p
  · split at p
    · rename_i hl
      split at p
      · rename_i c hd
        cases hx; cases hy
        exact ⟨_, _, c, rfl, rfl, sz_of hl, hd, p.here r (VR.str _)⟩
      · exact p.elim
    · exact p.elim
  · exact p.elim
/-! ### in -/
def scVs : List D → Option (List V)
  | [] => some []
  | x :: xs => (scV x).bind fun v => (scVs xs).map fun vs => v :: vs
theorem flat_of {d : D} {v : V} (h : scV d = some v) : flatV v = true := by cases d <;> simp [scV] at h <;> subst h <;> rfl
theorem scVs_eq : ∀ {xs : List D} {ws vs : List V}, scVs xs = some ws → VRs K φ n H xs vs → vs = ws ∧ ws.all flatV = true
  | [], ws, _, h, .nil => by cases h; exact ⟨rfl, rfl⟩
  | x :: xs, ws, _, h, .cons q t => by
    obtain ⟨v, h1, h2⟩ := Option.bind_eq_some_iff.mp h
    obtain ⟨us, h3, h4⟩ := Option.map_eq_some_iff.mp h2
    obtain ⟨e1, e2⟩ := scVs_eq h3 t
    subst h4
    rw [scV_eq h1 q, e1]
    exact ⟨rfl, by rw [List.all_cons, flat_of h1, e2]; rfl⟩
theorem scVs_ints : ∀ ns : List Int, scVs (ns.map D.int) = some (ns.map V.int)
  | [] => rfl
  | i :: r => by simp [scVs, scV, scVs_ints r]
theorem scVs_strs : ∀ ns : List Str, scVs (ns.map D.str) = some (ns.map V.str)
  | [] => rfl
  | i :: r => by simp [scVs, scV, scVs_strs r]
def itemsOf (S : Sto) : D → Option (List D)
  | .ref l => rdL S l
  | .tup xs => some xs
  | _ => none
@[simp] theorem itemsOf_ref {l : Nat} : itemsOf S (.ref l) = rdL S l := rfl
@[simp] theorem itemsOf_tup {l : List D} : itemsOf S (.tup l) = some l := rfl
theorem itemsOf_eq {y : D} {v : V} {xs : List D} (r : Rel K φ S H) (h : itemsOf S y = some xs) (hy : VR K φ S.length H y v) : ∃ p vs, v = .ref p ∧ (SqL K H p vs ∨ SqT K H p vs) ∧ VRs K φ S.length H xs vs := by
  cases y with
  | ref l =>
    obtain ⟨_, rfl⟩ := hy.ref_inv
    obtain ⟨vs, q1, q2⟩ := r.rd h
    exact ⟨_, vs, rfl, .inl q1, q2⟩
  | tup ys =>
    cases h
    obtain ⟨a, vs, rfl, q1, q2⟩ := hy.tup_inv
    exact ⟨_, vs, rfl, .inr q1, q2⟩
  | _ => cases h
def oIn (neg : Bool) : D → D → Sto → R D := fun x y S => match scV x, (itemsOf S y).bind scVs with
  | some u, some ws => .ok (.bl (if neg = true then !inV u ws else inV u ws)) S
  | _, _ => .bad
theorem opi_in {neg : Bool} : OpI K (rIn K neg) (oIn neg) := by
  intro φ S H x y v w X r hx hy Q p
  unfold oIn at p
  split at p
  · rename_i u ws h1 h2
    obtain ⟨xs, h3, h4⟩ := Option.bind_eq_some_iff.mp h2
    obtain ⟨a, vs, rfl, q1, q2⟩ := itemsOf_eq r h3 hy
    obtain ⟨rfl, q3⟩ := scVs_eq h4 q2
    rw [scV_eq h1 hx]
    exact ⟨a, _, rfl, q1, flat_of h1, q3, p.here r (VR.bl _)⟩
  · exact p.elim
/-! ### list + list, list * n, tuple + tuple, texts -/
def oCat : D → D → Sto → R D := fun x y S => match x, y with
  | .ref l, .ref b => match at_ S l, at_ S b with
    | some (.lst xs), some (.lst ys) => if xs.length + ys.length ≤ 100000 then .ok (.ref S.length) (S ++ [.lst (xs ++ ys)]) else .bad
    | _, _ => .bad
  | _, _ => .bad
theorem oCat_eq {l b : Nat} {xs ys : List D} (h : at_ S l = some (.lst xs)) (g : at_ S b = some (.lst ys)) (hl : xs.length + ys.length ≤ 100000) : oCat (.ref l) (.ref b) S = .ok (.ref S.length) (S ++ [.lst (xs ++ ys)]) := by simp [oCat, h, g, hl]
theorem opi_cat : OpI K rCat oCat := by
  intro φ S H x y v w X r hx hy Q p
  unfold oCat at p
  split at p
  · split at p
    · rename_i xs ys h1 h2
      split at p
      · rename_i hl
        cases hx; cases hy
        obtain ⟨vs, a1, a2⟩ := r.ob _ _ h1
        obtain ⟨us, b1, b2⟩ := r.ob _ _ h2
        exact ⟨_, _, vs, us, rfl, rfl, a1, b1, sz_of (by rw [a2.len, b2.len]; exact hl), fun a ha => p.new r ha (or_lst ha (a2.app b2))⟩
      · exact p.elim
    · exact p.elim
  · exact p.elim
def oCatT : D → D → Sto → R D := fun x y S => match x, y with
  | .tup xs, .tup ys => if xs ≠ [] ∧ xs.length + ys.length ≤ 100000 then .ok (.tup (xs ++ ys)) S else .bad
  | _, _ => .bad
def oAddS : D → D → Sto → R D := fun x y S => match x, y with
  | .str a, .str b => if a.length + b.length ≤ 100000 then .ok (.str (a ++ b)) S else .bad
  | _, _ => .bad
theorem oAddS_eq {a b : Str} (h : a.length + b.length ≤ 100000) : oAddS (.str a) (.str b) S = .ok (.str (a ++ b)) S := by simp [oAddS, h]
theorem opi_addS : OpI K (fun x y H Q => ∃ i j, x = .str i ∧ y = .str j ∧ i.length + j.length ≤ sizeLine ∧ Q (.str (i ++ j)) H) oAddS := by
  intro φ S H x y v w X r hx hy Q p
  unfold oAddS at p
  split at p
  · split at p
    · rename_i hl
      cases hx; cases hy
      exact ⟨_, _, rfl, rfl, sz_of hl, p.here r (VR.str _)⟩
    · exact p.elim
  · exact p.elim
def oLtS : D → D → Sto → R D := fun x y S => match x, y with
  | .str a, .str b => .ok (.bl (decide (a.cps.toList < b.cps.toList))) S
  | _, _ => .bad
theorem opi_ltS : OpI K (fun x y H Q => ∃ i j, x = .str i ∧ y = .str j ∧ Q (.bl (decide (i.cps.toList < j.cps.toList))) H) oLtS := by
  intro φ S H x y v w X r hx hy Q p
  unfold oLtS at p
  split at p
  · cases hx; cases hy
    exact ⟨_, _, rfl, rfl, p.here r (VR.bl _)⟩
  · exact p.elim
def oInS (neg : Bool) : D → D → Sto → R D := fun x y S => match x, y with
  | .str i, .str j => .ok (.bl (if neg = true then !(!(Builtin.Str.occurrences j i 0 j.length 1).isEmpty) else !(Builtin.Str.occurrences j i 0 j.length 1).isEmpty)) S
  | _, _ => .bad
theorem opi_inS : OpI K (fun x y H Q => ∃ i j, x = .str i ∧ y = .str j ∧ Q (.bl (!(Builtin.Str.occurrences j i 0 j.length 1).isEmpty)) H) (oInS false) := by
  intro φ S H x y v w X r hx hy Q p
  unfold oInS at p
  split at p
  · cases hx; cases hy
    exact ⟨_, _, rfl, rfl, p.here r (VR.bl _)⟩
  · exact p.elim
theorem opi_niS : OpI K (fun x y H Q => ∃ i j, x = .str i ∧ y = .str j ∧ Q (.bl (!(!(Builtin.Str.occurrences j i 0 j.length 1).isEmpty))) H) (oInS true) := by
  intro φ S H x y v w X r hx hy Q p
  unfold oInS at p
  split at p
  · cases hx; cases hy
    exact ⟨_, _, rfl, rfl, p.here r (VR.bl _)⟩
  · exact p.elim
theorem VRs.rep {xs : List D} {vs : List V} (h : VRs K φ n H xs vs) : ∀ k, VRs K φ n H (List.flatten (List.replicate k xs)) (List.flatten (List.replicate k vs))
  | 0 => .nil
  | k + 1 => by
    rw [List.replicate_succ, List.replicate_succ, List.flatten_cons, List.flatten_cons]
    exact h.app (VRs.rep h k)
/-! ### slices -/
def xNoPart : Env → Sto → R (Option Int) := fun _ S => .ok none S
def xPart (fa : Env → Sto → R D) : Env → Sto → R (Option Int) := fun env S => (fa env S).bind fun x S1 => match x with
  | .int i => .ok (some i) S1
  | _ => .bad
theorem imp_noPart : Imp K W same tNoPart xNoPart := fun φ S H env σ r e Q p => p.here r rfl
theorem imp_part {ta : TE} {fa : Env → Sto → R D} (ha : Imp K W (vr K) ta fa) : Imp K W same (tPart ta) (xPart fa) :=
  imp_bind (tb := fun (v : V) _ H (Q : Option Int → Hp → Prop) => ∃ i, v = .int i ∧ Q (some i) H) ha fun φ S H env σ x v rl e hv Q p => by
    split at p
    · cases hv
      exact ⟨_, rfl, p.here rl rfl⟩
    · exact p.elim
def SlI (K : PySem.W.Frag) (r : V → Option Int → Option Int → Hp → VK → Prop) (o : D → Option Int → Option Int → Sto → R D) : Prop := ∀ φ S H x v lo hi X, Rel K φ S H → VR K φ S.length H x v → ∀ Q, Post K (vr K) φ S.length H X (o x lo hi S) Q → r v lo hi H Q
def xSl (o : D → Option Int → Option Int → Sto → R D) (fa : Env → Sto → R D) (fl fh : Env → Sto → R (Option Int)) : Env → Sto → R D := fun env S => (fa env S).bind fun x S1 => (fl env S1).bind fun lo S2 => (fh env S2).bind fun hi S3 => o x lo hi S3
theorem imp_sl {r : V → Option Int → Option Int → Hp → VK → Prop} {o : D → Option Int → Option Int → Sto → R D} {ta : TE} {tl th : TO} {fa : Env → Sto → R D} {fl fh : Env → Sto → R (Option Int)} (hr : SlI K r o) (ha : Imp K W (vr K) ta fa) (hl : Imp K W same tl fl) (hh : Imp K W same th fh) :
    Imp K W (vr K) (tSl r ta tl th) (xSl o fa fl fh) :=
  imp_bind (tb := fun (v : V) σ H (Q : VK) => tl σ H fun l H2 => th σ H2 fun u H3 => r v l u H3 Q) ha fun φ S H env σ x v rl e hv Q p => hl.go rl e p fun φ1 S1 H1 lo lo' f r1 e1 h1 p1 => hh.go r1 e1 p1 fun φ2 S2 H2 hi hi' f2 r2 e2 h2 p2 => by
    obtain rfl : lo = lo' := h1
    obtain rfl : hi = hi' := h2
    exact hr φ2 S2 H2 x v lo hi _ r2 (VR.fut f2 (VR.fut f hv)) Q p2
/-- a slice's items -/
def cutX {α : Type} (xs : List α) (lo hi : Option Int) : List α := (xs.drop (HT.sIx xs.length 0 lo)).take (HT.sIx xs.length xs.length hi - HT.sIx xs.length 0 lo)
theorem VRs.cut {xs : List D} {vs : List V} {lo hi : Option Int} (h : VRs K φ n H xs vs) : VRs K φ n H (cutX xs lo hi) (cutV vs lo hi) := by
  unfold cutX cutV
  rw [h.len]
  exact (h.drop _).take _
def oSlL : D → Option Int → Option Int → Sto → R D := fun x lo hi S => match x with
  | .ref l => match rdL S l with
    | some xs => .ok (.ref S.length) (S ++ [.lst (cutX xs lo hi)])
    | none => .bad
  | _ => .bad
theorem oSlL_eq {l : Nat} {xs : List D} {lo hi : Option Int} (h : rdL S l = some xs) : oSlL (.ref l) lo hi S = .ok (.ref S.length) (S ++ [.lst (cutX xs lo hi)]) := by simp [oSlL, h]
theorem sli_L : SlI K (rSlL K) oSlL := by
  intro φ S H x v lo hi X r hx Q p
  unfold oSlL at p
  split at p
  · split at p
    · rename_i xs h
      cases hx
      obtain ⟨vs, q1, q2⟩ := r.rd h
      exact ⟨_, vs, rfl, q1, fun a ha => p.new r ha (or_lst ha q2.cut)⟩
    · exact p.elim
  · exact p.elim
/-! ### built-ins -/
def CallI (K : PySem.W.Frag) (r : List V → Hp → VK → Prop) (o : List D → Sto → R D) : Prop := ∀ φ S H ds vs X, Rel K φ S H → VRs K φ S.length H ds vs → ∀ Q, Post K (vr K) φ S.length H X (o ds S) Q → r vs H Q
def xCB (o : List D → Sto → R D) (fa : Env → Sto → R (List D)) : Env → Sto → R D := fun env S => (fa env S).bind o
theorem imp_cb {r : List V → Hp → VK → Prop} {o : List D → Sto → R D} {ta : TA} {fa : Env → Sto → R (List D)} (hr : CallI K r o) (ha : Imp K W (vrs K) ta fa) : Imp K W (vr K) (tCB r ta) (xCB o fa) :=
  imp_bind (tb := fun (vs : List V) _ H (Q : VK) => r vs H Q) ha fun φ S H env σ x v rl e hv Q p => hr φ S H x v _ rl hv Q p
def bLen : List D → Sto → R D := fun ds S => match ds with
  | [y] => match itemsOf S y with
    | some xs => .ok (.int xs.length) S
    | none => .bad
  | _ => .bad
theorem bLen_ref {l : Nat} {xs : List D} (h : rdL S l = some xs) : bLen [.ref l] S = .ok (.int xs.length) S := by simp [bLen, h]
@[simp] theorem bLen_tup {xs : List D} : bLen [.tup xs] S = .ok (.int xs.length) S := rfl
theorem VRs.one_inv {y : D} {vs : List V} (h : VRs K φ n H [y] vs) : ∃ v, vs = [v] ∧ VR K φ n H y v := by
  cases h with
  | cons h t => cases t; exact ⟨_, rfl, h⟩
theorem VRs.two_inv {y z : D} {vs : List V} (h : VRs K φ n H [y, z] vs) : ∃ v w, vs = [v, w] ∧ VR K φ n H y v ∧ VR K φ n H z w := by
  cases h with
  | cons h t =>
    obtain ⟨w, rfl, g⟩ := t.one_inv
    exact ⟨_, w, rfl, h, g⟩
theorem cbi_len : CallI K (rLenQ K) bLen := by
  intro φ S H ds vs X r h Q p
  unfold bLen at p
  split at p
  · split at p
    · rename_i y xs e
      obtain ⟨v, rfl, hv⟩ := h.one_inv
      obtain ⟨a, ws, rfl, q1, q2⟩ := itemsOf_eq r e hv
      refine ⟨a, ws, rfl, q1, ?_⟩
      rw [q2.len]
      exact p.here r (VR.int _)
    · exact p.elim
  · exact p.elim
def bList : List D → Sto → R D := fun ds S => match ds with
  | [y] => match itemsOf S y with
    | some xs => .ok (.ref S.length) (S ++ [.lst xs])
    | none => .bad
  | _ => .bad
theorem bList_ref {l : Nat} {xs : List D} (h : rdL S l = some xs) : bList [.ref l] S = .ok (.ref S.length) (S ++ [.lst xs]) := by simp [bList, h]
@[simp] theorem bList_tup {xs : List D} : bList [.tup xs] S = .ok (.ref S.length) (S ++ [.lst xs]) := rfl
theorem cbi_list : CallI K (rListQ K) bList := by
  intro φ S H ds vs X r h Q p
  unfold bList at p
  split at p
  · split at p
    · rename_i y xs e
      obtain ⟨v, rfl, hv⟩ := h.one_inv
      obtain ⟨a, ws, rfl, q1, q2⟩ := itemsOf_eq r e hv
      exact ⟨a, ws, rfl, q1, fun l hl => p.new r hl (or_lst hl q2)⟩
    · exact p.elim
  · exact p.elim
def bTuple : List D → Sto → R D := fun ds S => match ds with
  | [y] => match itemsOf S y with
    | some xs => .ok (.tup xs) S
    | none => .bad
  | _ => .bad
theorem bTuple_ref {l : Nat} {xs : List D} (h : rdL S l = some xs) : bTuple [.ref l] S = .ok (.tup xs) S := by simp [bTuple, h]
@[simp] theorem bTuple_tup {xs : List D} : bTuple [.tup xs] S = .ok (.tup xs) S := rfl
theorem cbi_tuple : CallI K (rTupQ K) bTuple := by
  intro φ S H ds vs X r h Q p
  unfold bTuple at p
  split at p
  · split at p
    · rename_i y xs e
      obtain ⟨v, rfl, hv⟩ := h.one_inv
      obtain ⟨a, ws, rfl, q1, q2⟩ := itemsOf_eq r e hv
      refine ⟨a, ws, rfl, ?_⟩
      rcases q1 with q1 | q1
      · exact .inl ⟨q1, fun l hl => p.tup r hl q2⟩
      · exact .inr ⟨q1, p.here r (VR.tup q1 q2)⟩
    · exact p.elim
  · exact p.elim
def bInt1 (g : Int → D) : List D → Sto → R D := fun ds S => match ds with
  | [.int i] => .ok (g i) S
  | _ => .bad
@[simp] theorem bInt1_eq {g : Int → D} {i : Int} : bInt1 g [.int i] S = .ok (g i) S := rfl
theorem cbi_abs : CallI K (fun xs H Q => ∃ i, xs = [.int i] ∧ Q (.int (if i < 0 then -i else i)) H) (bInt1 fun i => .int (if i < 0 then -i else i)) := by
  intro φ S H ds vs X r h Q p
  unfold bInt1 at p
  split at p
  · obtain ⟨v, rfl, hv⟩ := h.one_inv
    cases hv
    exact ⟨_, rfl, p.here r (VR.int _)⟩
  · exact p.elim
def bInt2 (g : Int → Int → D) : List D → Sto → R D := fun ds S => match ds with
  | [.int i, .int j] => .ok (g i j) S
  | _ => .bad
@[simp] theorem bInt2_eq {g : Int → Int → D} {i j : Int} : bInt2 g [.int i, .int j] S = .ok (g i j) S := rfl
theorem cbi_max2 : CallI K (fun xs H Q => ∃ i j, xs = [.int i, .int j] ∧ Q (.int (if j > i then j else i)) H) (bInt2 fun i j => .int (if j > i then j else i)) := by
  intro φ S H ds vs X r h Q p
  unfold bInt2 at p
  split at p
  · obtain ⟨v, w, rfl, hv, hw⟩ := h.two_inv
    cases hv; cases hw
    exact ⟨_, _, rfl, p.here r (VR.int _)⟩
  · exact p.elim
theorem cbi_min2 : CallI K (fun xs H Q => ∃ i j, xs = [.int i, .int j] ∧ Q (.int (if j < i then j else i)) H) (bInt2 fun i j => .int (if j < i then j else i)) := by
  intro φ S H ds vs X r h Q p
  unfold bInt2 at p
  split at p
  · obtain ⟨v, w, rfl, hv, hw⟩ := h.two_inv
    cases hv; cases hw
    exact ⟨_, _, rfl, p.here r (VR.int _)⟩
  · exact p.elim
def bInt : List D → Sto → R D := fun ds S => match ds with
  | [.int i] => .ok (.int i) S
  | [.bl b] => .ok (.int (if b = true then 1 else 0)) S
  | _ => .bad
@[simp] theorem bInt_int {i : Int} : bInt [.int i] S = .ok (.int i) S := rfl
@[simp] theorem bInt_bl {i : Bool} : bInt [.bl i] S = .ok (.int (if i = true then 1 else 0)) S := rfl
theorem cbi_int : CallI K (fun xs H Q => (∃ i, xs = [.int i] ∧ Q (.int i) H) ∨ ∃ k, xs = [.bl k] ∧ Q (.int (if k then 1 else 0)) H) bInt := by
  intro φ S H ds vs X r h Q p
  unfold bInt at p
  split at p
  · obtain ⟨v, rfl, hv⟩ := h.one_inv
    cases hv
    exact .inl ⟨_, rfl, p.here r (VR.int _)⟩
  · obtain ⟨v, rfl, hv⟩ := h.one_inv
    cases hv
    exact .inr ⟨_, rfl, p.here r (VR.int _)⟩
  · exact p.elim
def bLenS : List D → Sto → R D := fun ds S => match ds with
  | [.str z] => if z.length ≤ 100000 then .ok (.int z.length) S else .bad
  | _ => .bad
theorem cbi_lenS : CallI K (fun xs H Q => ∃ z, xs = [.str z] ∧ z.length ≤ sizeLine ∧ Q (.int z.length) H) bLenS := by
  intro φ S H ds vs X r h Q p
  unfold bLenS at p
  split at p
  · split at p
    · rename_i hl
      obtain ⟨v, rfl, hv⟩ := h.one_inv
      cases hv
      exact ⟨_, rfl, sz_of hl, p.here r (VR.int _)⟩
    · exact p.elim
  · exact p.elim
/-- lists of ints -/
def intsOf : List D → Option (List Int)
  | [] => some []
  | .int i :: r => (intsOf r).map fun ns => i :: ns
  | _ => none
theorem intsOf_map : ∀ ns : List Int, intsOf (ns.map D.int) = some ns
  | [] => rfl
  | i :: r => by simp [intsOf, intsOf_map r]
theorem intsOf_inv : ∀ {xs : List D} {ns : List Int}, intsOf xs = some ns → xs = ns.map D.int
  | [], _, h => by cases h; rfl
  | .int i :: r, _, h => by
    obtain ⟨ns, h1, h2⟩ := Option.map_eq_some_iff.mp (show (intsOf r).map (fun ns => i :: ns) = some _ from h)
    subst h2
    rw [intsOf_inv h1]
    rfl
  | .non :: _, _, h => by cases h
  | .bl _ :: _, _, h => by cases h
  | .str _ :: _, _, h => by cases h
  | .ref _ :: _, _, h => by cases h
  | .tup _ :: _, _, h => by cases h
def bInts (g : List Int → Sto → R D) : List D → Sto → R D := fun ds S => match ds with
  | [.ref l] => match (rdL S l).bind intsOf with
    | some ns => g ns S
    | none => .bad
  | _ => .bad
theorem bInts_eq {g : List Int → Sto → R D} {l : Nat} {ns : List Int} (h : rdL S l = some (ns.map D.int)) : bInts g [.ref l] S = g ns S := by simp [bInts, h, intsOf_map]
theorem bInts_inv {ds : List D} {vs : List V} {g : List Int → Sto → R D} {Q : VK} (r : Rel K φ S H) (h : VRs K φ S.length H ds vs) (p : Post K (vr K) φ S.length H X (bInts g ds S) Q) : ∃ (a : Addr) (ns : List Int), vs = [.ref a] ∧ SqL K H a (ns.map V.int) ∧ Post K (vr K) φ S.length H X (g ns S) Q := by
  unfold bInts at p
  split at p
  · split at p
    · rename_i ns e
      obtain ⟨xs, h1, h2⟩ := Option.bind_eq_some_iff.mp e
      obtain ⟨v, rfl, hv⟩ := h.one_inv
      cases hv
      obtain ⟨ws, q1, q2⟩ := r.rd h1
      rw [intsOf_inv h2] at q2
      rw [q2.ints_inv] at q1
      exact ⟨_, ns, rfl, q1, p⟩
    · exact p.elim
  · exact p.elim
theorem cbi_sum : CallI K (rSum K) (bInts fun ns S => .ok (.int ns.sum) S) := by
  intro φ S H ds vs X r h Q p
  obtain ⟨a, ns, rfl, q1, p⟩ := bInts_inv r h p
  exact ⟨a, ns, rfl, q1, p.here r (VR.int _)⟩
/-- the greatest, the least of some ints -/
def gMax : List Int → Int
  | [] => 0
  | i :: r => r.foldl max i
def gMin : List Int → Int
  | [] => 0
  | i :: r => r.foldl min i
theorem foldl_max : ∀ (r : List Int) (i : Int), i ≤ r.foldl max i ∧ (∀ y ∈ r, y ≤ r.foldl max i) ∧ (r.foldl max i = i ∨ r.foldl max i ∈ r)
  | [], i => ⟨Int.le_refl _, by simp, .inl rfl⟩
  | y :: r, i => by
    obtain ⟨h1, h2, h3⟩ := foldl_max r (max i y)
    rw [List.foldl_cons]
    refine ⟨by omega, fun z hz => ?_, ?_⟩
    · rcases List.mem_cons.mp hz with rfl | hz
      · omega
      · exact h2 z hz
    · rcases h3 with h3 | h3
      · by_cases hm : i ≤ y
        · exact .inr (by rw [h3]; simp [Int.max_eq_right hm])
        · exact .inl (by rw [h3]; exact Int.max_eq_left (by omega))
      · exact .inr (List.mem_cons_of_mem _ h3)
theorem foldl_min : ∀ (r : List Int) (i : Int), r.foldl min i ≤ i ∧ (∀ y ∈ r, r.foldl min i ≤ y) ∧ (r.foldl min i = i ∨ r.foldl min i ∈ r)
  | [], i => ⟨Int.le_refl _, by simp, .inl rfl⟩
  | y :: r, i => by
    obtain ⟨h1, h2, h3⟩ := foldl_min r (min i y)
    rw [List.foldl_cons]
    refine ⟨by omega, fun z hz => ?_, ?_⟩
    · rcases List.mem_cons.mp hz with rfl | hz
      · omega
      · exact h2 z hz
    · rcases h3 with h3 | h3
      · by_cases hm : i ≤ y
        · exact .inl (by rw [h3]; exact Int.min_eq_left hm)
        · exact .inr (by rw [h3]; simp [Int.min_eq_right (show y ≤ i by omega)])
      · exact .inr (List.mem_cons_of_mem _ h3)
theorem gMax_spec {ns : List Int} (h : 0 < ns.length) : gMax ns ∈ ns ∧ ∀ y ∈ ns, y ≤ gMax ns := by
  cases ns with
  | nil => cases h
  | cons i r =>
    obtain ⟨h1, h2, h3⟩ := foldl_max r i
    refine ⟨?_, fun y hy => ?_⟩
    · rcases h3 with h3 | h3
      · exact List.mem_cons.mpr (.inl h3)
      · exact List.mem_cons_of_mem _ h3
    · rcases List.mem_cons.mp hy with rfl | hy
      · exact h1
      · exact h2 y hy
theorem gMin_spec {ns : List Int} (h : 0 < ns.length) : gMin ns ∈ ns ∧ ∀ y ∈ ns, gMin ns ≤ y := by
  cases ns with
  | nil => cases h
  | cons i r =>
    obtain ⟨h1, h2, h3⟩ := foldl_min r i
    refine ⟨?_, fun y hy => ?_⟩
    · rcases h3 with h3 | h3
      · exact List.mem_cons.mpr (.inl h3)
      · exact List.mem_cons_of_mem _ h3
    · rcases List.mem_cons.mp hy with rfl | hy
      · exact h1
      · exact h2 y hy
theorem cbi_max : CallI K (rMax K) (bInts fun ns S => if 0 < ns.length then .ok (.int (gMax ns)) S else .bad) := by
  intro φ S H ds vs X r h Q p
  obtain ⟨a, ns, rfl, q1, p⟩ := bInts_inv r h p
  split at p
  · rename_i hl
    refine ⟨a, ns, rfl, q1, hl, fun m hm hle => ?_⟩
    obtain ⟨g1, g2⟩ := gMax_spec hl
    obtain rfl : m = gMax ns := Int.le_antisymm (g2 m hm) (hle _ g1)
    exact p.here r (VR.int _)
  · exact p.elim
theorem cbi_min : CallI K (rMin K) (bInts fun ns S => if 0 < ns.length then .ok (.int (gMin ns)) S else .bad) := by
  intro φ S H ds vs X r h Q p
  obtain ⟨a, ns, rfl, q1, p⟩ := bInts_inv r h p
  split at p
  · rename_i hl
    refine ⟨a, ns, rfl, q1, hl, fun m hm hle => ?_⟩
    obtain ⟨g1, g2⟩ := gMin_spec hl
    obtain rfl : m = gMin ns := Int.le_antisymm (hle _ g1) (g2 m hm)
    exact p.here r (VR.int _)
  · exact p.elim
/-! ### truth -/
def truD (S : Sto) : D → Option Bool
  | .non => some false
  | .bl b => some b
  | .int i => some (i != 0)
  | .str y => if y.length ≤ 100000 then some ((y.length : Int) != 0) else none
  | .ref l => match at_ S l with
    | some (.lst xs) => some (!xs.isEmpty)
    | some (.rol xs) => some (!xs.isEmpty)
    | some (.dK kvs) => some (!kvs.isEmpty)
    | _ => none
  | .tup xs => some (!xs.isEmpty)
theorem VRs.empty {xs : List D} {vs : List V} (h : VRs K φ n H xs vs) : vs.isEmpty = xs.isEmpty := by cases h <;> rfl
theorem truD_eq {d : D} {v : V} {k : Bool} (r : Rel K φ S H) (h : truD S d = some k) (q : VR K φ S.length H d v) : TruV K v H k := by
  cases q with
  | non => cases h; rfl
  | bl b => cases h; rfl
  | int i => cases h; rfl
  | str y =>
    simp only [truD] at h
    split at h
    · rename_i hl
      cases h
      exact ⟨sz_of hl, rfl⟩
    · cases h
  | ref hl =>
    simp only [truD] at h
    split at h
    · rename_i xs e
      cases h
      obtain ⟨vs, h1, h2⟩ := r.ob _ _ e
      exact .inl ⟨vs, sq_of h1, by rw [h2.empty]⟩
    · rename_i xs e
      cases h
      obtain ⟨vs, h1, h2⟩ := r.rd (show rdL S _ = some xs by unfold rdL; rw [e])
      exact .inl ⟨vs, h1, by rw [h2.empty]⟩
    · rename_i xs e
      cases h
      obtain ⟨vs, h1, h2⟩ := r.ob _ _ e
      exact .inr (.inr ⟨vs, h1, by cases h2 <;> rfl⟩)
    · cases h
  | tup hl t =>
    cases h
    exact .inr (.inl ⟨_, hl, by rw [t.empty]⟩)
def xTru (fa : Env → Sto → R D) : Env → Sto → R Bool := fun env S => (fa env S).bind fun x S1 => match truD S1 x with
  | some b => .ok b S1
  | none => .bad
theorem imp_tru {ta : TE} {fa : Env → Sto → R D} (ha : Imp K W (vr K) ta fa) : Imp K W same (tTru K ta) (xTru fa) :=
  imp_bind (tb := fun (v : V) _ H (Q : Bool → Hp → Prop) => ∃ k, TruV K v H k ∧ Q k H) ha fun φ S H env σ x v rl e hv Q p => by
    split at p
    · rename_i b hb
      exact ⟨b, truD_eq rl hb hv, p.here rl rfl⟩
    · exact p.elim
end
end Mi

namespace Mi
open PySem PySem.Spec PyProof.Rows L2 Evl My
section
variable {K : PySem.W.Frag} {φ φ1 φ' : Nat → Addr} {n n1 n' : Nat} {H H1 H' : Hp} {X : XK} {W W1 : Wc K} {S : Sto} {α β γ δ : Type} {ρ : Rl α β}
/-! ### statements -/
def PostS (K : PySem.W.Frag) (W : Wc K) (φ : Nat → Addr) (n : Nat) (H : Hp) (r : RS) (D : Ends) : Prop := match r with
  | .nx e S' => ∀ φ' H' σ', Fut K φ n H φ' S'.length H' → Rel K φ' S' H' → ER K φ' S'.length H' e σ' → D.nx σ' H'
  | .ret d S' => ∀ φ' H' v, Fut K φ n H φ' S'.length H' → Rel K φ' S' H' → VR K φ' S'.length H' d v → D.rt v H'
  | .bk e S' => ∀ φ' H' σ', Fut K φ n H φ' S'.length H' → Rel K φ' S' H' → ER K φ' S'.length H' e σ' → D.bk σ' H'
  | .ct e S' => ∀ φ' H' σ', Fut K φ n H φ' S'.length H' → Rel K φ' S' H' → ER K φ' S'.length H' e σ' → D.ct σ' H'
  | .exc c fs e S' => ∀ φ' H' σ' dd fv, Fut K φ n H φ' S'.length H' → Rel K φ' S' H' → ER K φ' S'.length H' e σ' → H' dd = some (.xd fv) → KR K φ' S'.length H' fs fv → W (.ref (He.ga K c)) (some dd) σ' H'
  | .bad => False
theorem PostS.fut {r : RS} {D : Ends} (f : Fut K φ n H φ1 n1 H1) (h : PostS K W φ n H r D) : PostS K W φ1 n1 H1 r D := by
  cases r with
  | nx e S' => exact fun φ' H' v f' => h φ' H' v (f.trans f')
  | ret e S' => exact fun φ' H' v f' => h φ' H' v (f.trans f')
  | bk e S' => exact fun φ' H' v f' => h φ' H' v (f.trans f')
  | ct e S' => exact fun φ' H' v f' => h φ' H' v (f.trans f')
  | exc c fs e S' => exact fun φ' H' σ' dd fv f' => h φ' H' σ' dd fv (f.trans f')
  | bad => exact h
def ImpS (K : PySem.W.Frag) (W : Wc K) (t : TS) (f : Env → Sto → RS) : Prop := ∀ φ S H env σ, Rel K φ S H → EW K W φ S.length H env σ → ∀ D, PostS K W φ S.length H (f env S) D → t D σ H
theorem Imp.goS {ta : L2.St → Hp → (β → Hp → Prop) → Prop} {fa : Env → Sto → R α} (ha : Imp K W ρ ta fa) {env : Env} {σ : L2.St} {g : α → Sto → RS} {tb : β → Hp → Prop} (r : Rel K φ S H) (e : EW K W φ S.length H env σ) {D : Ends}
    (p : PostS K W φ S.length H ((fa env S).bindS env g) D)
    (hb : ∀ φ1 S1 H1 x v, Fut K φ S.length H φ1 S1.length H1 → Rel K φ1 S1 H1 → EW K W φ1 S1.length H1 env σ → ρ φ1 S1.length H1 x v → PostS K W φ1 S1.length H1 (g x S1) D → tb v H1) : ta σ H tb := by
  refine ha φ S H env σ r e _ ?_
  cases hf : fa env S with
  | ok x S1 =>
    rw [hf] at p
    exact fun φ' H' v f r' hv => hb φ' S1 H' x v f r' (e.fut f) hv (p.fut f)
  | exc c fs S1 =>
    rw [hf] at p
    exact fun φ' H' dd fv f r' hd hk => p φ' H' σ dd fv f r' (e.fut f).e hd hk
  | bad =>
    rw [hf] at p
    exact p
def xNext : Env → Sto → RS := fun env S => .nx env S
def xSeq (f g : Env → Sto → RS) : Env → Sto → RS := fun env S => (f env S).seq g
def xBreak : Env → Sto → RS := fun env S => .bk env S
def xCont : Env → Sto → RS := fun env S => .ct env S
def xRetN : Env → Sto → RS := fun _ S => .ret .non S
def xRet (fa : Env → Sto → R D) : Env → Sto → RS := fun env S => (fa env S).bindS env fun d S1 => .ret d S1
def xDrop (fa : Env → Sto → R D) : Env → Sto → RS := fun env S => (fa env S).bindS env fun _ S1 => .nx env S1
def xIfS (ft : Env → Sto → R Bool) (f g : Env → Sto → RS) : Env → Sto → RS := fun env S => (ft env S).bindS env fun b S1 => if b = true then f env S1 else g env S1
theorem imp_next : ImpS K W tNext xNext := fun φ S H env σ r e D p => p φ H σ Fut.refl r e.e
theorem imp_break : ImpS K W tBreak xBreak := fun φ S H env σ r e D p => p φ H σ Fut.refl r e.e
theorem imp_cont : ImpS K W tCont xCont := fun φ S H env σ r e D p => p φ H σ Fut.refl r e.e
theorem imp_retN : ImpS K W tRetN xRetN := fun φ S H env σ r e D p => p φ H .non Fut.refl r VR.non
theorem imp_seq {t u : TS} {f g : Env → Sto → RS} (ht : ImpS K W t f) (hu : ImpS K W u g) : ImpS K W (tSeq t u) (xSeq f g) := by
  intro φ S H env σ r e D p
  refine ht φ S H env σ r e _ ?_
  unfold xSeq at p
  cases hf : f env S with
  | nx e1 S1 =>
    rw [hf] at p
    exact fun φ' H' σ' fu r' e' => hu φ' S1 H' e1 σ' r' ⟨e', W.mono fu e.c⟩ D (PostS.fut fu p)
  | ret d S1 => rw [hf] at p; exact p
  | bk e1 S1 => rw [hf] at p; exact p
  | ct e1 S1 => rw [hf] at p; exact p
  | exc c fs e1 S1 => rw [hf] at p; exact p
  | bad => rw [hf] at p; exact p
theorem imp_ret {ta : TE} {fa : Env → Sto → R D} (ha : Imp K W (vr K) ta fa) : ImpS K W (tRet ta) (xRet fa) := by
  intro φ S H env σ r e D p
  exact ha.goS r e p fun φ1 S1 H1 x v f r1 e1 hv p1 => p1 φ1 H1 v Fut.refl r1 hv
theorem imp_drop {ta : TE} {fa : Env → Sto → R D} (ha : Imp K W (vr K) ta fa) : ImpS K W (tDrop ta) (xDrop fa) := by
  intro φ S H env σ r e D p
  exact ha.goS (tb := fun _ H1 => D.nx σ H1) r e p fun φ1 S1 H1 x v f r1 e1 hv p1 => p1 φ1 H1 σ Fut.refl r1 e1.e
theorem imp_ifS {tt : TT} {t u : TS} {ft : Env → Sto → R Bool} {f g : Env → Sto → RS} (htt : Imp K W same tt ft) (ht : ImpS K W t f) (hu : ImpS K W u g) : ImpS K W (tIfS tt t u) (xIfS ft f g) := by
  intro φ S H env σ r e D p
  refine htt.goS (tb := fun b H1 => if b = true then t D σ H1 else u D σ H1) r e p fun φ1 S1 H1 x v f1 r1 e1 hv p1 => ?_
  obtain rfl : x = v := hv
  cases x with
  | true => exact ht φ1 S1 H1 env σ r1 e1 D p1
  | false => exact hu φ1 S1 H1 env σ r1 e1 D p1
/-! ### targets -/
def Sets (ts : List Nat) (σ σ' : L2.St) : Prop := σ'.length = σ.length ∧ ∀ i, i ∉ ts → σ'[i]? = σ[i]?
theorem Sets.refl {ts : List Nat} {σ : L2.St} : Sets ts σ σ := ⟨rfl, fun _ _ => rfl⟩
theorem Sets.trans {ts us : List Nat} {σ σ1 σ2 : L2.St} (a : Sets ts σ σ1) (b : Sets us σ1 σ2) : Sets (ts ++ us) σ σ2 := ⟨b.1.trans a.1, fun i hi => by
  rw [List.mem_append, not_or] at hi
  rw [b.2 i hi.2, a.2 i hi.1]⟩
abbrev XG := D → Env → Sto → R Env
def PostG (K : PySem.W.Frag) (ts : List Nat) (φ : Nat → Addr) (n : Nat) (H : Hp) (σ : L2.St) (r : R Env) (Q : L2.St → Hp → Prop) : Prop := match r with
  | .ok e S' => ∀ φ' H' σ', Fut K φ n H φ' S'.length H' → Rel K φ' S' H' → ER K φ' S'.length H' e σ' → Sets ts σ σ' → Q σ' H'
  | _ => False
def ImpG (K : PySem.W.Frag) (ts : List Nat) (g : TG) (fg : XG) : Prop := ∀ φ S H env σ d v, Rel K φ S H → ER K φ S.length H env σ → VR K φ S.length H d v → ∀ Q, PostG K ts φ S.length H σ (fg d env S) Q → g v σ H Q
def gNameX (i : Nat) : XG := fun d env S => .ok (env.set i (some d)) S
theorem impg_name {i : Nat} : ImpG K [i] (gName i) (gNameX i) := fun φ S H env σ d v r e hv Q p => p φ H _ Fut.refl r (e.set i hv) ⟨List.length_set .., fun j hj => List.getElem?_set_ne (by simpa [eq_comm] using hj)⟩
abbrev XGs := List D → Env → Sto → R Env
def ImpGs (K : PySem.W.Frag) (ts : List Nat) (g : TGs) (fg : XGs) : Prop := ∀ φ S H env σ ds vs, Rel K φ S H → ER K φ S.length H env σ → VRs K φ S.length H ds vs → ∀ Q, PostG K ts φ S.length H σ (fg ds env S) Q → g vs σ H Q
def gNilX : XGs := fun ds env S => match ds with
  | [] => .ok env S
  | _ => .bad
def gConsX (f : XG) (fr : XGs) : XGs := fun ds env S => match ds with
  | d :: r => match f d env S with
    | .ok e S1 => fr r e S1
    | _ => .bad
  | _ => .bad
def gTupX (k : Nat) (f : XGs) : XG := fun d env S => match d with
  | .tup xs => if xs.length = k then f xs env S else .bad
  | _ => .bad
theorem impgs_nil : ImpGs K [] gNil gNilX := by
  intro φ S H env σ ds vs r e hv Q p
  cases hv with
  | nil => exact ⟨rfl, p φ H σ Fut.refl r e Sets.refl⟩
  | cons _ _ => exact p.elim
theorem impgs_cons {ts us : List Nat} {g : TG} {gs : TGs} {f : XG} {fr : XGs} (h : ImpG K ts g f) (hr : ImpGs K us gs fr) : ImpGs K (ts ++ us) (gCons g gs) (gConsX f fr) := by
  intro φ S H env σ ds vs r e hv Q p
  cases hv with
  | nil => exact p.elim
  | @cons x v xs vs q t =>
    refine ⟨v, vs, rfl, h φ S H env σ x v r e q _ ?_⟩
    show PostG K ts φ S.length H σ (f x env S) _
    unfold gConsX at p
    cases hf : f x env S with
    | ok e1 S1 =>
      simp only [hf] at p
      intro φ' H' σ' fu r' e' s'
      refine hr φ' S1 H' e1 σ' xs vs r' e' (VRs.fut fu t) Q ?_
      cases hg : fr xs e1 S1 with
      | ok e2 S2 =>
        rw [hg] at p
        exact fun φ2 H2 σ2 f2 r2 e2 s2 => p φ2 H2 σ2 (fu.trans f2) r2 e2 (s'.trans s2)
      | exc c fs S2 => rw [hg] at p; exact p
      | bad => rw [hg] at p; exact p
    | exc c fs S1 => simp only [hf] at p; exact p.elim
    | bad => simp only [hf] at p; exact p.elim
theorem impg_tup {ts : List Nat} {k : Nat} {gs : TGs} {f : XGs} (h : ImpGs K ts gs f) : ImpG K ts (gTup K k gs) (gTupX k f) := by
  intro φ S H env σ d v r e hv Q p
  unfold gTupX at p
  split at p
  · split at p
    · rename_i hl
      obtain ⟨a, vs, rfl, q1, q2⟩ := hv.tup_inv
      exact ⟨a, vs, rfl, q1, by rw [q2.len, hl], h φ S H env σ _ vs r e q2 Q p⟩
    · exact p.elim
  · exact p.elim
/-- x[i] = v, x a list -/
def setLX (x i v : D) (S : Sto) : Option Sto := match x, i with
  | .ref l, .int k => match at_ S l with
    | some (.lst xs) => (ixN xs.length k).map fun j => S.set l (.lst (xs.set j v))
    | _ => none
  | _, _ => none
theorem setLX_eq {l : Nat} {xs : List D} {k : Int} {j : Nat} {v : D} (h : at_ S l = some (.lst xs)) (hj : ixN xs.length k = some j) : setLX (.ref l) (.int k) v S = some (S.set l (.lst (xs.set j v))) := by simp [setLX, h, hj]
def gSubX (fo fi : Env → Sto → R D) : XG := fun d env S => (fo env S).bind fun x S1 => (fi env S1).bind fun i S2 => match setLX x i d S2 with
  | some S3 => .ok env S3
  | none => .bad
theorem impg_sub {to ti : TE} {fo fi : Env → Sto → R D} (ho : Imp K (W0 K) (vr K) to fo) (hi : Imp K (W0 K) (vr K) ti fi) : ImpG K [] (gSub to ti rSetL) (gSubX fo fi) := by
  intro φ S H env σ d v r e hv Q p
  unfold gSubX at p
  refine ho φ S H env σ r ⟨e, trivial⟩ _ ?_
  cases hf : fo env S with
  | ok x S1 =>
    rw [hf] at p
    intro φ1 H1 u f1 r1 hu
    refine hi φ1 S1 H1 env σ r1 ⟨e.fut f1, trivial⟩ _ ?_
    simp only [R.bind_ok] at p
    cases hg : fi env S1 with
    | ok y S2 =>
      rw [hg] at p
      intro φ2 H2 w f2 r2 hw
      simp only [R.bind_ok] at p
      cases hs : setLX x y d S2 with
      | none => rw [hs] at p; exact p.elim
      | some S3 =>
        rw [hs] at p
        unfold setLX at hs
        split at hs
        · split at hs
          · rename_i l k _ xs hl
            obtain ⟨j, hj, rfl⟩ := Option.map_eq_some_iff.mp hs
            obtain ⟨_, rfl⟩ := (VR.fut f2 hu).ref_inv
            cases hw
            obtain ⟨ws, q1, q2⟩ := r2.ob _ _ hl
            have hv2 := VR.fut (f1.trans f2) hv
            have fw : Fut K φ2 S2.length H2 φ2 S2.length (upd H2 (φ2 l) (.lst (ws.set j v))) := Fut.upd q1 trivial
            have q := r2.put (o' := .lst (xs.set j d)) (u := .lst (ws.set j v)) hl rfl rfl ⟨_, upd_same, (q2.set j hv2).fut fw⟩
            have fz := (f1.trans f2).trans q.2
            exact ⟨_, ws, _, j, rfl, rfl, q1, by rw [q2.len]; exact hj, p _ _ _ fz q.1 (e.fut fz) Sets.refl⟩
          · cases hs
        · cases hs
    | exc c fs S2 => rw [hg] at p; exact p.elim
    | bad => rw [hg] at p; exact p.elim
  | exc c fs S1 => rw [hf] at p; exact p.elim
  | bad => rw [hf] at p; exact p.elim
def toS (r : R Env) : RS := match r with
  | .ok e S => .nx e S
  | _ => .bad
@[simp] theorem toS_ok {e : Env} : toS (.ok e S) = .nx e S := rfl
theorem PostG.of {ts : List Nat} {σ : L2.St} {r : R Env} {D : Ends} (p : PostS K W φ n H (toS r) D) : PostG K ts φ n H σ r D.nx := by
  cases r with
  | ok e S1 => exact fun φ' H' σ' f r e _ => p φ' H' σ' f r e
  | _ => exact p
def xAsg (fa : Env → Sto → R D) (fg : XG) : Env → Sto → RS := fun env S => (fa env S).bindS env fun x S1 => toS (fg x env S1)
theorem imp_asg {ta : TE} {g : TG} {fa : Env → Sto → R D} {fg : XG} {ts : List Nat} (ha : Imp K W (vr K) ta fa) (hg : ImpG K ts g fg) : ImpS K W (tAsg ta g) (xAsg fa fg) := by
  intro φ S H env σ r e D p
  exact ha.goS r e p fun φ1 S1 H1 x v f r1 e1 hv p1 => hg φ1 S1 H1 env σ x v r1 e1.e hv _ (PostG.of p1)
/-- x += e of ints -/
def xAug (i : Nat) (fa : Env → Sto → R D) (o : D → D → Sto → R D) : Env → Sto → RS := fun env S => (xVar i env S).bindS env fun x S1 => (fa env S1).bindS env fun y S2 => (o x y S2).bindS env fun z S3 => .nx (env.set i (some z)) S3
theorem imp_aug {i : Nat} {ta : TE} {fa : Env → Sto → R D} {op : Int → Int → Int} (ha : Imp K W (vr K) ta fa) : ImpS K W (tAug i ta (ipI op)) (xAug i fa (oI fun i j => .int (op i j))) := by
  intro φ S H env σ r e D p
  unfold xAug xVar at p
  cases hx : env[i]? with
  | none => simp only [hx] at p; exact p.elim
  | some o =>
    cases o with
    | none => simp only [hx] at p; exact p.elim
    | some d =>
      simp only [hx, R.bindS_ok] at p
      obtain ⟨v, hv, q⟩ := e.get hx
      refine ⟨v, hv, ha.goS r e p fun φ1 S1 H1 y w f1 r1 e1 hw p1 => ?_⟩
      unfold oI at p1
      split at p1
      · cases q
        cases hw
        exact ⟨_, _, rfl, rfl, p1 φ1 H1 _ Fut.refl r1 (e1.set i (VR.int _)).e⟩
      · exact p1.elim
/-! ### what is walked -/
structure Itx where
  items : List D
  ok : Sto → Prop
def itr (K : PySem.W.Frag) : Rl Itx It := fun φ n H it J => ∀ φ1 S1 H1, Fut K φ n H φ1 S1.length H1 → Rel K φ1 S1 H1 → it.ok S1 →
  (∀ i x, it.items[i]? = some x → J.go i H1 ∧ ∀ v H2, J.yld i H1 v H2 → Ex H1 H2 ∧ VR K φ1 S1.length H2 x v) ∧ J.stop it.items.length H1
/-- for x in l -/
def iL (fa : Env → Sto → R D) : Env → Sto → R Itx := fun env S => (fa env S).bind fun x S1 => match x with
  | .ref l => match rdL S1 l with
    | some xs => .ok ⟨xs, fun S => rdL S l = some xs⟩ S1
    | none => .bad
  | _ => .bad
theorem imp_iL {ta : TE} {fa : Env → Sto → R D} (ha : Imp K W (vr K) ta fa) : Imp K W (itr K) (iList K ta) (iL fa) :=
  imp_bind (tb := fun (v : V) _ H (Q : It → Hp → Prop) => ∃ a, v = .ref a ∧ (∃ xs, SqL K H a xs) ∧ Q (Itl K a) H) ha fun φ S H env σ x v rl e hv Q p => by
    split at p
    · split at p
      · rename_i l _ xs h
        obtain ⟨hl, rfl⟩ := hv.ref_inv
        obtain ⟨vs, q1, q2⟩ := rl.rd h
        refine ⟨_, rfl, ⟨vs, q1⟩, p.here rl fun φ1 S1 H1 f r1 ok => ?_⟩
        obtain ⟨ws, b1, b2⟩ := r1.rd ok
        rw [f.ag l hl] at b1
        refine ⟨fun i x hx => ?_, ws, b1, by rw [b2.len]; exact Nat.le_refl _⟩
        obtain ⟨w, hw, hr⟩ := b2.get hx
        refine ⟨⟨ws, w, b1, hw⟩, fun v H2 y => ?_⟩
        obtain ⟨rfl, y⟩ := y
        have := y ws b1
        rw [hw] at this
        cases this
        exact ⟨Ex.refl _, hr⟩
      · exact p.elim
    · exact p.elim
/-- for x in t, a tuple -/
def iT (fa : Env → Sto → R D) : Env → Sto → R Itx := fun env S => (fa env S).bind fun x S1 => match x with
  | .tup xs => .ok ⟨xs, fun _ => True⟩ S1
  | _ => .bad
theorem imp_iT {ta : TE} {fa : Env → Sto → R D} (ha : Imp K W (vr K) ta fa) : Imp K W (itr K) (iTup K ta) (iT fa) :=
  imp_bind (tb := fun (v : V) _ H (Q : It → Hp → Prop) => ∃ a, v = .ref a ∧ (∃ xs, SqT K H a xs) ∧ Q (Itt K a) H) ha fun φ S H env σ x v rl e hv Q p => by
    split at p
    · rename_i xs
      obtain ⟨a, vs, rfl, q1, q2⟩ := hv.tup_inv
      refine ⟨a, rfl, ⟨vs, q1⟩, p.here rl fun φ1 S1 H1 f r1 ok => ?_⟩
      have b1 := f.tp _ _ q1
      have b2 := VRs.fut f q2
      refine ⟨fun i x hx => ?_, vs, b1, by rw [b2.len]; exact Nat.le_refl _⟩
      obtain ⟨w, hw, hr⟩ := b2.get hx
      refine ⟨⟨vs, w, b1, hw⟩, fun v H2 y => ?_⟩
      obtain ⟨rfl, y⟩ := y
      have := y vs b1
      rw [hw] at this
      cases this
      exact ⟨Ex.refl _, hr⟩
    · exact p.elim
/-- the items of a range -/
def rngD (lo : Int) (k : Nat) : List D := (List.range k).map fun (i : Nat) => .int (lo + (i : Int))
@[simp] theorem rngD_len {lo : Int} {k : Nat} : (rngD lo k).length = k := by simp [rngD]
theorem rngD_get {lo : Int} {k i : Nat} {x : D} (h : (rngD lo k)[i]? = some x) : i < k ∧ x = .int (lo + (i : Int)) := by
  have hi := (List.getElem?_eq_some_iff.mp h).1
  rw [rngD_len] at hi
  rw [rngD, List.getElem?_map, List.getElem?_range hi] at h
  exact ⟨hi, (Option.some.inj h).symm⟩
def RngOk (i : Int) : Prop := -(2 ^ 62) ≤ i ∧ i < 2 ^ 62
theorem rngOk {i : Int} (h : -1000000000 ≤ i ∧ i ≤ 1000000000) : RngOk i := by unfold RngOk; omega
open Classical in
noncomputable def iR1 (fa : Env → Sto → R (List D)) : Env → Sto → R Itx := fun env S => (fa env S).bind fun ds S1 => match ds with
  | [.int j] => if RngOk j then .ok ⟨rngD 0 j.toNat, fun _ => True⟩ S1 else .bad
  | _ => .bad
open Classical in
noncomputable def iR2 (fa : Env → Sto → R (List D)) : Env → Sto → R Itx := fun env S => (fa env S).bind fun ds S1 => match ds with
  | [.int i, .int j] => if RngOk i ∧ RngOk j then .ok ⟨rngD i (j - i).toNat, fun _ => True⟩ S1 else .bad
  | _ => .bad
theorem itr_rng {lo : Int} {k : Nat} : itr K φ n H ⟨rngD lo k, fun _ => True⟩ (Itr lo k) := fun φ1 S1 H1 f r1 _ => ⟨fun i x hx => by
    obtain ⟨hi, rfl⟩ := rngD_get hx
    refine ⟨hi, fun v H2 y => ?_⟩
    obtain ⟨rfl, rfl⟩ := y
    exact ⟨Ex.refl _, VR.int _⟩, by
    show k ≤ (rngD lo k).length
    rw [rngD_len]
    exact Nat.le_refl _⟩
theorem imp_iR1 {ta : TA} {fa : Env → Sto → R (List D)} (ha : Imp K W (vrs K) ta fa) : Imp K W (itr K) (iRng1 ta) (iR1 fa) :=
  imp_bind (tb := fun (vs : List V) _ H (Q : It → Hp → Prop) => ∃ j : Int, vs = [.int j] ∧ -(2 ^ 62) ≤ j ∧ j < 2 ^ 62 ∧ Q (Itr 0 j.toNat) H) ha fun φ S H env σ x v rl e hv Q p => by
    split at p
    · rename_i j
      obtain ⟨w, rfl, hw⟩ := hv.one_inv
      cases hw
      split at p
      · rename_i hb
        exact ⟨j, rfl, hb.1, hb.2, p.here rl itr_rng⟩
      · exact p.elim
    · exact p.elim
theorem imp_iR2 {ta : TA} {fa : Env → Sto → R (List D)} (ha : Imp K W (vrs K) ta fa) : Imp K W (itr K) (iRng2 ta) (iR2 fa) :=
  imp_bind (tb := fun (vs : List V) _ H (Q : It → Hp → Prop) => ∃ i j : Int, vs = [.int i, .int j] ∧ (-(2 ^ 62) ≤ i ∧ i < 2 ^ 62 ∧ -(2 ^ 62) ≤ j ∧ j < 2 ^ 62) ∧ Q (Itr i (j - i).toNat) H) ha fun φ S H env σ x v rl e hv Q p => by
    split at p
    · rename_i i j
      obtain ⟨w, u, rfl, hw, hu⟩ := hv.two_inv
      cases hw; cases hu
      split at p
      · rename_i hb
        exact ⟨i, j, rfl, ⟨hb.1.1, hb.1.2, hb.2.1, hb.2.2⟩, p.here rl itr_rng⟩
      · exact p.elim
    · exact p.elim
/-- items with their places -/
def enumD : Nat → List D → List D
  | _, [] => []
  | k, x :: r => .tup [.int (k : Int), x] :: enumD (k + 1) r
theorem enumD_get : ∀ {xs : List D} {k i : Nat} {x : D}, (enumD k xs)[i]? = some x → ∃ y, xs[i]? = some y ∧ x = .tup [.int ((k + i : Nat) : Int), y]
  | [], _, _, _, h => by cases h
  | y :: r, k, 0, x, h => ⟨y, rfl, by cases h; rfl⟩
  | y :: r, k, i + 1, x, h => by
    obtain ⟨z, h1, h2⟩ := enumD_get (xs := r) (k := k + 1) (i := i) h
    exact ⟨z, h1, by rw [h2, show k + 1 + i = k + (i + 1) by omega]⟩
@[simp] theorem enumD_len : ∀ {xs : List D} {k : Nat}, (enumD k xs).length = xs.length
  | [], _ => rfl
  | _ :: r, k => congrArg Nat.succ (enumD_len (xs := r))
def iE (fa : Env → Sto → R (List D)) : Env → Sto → R Itx := fun env S => (fa env S).bind fun ds S1 => match ds with
  | [.ref l] => match rdL S1 l with
    | some xs => .ok ⟨enumD 0 xs, fun S => rdL S l = some xs⟩ S1
    | none => .bad
  | _ => .bad
theorem imp_iE {ta : TA} {fa : Env → Sto → R (List D)} (ha : Imp K W (vrs K) ta fa) : Imp K W (itr K) (iEnum K ta) (iE fa) :=
  imp_bind (tb := fun (vs : List V) _ H (Q : It → Hp → Prop) => ∃ a xs, vs = [.ref a] ∧ SqL K H a xs ∧ Q (Ite K a) H) ha fun φ S H env σ x v rl e hv Q p => by
    split at p
    · split at p
      · rename_i l _ xs h
        obtain ⟨z, rfl, hz⟩ := hv.one_inv
        obtain ⟨hl, rfl⟩ := hz.ref_inv
        obtain ⟨vs, q1, q2⟩ := rl.rd h
        refine ⟨_, vs, rfl, q1, p.here rl fun φ1 S1 H1 f r1 ok => ?_⟩
        obtain ⟨ws, b1, b2⟩ := r1.rd ok
        rw [f.ag l hl] at b1
        refine ⟨fun i x hx => ?_, ws, b1, by rw [b2.len, enumD_len]; exact Nat.le_refl _⟩
        obtain ⟨y, hy, rfl⟩ := enumD_get hx
        obtain ⟨w, hw, hr⟩ := b2.get hy
        refine ⟨⟨ws, w, b1, hw⟩, fun v H2 yy => ?_⟩
        obtain ⟨T, x', rfl, hT, rfl, f1⟩ := yy
        have := f1 ws b1
        rw [hw] at this
        cases this
        refine ⟨Ex.new hT, VR.tup (st_of upd_same) (.cons ?_ (.cons (VR.fut (Fut.ex (Ex.new hT)) hr) .nil))⟩
        rw [Nat.zero_add]
        exact VR.int _
      · exact p.elim
    · exact p.elim
/-- items by two -/
def zipD : List D → List D → List D
  | x :: r, y :: s => .tup [x, y] :: zipD r s
  | _, _ => []
theorem zipD_get : ∀ {xs ys : List D} {i : Nat} {z : D}, (zipD xs ys)[i]? = some z → ∃ x y, xs[i]? = some x ∧ ys[i]? = some y ∧ z = .tup [x, y]
  | x :: r, y :: s, 0, _, h => ⟨x, y, rfl, rfl, by cases h; rfl⟩
  | x :: r, y :: s, i + 1, _, h => zipD_get (xs := r) (ys := s) (i := i) h
  | [], _, _, _, h => by simp [zipD] at h
  | _ :: _, [], _, _, h => by simp [zipD] at h
theorem zipD_len : ∀ {xs ys : List D}, (zipD xs ys).length = min xs.length ys.length
  | x :: r, y :: s => by simp [zipD, zipD_len (xs := r) (ys := s)]
  | [], _ => by simp [zipD]
  | _ :: _, [] => by simp [zipD]
def iZ (fa : Env → Sto → R (List D)) : Env → Sto → R Itx := fun env S => (fa env S).bind fun ds S1 => match ds with
  | [.ref l, .ref m] => match rdL S1 l, rdL S1 m with
    | some xs, some ys => .ok ⟨zipD xs ys, fun S => rdL S l = some xs ∧ rdL S m = some ys⟩ S1
    | _, _ => .bad
  | _ => .bad
theorem imp_iZ {ta : TA} {fa : Env → Sto → R (List D)} (ha : Imp K W (vrs K) ta fa) : Imp K W (itr K) (iZip K ta) (iZ fa) :=
  imp_bind (tb := fun (vs : List V) _ H (Q : It → Hp → Prop) => ∃ a b xs ys, vs = [.ref a, .ref b] ∧ SqL K H a xs ∧ SqL K H b ys ∧ Q (Itz K a b) H) ha fun φ S H env σ x v rl e hv Q p => by
    split at p
    · split at p
      · rename_i l m _ _ xs ys h g
        obtain ⟨z1, z2, rfl, hz1, hz2⟩ := hv.two_inv
        obtain ⟨hl, rfl⟩ := hz1.ref_inv
        obtain ⟨hm, rfl⟩ := hz2.ref_inv
        obtain ⟨vs, q1, q2⟩ := rl.rd h
        obtain ⟨us, q3, q4⟩ := rl.rd g
        refine ⟨_, _, vs, us, rfl, q1, q3, p.here rl fun φ1 S1 H1 f r1 ok => ?_⟩
        obtain ⟨ws, b1, b2⟩ := r1.rd ok.1
        obtain ⟨ts, c1, c2⟩ := r1.rd ok.2
        rw [f.ag l hl] at b1
        rw [f.ag m hm] at c1
        refine ⟨fun i x hx => ?_, ws, ts, b1, c1, by rw [b2.len, c2.len, zipD_len]; omega⟩
        obtain ⟨y, z, hy, hz, rfl⟩ := zipD_get hx
        obtain ⟨w, hw, hr⟩ := b2.get hy
        obtain ⟨t, ht, hs⟩ := c2.get hz
        refine ⟨⟨ws, ts, w, t, b1, c1, hw, ht⟩, fun v H2 yy => ?_⟩
        obtain ⟨T, x', y', rfl, hT, rfl, f1, f2⟩ := yy
        have e1 := f1 ws b1
        have e2 := f2 ts c1
        rw [hw] at e1
        rw [ht] at e2
        cases e1; cases e2
        exact ⟨Ex.new hT, VR.tup (st_of upd_same) (.cons (VR.fut (Fut.ex (Ex.new hT)) hr) (.cons (VR.fut (Fut.ex (Ex.new hT)) hs) .nil))⟩
      · exact p.elim
    · exact p.elim
/-! ### for -/
open Classical in
noncomputable def loopX (ok : Sto → Prop) (fg : XG) (fb : Env → Sto → RS) : List D → Env → Sto → RS
  | [], env, S => if ok S then .nx env S else .bad
  | x :: r, env, S => if ok S then (match fg x env S with
      | .ok e1 S1 => match fb e1 S1 with
        | .nx e S' => loopX ok fg fb r e S'
        | .ct e S' => loopX ok fg fb r e S'
        | q => q
      | _ => .bad) else .bad
def finX : RS → RS
  | .bk e S => .nx e S
  | .ct _ _ => .bad
  | r => r
noncomputable def xFor (fi : Env → Sto → R Itx) (fg : XG) (fb : Env → Sto → RS) : Env → Sto → RS := fun env S => (fi env S).bindS env fun it S1 => finX (loopX it.ok fg fb it.items env S1)
noncomputable def xForE (fi : Env → Sto → R Itx) (fg : XG) (fb fe : Env → Sto → RS) : Env → Sto → RS := fun env S => (fi env S).bindS env fun it S1 => match loopX it.ok fg fb it.items env S1 with
  | .nx e S2 => fe e S2
  | r => finX r
theorem PostS.body {r : RS} {D : Ends} {N : L2.St → Hp → Prop} {g : RS → RS} (p : PostS K W φ n H (g r) D)
    (h1 : ∀ e S1, r = .nx e S1 ∨ r = .ct e S1 → ∀ φ' H' σ', Fut K φ n H φ' S1.length H' → Rel K φ' S1 H' → ER K φ' S1.length H' e σ' → N σ' H')
    (h2 : ∀ e S1, r = .bk e S1 → g r = .nx e S1) (h3 : ∀ d S1, r = .ret d S1 → g r = r) (h4 : ∀ c fs e S1, r = .exc c fs e S1 → g r = r) (h5 : r = .bad → g r = .bad) : PostS K W φ n H r { D with nx := N, ct := N, bk := D.nx } := by
  cases r with
  | nx e S1 => exact h1 e S1 (.inl rfl)
  | ct e S1 => exact h1 e S1 (.inr rfl)
  | bk e S1 => rw [h2 e S1 rfl] at p; exact p
  | ret d S1 => rw [h3 d S1 rfl] at p; exact p
  | exc c fs e S1 => rw [h4 c fs e S1 rfl] at p; exact p
  | bad => rw [h5 rfl] at p; exact p
/-- the turns of a for -/
theorem for_core {J : It} {it : Itx} {g : TG} {fg : XG} {ts : List Nat} {tb : TS} {fb : Env → Sto → RS} {u : TS} {D : Ends} {fin : RS → RS} (hg : ImpG K ts g fg) (hb : ImpS K W tb fb) (hJ : itr K φ n H it J) {env : Env} {σ : L2.St} (r : Rel K φ S H) (e : EW K W φ S.length H env σ) (hn : n = S.length)
    (p : PostS K W φ S.length H (fin (loopX it.ok fg fb it.items env S)) D)
    (fnx : ∀ φ' S' H' env' σ', Rel K φ' S' H' → EW K W φ' S'.length H' env' σ' → PostS K W φ' S'.length H' (fin (.nx env' S')) D → u D σ' H')
    (fbk : ∀ e S, fin (.bk e S) = .nx e S) (fret : ∀ d S, fin (.ret d S) = .ret d S) (fexc : ∀ c fs e S, fin (.exc c fs e S) = .exc c fs e S) (fbad : fin .bad = .bad) :
    ∃ Wv : Nat → Nat → L2.St → Hp → Prop, (∃ m, Wv 0 m σ H) ∧ ∀ i m σ H, Wv i m σ H →
      (J.stop i H ∧ u D σ H) ∨ (J.go i H ∧ ∃ N : L2.St → Hp → Prop, (∀ σ' H', N σ' H' → ∃ m', m' < m ∧ Wv (i + 1) m' σ' H') ∧ ∀ x H', J.yld i H x H' → g x σ H' fun σ2 H2 => tb { D with nx := N, ct := N, bk := D.nx } σ2 H2) := by
  subst hn
  refine ⟨fun i m σ' H' => m = it.items.length - i ∧ i ≤ it.items.length ∧ ∃ φ' S' env', Fut K φ S.length H φ' S'.length H' ∧ Rel K φ' S' H' ∧ EW K W φ' S'.length H' env' σ' ∧ PostS K W φ' S'.length H' (fin (loopX it.ok fg fb (it.items.drop i) env' S')) D,
    ⟨it.items.length, rfl, Nat.zero_le _, φ, S, env, Fut.refl, r, e, p⟩, ?_⟩
  rintro i m σ' H' ⟨rfl, hi, φ', S', env', f', r', e', p'⟩
  by_cases hlt : i < it.items.length
  · rw [List.drop_eq_getElem_cons hlt, loopX] at p'
    split at p'
    · rename_i hok
      obtain ⟨a1, _⟩ := hJ φ' S' H' f' r' hok
      obtain ⟨b1, b2⟩ := a1 i _ (List.getElem?_eq_getElem hlt)
      refine .inr ⟨b1, fun σ2 H2 => ∃ φ2 S2 env2, Fut K φ S.length H φ2 S2.length H2 ∧ Rel K φ2 S2 H2 ∧ EW K W φ2 S2.length H2 env2 σ2 ∧ PostS K W φ2 S2.length H2 (fin (loopX it.ok fg fb (it.items.drop (i + 1)) env2 S2)) D,
        fun σ2 H2 q => ⟨it.items.length - (i + 1), by omega, rfl, hlt, q⟩, fun v H2 y => ?_⟩
      obtain ⟨ex, hv⟩ := b2 v H2 y
      have fx : Fut K φ' S'.length H' φ' S'.length H2 := Fut.ex ex
      refine hg φ' S' H2 env' σ' _ v (r'.ex ex) (e'.fut fx).e hv _ ?_
      cases hgx : fg it.items[i] env' S' with
      | ok e1 S1 =>
        simp only [hgx] at p'
        intro φ2 H3 σ2 f2 r2 e2 _
        refine hb φ2 S1 H3 e1 σ2 r2 ⟨e2, W.mono (fx.trans f2) e'.c⟩ _ ?_
        have p2 := p'.fut (fx.trans f2)
        refine PostS.body (g := fun q => fin (match q with
          | .nx e S' => loopX it.ok fg fb (it.items.drop (i + 1)) e S'
          | .ct e S' => loopX it.ok fg fb (it.items.drop (i + 1)) e S'
          | q => q)) p2 ?_ ?_ ?_ ?_ ?_
        · intro e3 S3 hr φ3 H4 σ3 f3 r3 e3'
          refine ⟨φ3, S3, e3, ((f'.trans fx).trans f2).trans f3, r3, ⟨e3', W.mono ((fx.trans f2).trans f3) e'.c⟩, ?_⟩
          rcases hr with hr | hr <;> (rw [hr] at p2; exact p2.fut f3)
        · intro e3 S3 hr
          simp only [hr, fbk]
        · intro d S3 hr
          simp only [hr, fret]
        · intro c fs e3 S3 hr
          simp only [hr, fexc]
        · intro hr
          simp only [hr, fbad]
      | exc c fs S1 => simp only [hgx, fbad] at p'; exact p'.elim
      | bad => simp only [hgx, fbad] at p'; exact p'.elim
    · rw [fbad] at p'
      exact p'.elim
  · have hd : it.items.drop i = [] := List.drop_eq_nil_of_le (by omega)
    rw [hd, loopX] at p'
    split at p'
    · rename_i hok
      obtain ⟨_, a2⟩ := hJ φ' S' H' f' r' hok
      have : i = it.items.length := by omega
      subst this
      exact .inl ⟨a2, fnx φ' S' H' env' σ' r' e' p'⟩
    · rw [fbad] at p'
      exact p'.elim
theorem imp_for {wi : TI} {fi : Env → Sto → R Itx} {g : TG} {fg : XG} {ts : List Nat} {tb : TS} {fb : Env → Sto → RS} (hi : Imp K W (itr K) wi fi) (hg : ImpG K ts g fg) (hb : ImpS K W tb fb) : ImpS K W (tFor wi g tb) (xFor fi fg fb) := by
  intro φ S H env σ r e D p
  refine hi.goS r e p fun φ1 S1 H1 it J f1 r1 e1 hJ p1 => ?_
  exact for_core (u := tNext) (fin := finX) hg hb hJ r1 e1 rfl p1 (fun φ' S' H' env' σ' r' e' q => q φ' H' σ' Fut.refl r' e'.e) (fun _ _ => rfl) (fun _ _ => rfl) (fun _ _ _ _ => rfl) rfl
theorem imp_forE {wi : TI} {fi : Env → Sto → R Itx} {g : TG} {fg : XG} {ts : List Nat} {tb u : TS} {fb fu : Env → Sto → RS} (hi : Imp K W (itr K) wi fi) (hg : ImpG K ts g fg) (hb : ImpS K W tb fb) (hu : ImpS K W u fu) : ImpS K W (tForE wi g tb u) (xForE fi fg fb fu) := by
  intro φ S H env σ r e D p
  refine hi.goS r e p fun φ1 S1 H1 it J f1 r1 e1 hJ p1 => ?_
  exact for_core (u := u) (fin := fun r => match r with
    | .nx e S2 => fu e S2
    | r => finX r) hg hb hJ r1 e1 rfl p1 (fun φ' S' H' env' σ' r' e' q => hu φ' S' H' env' σ' r' e' D q) (fun _ _ => rfl) (fun _ _ => rfl) (fun _ _ _ _ => rfl) rfl
end
end Mi

namespace Mi
open PySem PySem.Spec PyProof.Rows L2 Evl My
section
variable {K : PySem.W.Frag} {φ φ1 φ' : Nat → Addr} {n n1 n' : Nat} {H H1 H' : Hp} {X : XK} {W W1 W2 : Wc K} {S : Sto} {α β γ δ : Type} {ρ : Rl α β}
/-! ### while -/
def whileX (ft : Env → Sto → R Bool) (fb : Env → Sto → RS) : Nat → Env → Sto → RS
  | 0, _, _ => .bad
  | k + 1, env, S => (ft env S).bindS env fun b S1 => if b = true then (match fb env S1 with
      | .nx e S2 => whileX ft fb k e S2
      | .ct e S2 => whileX ft fb k e S2
      | r => r) else .nx env S1
open Classical in
noncomputable def xWhile (ft : Env → Sto → R Bool) (fb : Env → Sto → RS) : Env → Sto → RS := fun env S => if h : ∃ k, whileX ft fb k env S ≠ .bad then finX (whileX ft fb h.choose env S) else .bad
theorem whileX_more {ft : Env → Sto → R Bool} {fb : Env → Sto → RS} : ∀ {k : Nat} {env : Env} {S : Sto}, whileX ft fb k env S ≠ .bad → whileX ft fb (k + 1) env S = whileX ft fb k env S
  | 0, _, _, h => absurd rfl h
  | k + 1, env, S, h => by
    rw [whileX]
    conv => rhs; rw [whileX]
    rw [whileX] at h
    cases ht : ft env S with
    | ok b S1 =>
      rw [ht] at h
      simp only [R.bindS_ok] at h ⊢
      cases b with
      | false => rfl
      | true =>
        simp only [if_true] at h ⊢
        cases hb : fb env S1 with
        | nx e S2 =>
          simp only [hb] at h ⊢
          exact whileX_more h
        | ct e S2 =>
          simp only [hb] at h ⊢
          exact whileX_more h
        | _ => rfl
    | _ => rfl
theorem whileX_le {ft : Env → Sto → R Bool} {fb : Env → Sto → RS} {k j : Nat} {env : Env} {S : Sto} (h : whileX ft fb k env S ≠ .bad) (l : k ≤ j) : whileX ft fb j env S = whileX ft fb k env S := by
  induction l with
  | refl => rfl
  | step _ ih => rw [whileX_more (by rw [ih]; exact h), ih]
theorem xWhile_eq {ft : Env → Sto → R Bool} {fb : Env → Sto → RS} {k : Nat} {env : Env} {S : Sto} {r : RS} (h : whileX ft fb k env S = r) (hr : r ≠ .bad) : xWhile ft fb env S = finX r := by
  have hk : whileX ft fb k env S ≠ .bad := by rw [h]; exact hr
  have he : ∃ k, whileX ft fb k env S ≠ .bad := ⟨k, hk⟩
  unfold xWhile
  rw [dif_pos he]
  have hc := he.choose_spec
  rcases Nat.le_total k he.choose with l | l
  · rw [whileX_le hk l, h]
  · rw [← whileX_le hc l, h]
theorem imp_while {tt : TT} {tb : TS} {ft : Env → Sto → R Bool} {fb : Env → Sto → RS} (ht : Imp K W same tt ft) (hb : ImpS K W tb fb) : ImpS K W (tWhile tt tb) (xWhile ft fb) := by
  intro φ S H env σ r e D p
  unfold xWhile at p
  split at p
  · rename_i he
    refine ⟨fun m σ' H' => ∃ φ' S' env', Rel K φ' S' H' ∧ EW K W φ' S'.length H' env' σ' ∧ PostS K W φ' S'.length H' (finX (whileX ft fb m env' S')) D, ⟨_, φ, S, env, r, e, p⟩, ?_⟩
    rintro m σ' H' ⟨φ', S', env', r', e', p'⟩
    cases m with
    | zero => exact p'.elim
    | succ m =>
      rw [whileX] at p'
      refine ht φ' S' H' env' σ' r' e' _ ?_
      cases hf : ft env' S' with
      | ok b S1 =>
        rw [hf] at p'
        simp only [R.bindS_ok] at p'
        intro φ2 H2 v f2 r2 hv
        obtain rfl : b = v := hv
        have p2 := p'.fut f2
        cases b with
        | false => exact p2 φ2 H2 σ' Fut.refl r2 (e'.fut f2).e
        | true =>
          refine ⟨fun σ3 H3 => ∃ φ' S' env', Rel K φ' S' H3 ∧ EW K W φ' S'.length H3 env' σ3 ∧ PostS K W φ' S'.length H3 (finX (whileX ft fb m env' S')) D, fun σ3 H3 q => ⟨m, Nat.lt_succ_self _, q⟩, hb φ2 S1 H2 env' σ' r2 (e'.fut f2) _ ?_⟩
          simp only [if_true] at p2
          refine PostS.body (g := fun q => finX (match q with
            | .nx e S2 => whileX ft fb m e S2
            | .ct e S2 => whileX ft fb m e S2
            | r => r)) p2 ?_ ?_ ?_ ?_ ?_
          · intro e3 S3 hr φ3 H4 σ3 f3 r3 e3'
            refine ⟨φ3, S3, e3, r3, ⟨e3', W.mono (f2.trans f3) e'.c⟩, ?_⟩
            rcases hr with hr | hr <;> (rw [hr] at p2; exact p2.fut f3)
          · intro e3 S3 hr
            simp only [hr]
            rfl
          · intro d S3 hr
            simp only [hr]
            rfl
          · intro c fs e3 S3 hr
            simp only [hr]
            rfl
          · intro hr
            simp only [hr]
            rfl
      | exc c fs S1 =>
        rw [hf] at p'
        exact fun φ2 H2 dd fv f2 r2 hd hk => p' φ2 H2 σ' dd fv f2 r2 (e'.fut f2).e hd hk
      | bad => rw [hf] at p'; exact p'
  · exact p.elim
/-! ### comprehensions -/
def nox {α : Type} (r : R α) : R α := match r with
  | .ok d S => .ok d S
  | _ => .bad
@[simp] theorem nox_ok {α : Type} {d : α} {S : Sto} : nox (.ok d S) = .ok d S := rfl
@[simp] theorem nox_bad {α : Type} : nox (R.bad : R α) = .bad := rfl
theorem nox_inv {ρ : Rl α β} {r : R α} {Q : β → Hp → Prop} (p : Post K ρ φ n H X (nox r) Q) : ∃ d S1, r = .ok d S1 ∧ Post K ρ φ n H X (.ok d S1) Q := by
  cases r with
  | ok d S1 => exact ⟨d, S1, rfl, p⟩
  | exc c fs S1 => exact p.elim
  | bad => exact p.elim
open Classical in
/-- the turns of a comprehension: the new list lies at l -/
noncomputable def compX (ok : Sto → Prop) (fg : XG) (ft : Env → Sto → R Bool) (fe : Env → Sto → R D) (env0 : Env) (l : Nat) : List D → Sto → R D
  | [], S => if ok S then .ok (.ref l) S else .bad
  | x :: r, S => if ok S then (match fg x env0 S with
      | .ok e1 S1 => match ft e1 S1 with
        | .ok true S2 => match fe e1 S2 with
          | .ok y S3 => match at_ S3 l with
            | some (.lst acc) => if acc.length < 100000 then compX ok fg ft fe env0 l r (S3.set l (.lst (acc ++ [y]))) else .bad
            | _ => .bad
          | _ => .bad
        | .ok false S2 => compX ok fg ft fe env0 l r S2
        | _ => .bad
      | _ => .bad) else .bad
noncomputable def xLc (fi : Env → Sto → R Itx) (fg : XG) (ft : Env → Sto → R Bool) (fe : Env → Sto → R D) (vs : List Nat) : Env → Sto → R D := fun env S => (fi env S).bind fun it S1 => compX it.ok fg ft fe (wipeE env vs) S1.length it.items (S1 ++ [.lst []])
theorem wipe_get {σ : L2.St} {i : Nat} : ∀ {vs : List Nat}, i ∈ vs → i < σ.length → (wipe σ vs)[i]? = some none
  | [], h, _ => by cases h
  | v :: vs, h, hl => by
    unfold wipe
    by_cases hv : v = i
    · subst hv
      rw [List.getElem?_set_self (by rw [wipe_length]; exact hl)]
    · rw [List.getElem?_set_ne hv]
      rcases List.mem_cons.mp h with h | h
      · exact absurd h.symm hv
      · exact wipe_get h hl
theorem wipe_sets {σ σ2 : L2.St} {ts vs : List Nat} (h : Sets ts (wipe σ vs) σ2) (hs : ∀ i ∈ ts, i ∈ vs) : wipe σ2 vs = wipe σ vs := by
  obtain ⟨hl, hg⟩ := h
  rw [wipe_length] at hl
  refine List.ext_getElem? fun i => ?_
  by_cases hi : i ∈ vs
  · by_cases hlt : i < σ.length
    · rw [wipe_get hi (by omega), wipe_get hi hlt]
    · rw [List.getElem?_eq_none (by rw [wipe_length]; omega), List.getElem?_eq_none (by rw [wipe_length]; omega)]
  · rw [wipe_out hi]
    exact hg i fun z => hi (hs i z)
theorem imp_lc {wi : TI} {fi : Env → Sto → R Itx} {g : TG} {fg : XG} {ts : List Nat} {tt : TT} {ft : Env → Sto → R Bool} {te : TE} {fe : Env → Sto → R D} {vs : List Nat} (hi : Imp K W (itr K) wi fi) (hg : ImpG K ts g fg) (ht : Imp K (W0 K) same tt ft) (he : Imp K (W0 K) (vr K) te fe) (hs : ∀ i ∈ ts, i ∈ vs) :
    Imp K W (vr K) (tLc wi g tt te vs) (xLc fi fg ft fe vs) :=
  imp_bind (tb := fun (J : It) σ H1 (Q : VK) => ∀ D, H1 D = none → ∃ W : Nat → Nat → Hp → Prop, (∃ m, W 0 m (upd H1 D (.lst []))) ∧ ∀ i m H, W i m H →
  (J.stop i H ∧ Q (.ref D) H) ∨ (J.go i H ∧ ∃ Nx : Hp → Prop, (∀ H', Nx H' → ∃ m', m' < m ∧ W (i + 1) m' H') ∧ ∀ x H', J.yld i H x H' → g x (wipe σ vs) H' fun σ2 H2 => wipe σ2 vs = wipe σ vs ∧ tt σ2 H2 fun b H3 =>
    if b = true then te σ2 H3 fun y H4 => ∃ acc, H4 D = some (.lst acc) ∧ acc.length < sizeLine ∧ Nx (upd H4 D (.lst (acc ++ [y]))) else Nx H3)) hi fun φ S H env σ it J rl e hJ Q p Dl hD => by
    have hn : OR K (nxt φ S.length Dl) (S.length + 1) (upd H Dl (.lst [])) Dl (.lst []) := ⟨[], upd_same, .nil⟩
    have f0 : Fut K φ S.length H (nxt φ S.length Dl) (S ++ [O.lst []]).length (upd H Dl (.lst [])) := by
      rw [List.length_append]
      exact Fut.new hD
    have r0 := rl.new hD hn
    have e0 := ((e.wipe vs)).fut f0
    have p0 := p.fut f0
    refine ⟨fun i m H' => m = it.items.length - i ∧ i ≤ it.items.length ∧ ∃ φ' S', Fut K (nxt φ S.length Dl) (S ++ [O.lst []]).length (upd H Dl (.lst [])) φ' S'.length H' ∧ Rel K φ' S' H' ∧ Post K (vr K) φ' S'.length H' (fun c d h => W c d σ h) (compX it.ok fg ft fe (wipeE env vs) S.length (it.items.drop i) S') Q,
      ⟨it.items.length, rfl, Nat.zero_le _, _, _, Fut.refl, r0, p0⟩, ?_⟩
    rintro i m H' ⟨rfl, hle, φ', S', f', r', p'⟩
    have hφ : φ' S.length = Dl := by
      rw [f'.ag _ (by simp)]
      exact nxt_at
    by_cases hlt : i < it.items.length
    · rw [List.drop_eq_getElem_cons hlt, compX] at p'
      split at p'
      · rename_i hok
        obtain ⟨a1, _⟩ := hJ φ' S' H' (f0.trans f') r' hok
        obtain ⟨b1, b2⟩ := a1 i _ (List.getElem?_eq_getElem hlt)
        refine .inr ⟨b1, fun H2 => ∃ φ2 S2, Fut K (nxt φ S.length Dl) (S ++ [O.lst []]).length (upd H Dl (.lst [])) φ2 S2.length H2 ∧ Rel K φ2 S2 H2 ∧ Post K (vr K) φ2 S2.length H2 (fun c d h => W c d σ h) (compX it.ok fg ft fe (wipeE env vs) S.length (it.items.drop (i + 1)) S2) Q,
          fun H2 q => ⟨it.items.length - (i + 1), by omega, rfl, hlt, q⟩, fun v H2 y => ?_⟩
        obtain ⟨ex, hv⟩ := b2 v H2 y
        have fx : Fut K φ' S'.length H' φ' S'.length H2 := Fut.ex ex
        refine hg φ' S' H2 (wipeE env vs) (wipe σ vs) _ v (r'.ex ex) (e0.fut (f'.trans fx)).e hv _ ?_
        cases hgx : fg it.items[i] (wipeE env vs) S' with
        | ok e1 S1 =>
          simp only [hgx] at p'
          intro φ2 H3 σ2 f2 r2 e2 s2
          refine ⟨wipe_sets s2 hs, ht φ2 S1 H3 e1 σ2 r2 ⟨e2, trivial⟩ _ ?_⟩
          cases htx : ft e1 S1 with
          | ok b S2 =>
            simp only [htx] at p'
            intro φ3 H4 b' f3 r3 hb
            obtain rfl : b = b' := hb
            have f4 := ((f'.trans fx).trans f2).trans f3
            cases b with
            | false => exact ⟨φ3, S2, f4, r3, p'.fut ((fx.trans f2).trans f3)⟩
            | true =>
              refine he φ3 S2 H4 e1 σ2 r3 ⟨e2.fut f3, trivial⟩ _ ?_
              simp only at p'
              cases hex : fe e1 S2 with
              | ok y S3 =>
                simp only [hex] at p'
                intro φ4 H5 v f5 r5 hv5
                have f6 := f4.trans f5
                split at p'
                · rename_i acc hacc
                  split at p'
                  · rename_i hal
                    obtain ⟨us, u1, u2⟩ := r5.ob _ _ hacc
                    have hφ4 : φ4 S.length = Dl := by
                      rw [f6.ag _ (by simp)]
                      exact nxt_at
                    have fw : Fut K φ4 S3.length H5 φ4 S3.length (upd H5 (φ4 S.length) (.lst (us ++ [v]))) := Fut.upd u1 trivial
                    obtain ⟨q1, q2⟩ := r5.put (o' := .lst (acc ++ [y])) (u := .lst (us ++ [v])) hacc rfl rfl ⟨_, upd_same, (u2.app (.one hv5)).fut fw⟩
                    rw [hφ4] at u1 q1 q2
                    exact ⟨us, u1, sz_lt (by rw [u2.len]; exact hal), φ4, _, f6.trans q2, q1, p'.fut ((((fx.trans f2).trans f3).trans f5).trans q2)⟩
                  · exact p'.elim
                · exact p'.elim
              | exc c fs S3 => simp only [hex] at p'; exact p'.elim
              | bad => simp only [hex] at p'; exact p'.elim
          | exc c fs S2 => simp only [htx] at p'; exact p'.elim
          | bad => simp only [htx] at p'; exact p'.elim
        | exc c fs S1 => simp only [hgx] at p'; exact p'.elim
        | bad => simp only [hgx] at p'; exact p'.elim
      · exact p'.elim
    · have hd : it.items.drop i = [] := List.drop_eq_nil_of_le (by omega)
      rw [hd, compX] at p'
      split at p'
      · rename_i hok
        obtain ⟨_, a2⟩ := hJ φ' S' H' (f0.trans f') r' hok
        have : i = it.items.length := by omega
        subst this
        refine .inl ⟨a2, ?_⟩
        have q := p' φ' H' (.ref (φ' S.length)) Fut.refl r' (VR.ref (Nat.lt_of_lt_of_le (by simp) f'.le))
        rw [hφ] at q
        exact q
      · exact p'.elim
/-! ### list methods -/
def MtI (K : PySem.W.Frag) (r : V → List V → Hp → VK → Prop) (o : D → List D → Sto → R D) : Prop := ∀ φ S H x v ds vs X, Rel K φ S H → VR K φ S.length H x v → VRs K φ S.length H ds vs → ∀ Q, Post K (vr K) φ S.length H X (o x ds S) Q → r v vs H Q
def isLst (S : Sto) : D → Bool
  | .ref l => (rdL S l).isSome
  | _ => false
def xBM (o : D → List D → Sto → R D) (fo : Env → Sto → R D) (fa : Env → Sto → R (List D)) : Env → Sto → R D := fun env S => (fo env S).bind fun x S1 => if isLst S1 x = true then (fa env S1).bind fun ds S2 => o x ds S2 else .bad
theorem isLst_ty {x : D} {v : V} (r : Rel K φ S H) (h : isLst S x = true) (hv : VR K φ S.length H x v) : tyV K "list" v H := by
  cases x with
  | ref l =>
    obtain ⟨xs, hx⟩ := Option.isSome_iff_exists.mp h
    obtain ⟨_, rfl⟩ := hv.ref_inv
    obtain ⟨vs, q, _⟩ := r.rd hx
    exact .inl ⟨rfl, vs, q⟩
  | _ => cases h
theorem imp_bm {r : V → List V → Hp → VK → Prop} {o : D → List D → Sto → R D} {to : TE} {ta : TA} {fo : Env → Sto → R D} {fa : Env → Sto → R (List D)} (hr : MtI K r o) (ho : Imp K W (vr K) to fo) (ha : Imp K W (vrs K) ta fa) : Imp K W (vr K) (tBM K "list" r to ta) (xBM o fo fa) :=
  imp_bind (tb := fun (v : V) σ H (Q : VK) => tyV K "list" v H ∧ ta σ H fun xs H2 => r v xs H2 Q) ho fun φ S H env σ x v rl e hv Q p => by
    split at p
    · rename_i hl
      exact ⟨isLst_ty rl hl hv, ha.go rl e p fun φ1 S1 H1 ds vs f r1 _ hvs p1 => hr φ1 S1 H1 x v ds vs _ r1 (VR.fut f hv) hvs Q p1⟩
    · exact p.elim
theorem imp_bm0 {r : V → List V → Hp → VK → Prop} {o : D → List D → Sto → R D} {to : TE} {fo : Env → Sto → R D} (hr : MtI K r o) (ho : Imp K W (vr K) to fo) : Imp K W (vr K) (tBM0 K "list" r to) (xBM o fo xNil) :=
  imp_bind (tb := fun (v : V) σ H (Q : VK) => tyV K "list" v H ∧ r v [] H Q) ho fun φ S H env σ x v rl e hv Q p => by
    split at p
    · rename_i hl
      exact ⟨isLst_ty rl hl hv, hr φ S H x v [] [] _ rl hv .nil Q p⟩
    · exact p.elim
/-- a method that changes its list -/
def mL (g : List D → List D → Option (D × List D)) : D → List D → Sto → R D := fun x ds S => match x with
  | .ref l => match at_ S l with
    | some (.lst xs) => match g xs ds with
      | some (d, ys) => .ok d (S.set l (.lst ys))
      | none => .bad
    | _ => .bad
  | _ => .bad
theorem mL_eq {g : List D → List D → Option (D × List D)} {l : Nat} {xs ys ds : List D} {d : D} (h : at_ S l = some (.lst xs)) (e : g xs ds = some (d, ys)) : mL g (.ref l) ds S = .ok d (S.set l (.lst ys)) := by simp [mL, h, e]
theorem mL_inv {g : List D → List D → Option (D × List D)} {x : D} {v : V} {ds : List D} {Q : VK} (r : Rel K φ S H) (hv : VR K φ S.length H x v) (p : Post K (vr K) φ S.length H X (mL g x ds S) Q) :
    ∃ l xs ws d ys, v = .ref (φ l) ∧ at_ S l = some (.lst xs) ∧ H (φ l) = some (.lst ws) ∧ VRs K φ S.length H xs ws ∧ g xs ds = some (d, ys) ∧ ∀ w us, VR K φ S.length H d w → VRs K φ S.length H ys us → Q w (upd H (φ l) (.lst us)) := by
  unfold mL at p
  split at p
  · split at p
    · rename_i l _ xs hl
      split at p
      · rename_i d ys hg
        obtain ⟨_, rfl⟩ := hv.ref_inv
        obtain ⟨ws, q1, q2⟩ := r.ob _ _ hl
        refine ⟨l, xs, ws, d, ys, rfl, hl, q1, q2, hg, fun w us hw hu => ?_⟩
        have fw : Fut K φ S.length H φ S.length (upd H (φ l) (.lst us)) := Fut.upd q1 trivial
        exact p.put r hl rfl rfl ⟨us, upd_same, hu.fut fw⟩ (VR.fut fw hw)
      · exact p.elim
    · exact p.elim
  · exact p.elim
def gAppend : List D → List D → Option (D × List D) := fun xs ds => match ds with
  | [y] => if xs.length < 100000 then some (.non, xs ++ [y]) else none
  | _ => none
theorem gAppend_eq {xs : List D} {y : D} (h : xs.length < 100000) : gAppend xs [y] = some (.non, xs ++ [y]) := by simp [gAppend, h]
theorem mti_append : MtI K rAppend (mL gAppend) := by
  intro φ S H x v ds vs X r hx hd Q p
  obtain ⟨l, xs, ws, d, ys, rfl, hl, q1, q2, hg, q⟩ := mL_inv r hx p
  unfold gAppend at hg
  split at hg
  · split at hg
    · rename_i hz
      cases hg
      obtain ⟨u, rfl, hu⟩ := hd.one_inv
      exact ⟨_, ws, u, rfl, rfl, q1, sz_lt (by rw [q2.len]; exact hz), q _ _ VR.non (q2.app (.one hu))⟩
    · cases hg
  · cases hg
def gClear : List D → List D → Option (D × List D) := fun _ ds => match ds with
  | [] => some (.non, [])
  | _ => none
@[simp] theorem gClear_eq {xs : List D} : gClear xs [] = some (.non, []) := rfl
theorem mti_clear : MtI K rClear (mL gClear) := by
  intro φ S H x v ds vs X r hx hd Q p
  obtain ⟨l, xs, ws, d, ys, rfl, hl, q1, q2, hg, q⟩ := mL_inv r hx p
  unfold gClear at hg
  split at hg
  · cases hg
    cases hd
    exact ⟨_, ws, rfl, rfl, q1, q _ _ VR.non .nil⟩
  · cases hg
def gReverse : List D → List D → Option (D × List D) := fun xs ds => match ds with
  | [] => some (.non, xs.reverse)
  | _ => none
@[simp] theorem gReverse_eq {xs : List D} : gReverse xs [] = some (.non, xs.reverse) := rfl
theorem mti_reverse : MtI K rReverse (mL gReverse) := by
  intro φ S H x v ds vs X r hx hd Q p
  obtain ⟨l, xs, ws, d, ys, rfl, hl, q1, q2, hg, q⟩ := mL_inv r hx p
  unfold gReverse at hg
  split at hg
  · cases hg
    cases hd
    exact ⟨_, ws, rfl, rfl, q1, q _ _ VR.non q2.reverse⟩
  · cases hg
def gPop : List D → List D → Option (D × List D) := fun xs ds => match ds with
  | [] => (xs[xs.length - 1]?).map fun y => (y, xs.dropLast)
  | _ => none
theorem gPop_eq {xs : List D} {y : D} (h : xs[xs.length - 1]? = some y) : gPop xs [] = some (y, xs.dropLast) := by simp [gPop, h]
theorem mti_pop : MtI K rPop (mL gPop) := by
  intro φ S H x v ds vs X r hx hd Q p
  obtain ⟨l, xs, ws, d, ys, rfl, hl, q1, q2, hg, q⟩ := mL_inv r hx p
  unfold gPop at hg
  split at hg
  · obtain ⟨y, h1, h2⟩ := Option.map_eq_some_iff.mp hg
    cases h2
    cases hd
    obtain ⟨u, g1, g2⟩ := q2.get h1
    exact ⟨_, ws, u, rfl, rfl, q1, by rw [q2.len]; exact g1, q _ _ g2 q2.dropLast⟩
  · cases hg
def PopOk (i : Int) : Prop := -(2 ^ 63) ≤ i ∧ i < 2 ^ 63
open Classical in
noncomputable def gPopAt : List D → List D → Option (D × List D) := fun xs ds => match ds with
  | [.int i] => if PopOk i then (seqIndex? i xs.length).bind fun k => (xs[k]?).map fun y => (y, xs.eraseIdx k) else none
  | _ => none
open Classical in
theorem gPopAt_eq {xs : List D} {i : Int} {k : Nat} {y : D} (h1 : PopOk i) (h2 : seqIndex? i xs.length = some k) (h3 : xs[k]? = some y) : gPopAt xs [.int i] = some (y, xs.eraseIdx k) := by
  show (if _ then _ else _) = _
  rw [if_pos h1, h2]
  simp [h3]
open Classical in
theorem mti_popAt : MtI K rPopAt (mL gPopAt) := by
  intro φ S H x v ds vs X r hx hd Q p
  obtain ⟨l, xs, ws, d, ys, rfl, hl, q1, q2, hg, q⟩ := mL_inv r hx p
  unfold gPopAt at hg
  split at hg
  · split at hg
    · rename_i hb
      obtain ⟨k, h1, h2⟩ := Option.bind_eq_some_iff.mp hg
      obtain ⟨y, h3, h4⟩ := Option.map_eq_some_iff.mp h2
      cases h4
      obtain ⟨w, rfl, hw⟩ := hd.one_inv
      cases hw
      obtain ⟨u, g1, g2⟩ := q2.get h3
      exact ⟨_, ws, _, k, u, rfl, rfl, q1, hb.1, hb.2, by rw [q2.len]; exact h1, g1, q _ _ g2 (q2.eraseIdx k)⟩
    · cases hg
  · cases hg
/-- extend by another list -/
def mExtend : D → List D → Sto → R D := fun x ds S => match x, ds with
  | .ref l, [.ref b] => match at_ S l, at_ S b with
    | some (.lst xs), some (.lst zs) => if xs.length + zs.length ≤ 100000 then .ok .non (S.set l (.lst (xs ++ zs))) else .bad
    | _, _ => .bad
  | _, _ => .bad
theorem mExtend_eq {l b : Nat} {xs zs : List D} (h : at_ S l = some (.lst xs)) (g : at_ S b = some (.lst zs)) (hl : xs.length + zs.length ≤ 100000) : mExtend (.ref l) [.ref b] S = .ok .non (S.set l (.lst (xs ++ zs))) := by simp [mExtend, h, g, hl]
theorem mti_extend : MtI K rExtend mExtend := by
  intro φ S H x v ds vs X r hx hd Q p
  unfold mExtend at p
  split at p
  · split at p
    · rename_i l b _ _ xs zs h1 h2
      split at p
      · rename_i hz
        obtain ⟨_, rfl⟩ := hx.ref_inv
        obtain ⟨w, rfl, hw⟩ := hd.one_inv
        obtain ⟨_, rfl⟩ := hw.ref_inv
        obtain ⟨ws, a1, a2⟩ := r.ob _ _ h1
        obtain ⟨us, b1, b2⟩ := r.ob _ _ h2
        have fw : Fut K φ S.length H φ S.length (upd H (φ l) (.lst (ws ++ us))) := Fut.upd a1 trivial
        exact ⟨_, _, ws, us, rfl, rfl, a1, b1, sz_of (by rw [a2.len, b2.len]; exact hz), p.put r h1 rfl rfl ⟨_, upd_same, (a2.app b2).fut fw⟩ VR.non⟩
      · exact p.elim
    · exact p.elim
  · exact p.elim
/-! ### calls of defs -/
/-- a def that does what f says -/
def spF (K : PySem.W.Frag) (f : List D → Sto → R D) : Sp := fun vs H Q E => ∃ φ S ds, Rel K φ S H ∧ VRs K φ S.length H ds vs ∧ Post K (vr K) φ S.length H E (f ds S) Q
theorem Post.anyX {X' : XK} {ρ : Rl α β} {d : α} {S1 : Sto} {Q : β → Hp → Prop} (p : Post K ρ φ n H X (.ok d S1) Q) : Post K ρ φ n H X' (.ok d S1) Q := p
def xCall (f : List D → Sto → R D) (fa : Env → Sto → R (List D)) : Env → Sto → R D := fun env S => (fa env S).bind fun ds S1 => nox (f ds S1)
theorem imp_call {f : List D → Sto → R D} {ta : TA} {fa : Env → Sto → R (List D)} {E : XK} (ha : Imp K W (vrs K) ta fa) : Imp K W (vr K) (tCall (spF K f) [] E ta) (xCall f fa) :=
  imp_bind (tb := fun (vs : List V) _ H (Q : VK) => spF K f (vs ++ []) H Q E) ha fun φ S H env σ x v rl e hv Q p => by
    rw [List.append_nil]
    obtain ⟨d, S1, hf, p⟩ := nox_inv p
    exact ⟨φ, S, x, rl, hv, by rw [hf]; exact p⟩
/-- a call that an error may leave -/
def xCallX (f : List D → Sto → R D) (fa : Env → Sto → R (List D)) : Env → Sto → R D := fun env S => (fa env S).bind fun ds S1 => f ds S1
theorem imp_callX {f : List D → Sto → R D} {ta : TA} {fa : Env → Sto → R (List D)} (ha : Imp K W (vrs K) ta fa) : Imp K W (vr K) (tCallS (spF K f) (WE W.wx) ta) (xCallX f fa) :=
  imp_bind (tb := fun (vs : List V) σ H (Q : VK) => spF K f vs H Q (WE W.wx σ)) ha fun φ S H env σ x v rl e hv Q p => ⟨φ, S, x, rl, hv, p⟩
/-- a def's body as a function of its arguments: m parameters, k slots behind them -/
def defX (m k : Nat) (f : Env → Sto → RS) : List D → Sto → R D := fun ds S => if ds.length = m then (match f (ds.map some ++ List.replicate k none) S with
    | .nx _ S1 => .ok .non S1
    | .ret d S1 => .ok d S1
    | .exc c fs _ S1 => .exc c fs S1
    | _ => .bad) else .bad
theorem spF_len {m k : Nat} {f : Env → Sto → RS} {ps : List Str} (hp : ps.length = m) : ∀ vs H Q E, spF K (defX m k f) vs H Q E → vs.length = ps.length := fun vs H Q E ⟨φ, S, ds, r, hv, p⟩ => by
  unfold defX at p
  split at p
  · rename_i h
    rw [hv.len, h, hp]
  · exact p.elim
theorem body_of {m k : Nat} {f : Env → Sto → RS} {t : TS} {N : List Str} {vs : List V} {H : Hp} {Q : VK} {E : XK} (hN : N.length = m + k) (hs : spF K (defX m k f) vs H Q E) (hf : ImpS K (WEx K E) t f) : t { nx := fun _ H' => Q .non H', rt := Q } (L2.start N vs) H := by
  obtain ⟨φ, S, ds, r, hv, p⟩ := hs
  unfold defX at p
  split at p
  · rename_i hl
    have he : ER K φ S.length H (ds.map some ++ List.replicate k none) (L2.start N vs) := by
      unfold L2.start
      rw [hv.len, hN, hl, Nat.add_sub_cancel_left]
      exact ER.ofs k hv
    refine hf φ S H _ _ r ⟨he, trivial⟩ _ ?_
    split at p
    · rename_i e1 S1 h1
      rw [h1]
      exact fun φ' H' σ' f' r' e' => p φ' H' .non f' r' VR.non
    · rename_i d S1 h1
      rw [h1]
      exact p
    · rename_i c fs e1 S1 h1
      rw [h1]
      exact fun φ' H' σ' dd fv f' r' e' hd hk => p φ' H' dd fv f' r' hd hk
    · exact p.elim
  · exact p.elim
end
end Mi

namespace Mi
open PySem PySem.Spec PyProof.Rows L2 Evl My
/-! ### set(a list of ints), k in it, len -/
def dedupL (ns : List Int) : List Int := ns.foldl step_dedup []
theorem firstMet_dedup (ns : List Int) : firstMet (fun i => ns.getD i 0) ns.length = dedupL ns := by
  unfold firstMet dedupL
  congr 1
  refine List.ext_getElem? fun i => ?_
  rw [List.getElem?_map]
  by_cases h : i < ns.length
  · rw [List.getElem?_range h, List.getElem?_eq_getElem h]
    simp [List.getD, h]
  · rw [List.getElem?_eq_none (by simpa using h), List.getElem?_eq_none (by omega)]
    rfl
theorem dedup_any (ns : List Int) (k : Int) : (dedupL ns).any (· == k) = ns.any (· == k) := by
  rw [← firstMet_dedup, firstMet_any]
  congr 1
  refine List.ext_getElem? fun i => ?_
  rw [List.getElem?_map]
  by_cases h : i < ns.length
  · rw [List.getElem?_range h, List.getElem?_eq_getElem h]
    simp [List.getD, h]
  · rw [List.getElem?_eq_none (by simpa using h), List.getElem?_eq_none (by omega)]
    rfl
theorem dedup_len (ns : List Int) : (dedupL ns).length ≤ ns.length := by
  rw [← firstMet_dedup]
  exact firstMet_length_le _ _
/-- k is in ns -/
def memI (ns : List Int) (k : Int) : Bool := ns.any (· == k)
theorem memI_iff {ns : List Int} {k : Int} : memI ns k = true ↔ k ∈ ns := by simp [memI]
theorem inV_ints {ns : List Int} {k : Int} : inV (.int k) (ns.map V.int) = memI ns k := by simp [inV, eqV, memI, List.any_map, Function.comp_def]
def rSetI (K : PySem.W.Frag) : List V → Hp → VK → Prop := fun xs H Q => ∃ (l : Addr) (ns : List Int), xs = [.ref l] ∧ SqL K H l (ns.map V.int) ∧ ns.length ≤ 4000 ∧ ∀ a, H a = none → Q (.ref a) (upd H a (.set (fun k => ns.any (· == k)) (dedupL ns).length))
section
variable {X : Cx}
theorem cr_setI (K : PySem.W.Frag) (hc : X.calm = true) (hK : X.K = K := by rfl) : CallR X (.type "set") (rSetI K) := by
  subst hK
  intro pins s σ H xs us Q I r h
  obtain ⟨l, ns, rfl, hl, hz, q⟩ := h
  rw [Vals.ref1 r]
  obtain ⟨its, rv, pl, _⟩ := I.list hl
  have hlen : its.toArray.size = ns.length := by rw [List.size_toArray, ← rv.length, List.length_map]
  have hn : H s.heap.objs.size = none := I.hok.fresh (Nat.le_refl _)
  refine call_set_list (I.ok.hd hc) pl.isList (by simpa using RZ.intsAre_vals rv) (by rw [hlen]; unfold scanBound; omega) fun h' tk hS hk => ?_
  rw [hlen, firstMet_dedup] at hS
  have e : (fun k' => (dedupL ns).any (· == k')) = fun k => ns.any (· == k) := funext fun k => dedup_any ns k
  rw [e] at hS
  exact ⟨.ref s.heap.objs.size, upd H s.heap.objs.size (.set (fun k => ns.any (· == k)) (dedupL ns).length), I.laid (t' := tk) (fun b o e => hk b o (Heap.lt_size e) e) (Nat.le_refl _) hS, rfl, q _ hn⟩
def rSetIn (neg : Bool) : R2 := fun x y H Q => ∃ k a S n, x = .int k ∧ y = .ref a ∧ H a = some (.set S n) ∧ Q (.bl (if neg then !S k else S k)) H
theorem or_setIn : OpR X (compareOp .In) (rSetIn false) := by
  intro pins s σ H x y v u Q I rx ry h
  obtain ⟨k, a, S, n, rfl, rfl, ha, q⟩ := h
  obtain ⟨tk, rfl⟩ := rx
  cases ry
  exact wpAny_inSet_of (intKind_is _ _ _ _) rfl (I.hok a _ ha) ⟨.bl (S k), H, I.tok _, rfl, q⟩
theorem or_setNin : OpR X (compareOp .NotIn) (rSetIn true) := by
  intro pins s σ H x y v u Q I rx ry h
  obtain ⟨k, a, S, n, rfl, rfl, ha, q⟩ := h
  obtain ⟨tk, rfl⟩ := rx
  cases ry
  exact wpAny_notInSet_of (intKind_is _ _ _ _) rfl (I.hok a _ ha) ⟨.bl (!S k), H, I.tok _, rfl, q⟩
def rSetLen : List V → Hp → VK → Prop := fun xs H Q => ∃ a S n, xs = [.ref a] ∧ H a = some (.set S n) ∧ n ≤ 4000 ∧ Q (.int (n : Int)) H
theorem cr_setLen : CallR X (.builtin "len") rSetLen := by
  intro pins s σ H xs us Q I r h
  obtain ⟨a, S, n, rfl, ha, hz, q⟩ := h
  rw [Vals.ref1 r]
  obtain ⟨o, es, ep, t, ho, hex, hd, _, _, _, hf, hn⟩ := (show s.heap.SetOf (intKind X.prog X.w) a S n from I.hok a _ ha)
  refine call_len_set ho hex hd hf (by rw [hn] <;> omega) ⟨.int n, H, (I.tok _), ⟨_, by rw [hn]⟩, q⟩
end
section
variable {K : PySem.W.Frag} {φ φ1 φ' : Nat → Addr} {n n1 n' : Nat} {H H1 H' : Hp} {X : XK} {W W1 : Wc K} {S : Sto} {α β γ δ : Type} {ρ : Rl α β}
def bSet : List D → Sto → R D := bInts fun ns S => if ns.length ≤ 4000 then .ok (.ref S.length) (S ++ [.set (memI ns) (dedupL ns).length]) else .bad
theorem cbi_set : CallI K (rSetI K) bSet := by
  intro φ S H ds vs X r h Q p
  obtain ⟨a, ns, rfl, q1, p⟩ := bInts_inv r h p
  split at p
  · rename_i hz
    exact ⟨a, ns, rfl, q1, hz, fun b hb => p.new r hb upd_same⟩
  · exact p.elim
def oInSet (neg : Bool) : D → D → Sto → R D := fun x y S => match x, y with
  | .int k, .ref l => match at_ S l with
    | some (.set f _) => .ok (.bl (if neg = true then !f k else f k)) S
    | _ => .bad
  | _, _ => .bad
theorem oInSet_eq {neg : Bool} {k : Int} {l : Nat} {f : Int → Bool} {m : Nat} (h : at_ S l = some (.set f m)) : oInSet neg (.int k) (.ref l) S = .ok (.bl (if neg = true then !f k else f k)) S := by simp [oInSet, h]
theorem opi_inSet {neg : Bool} : OpI K (rSetIn neg) (oInSet neg) := by
  intro φ S H x y v w X r hx hy Q p
  unfold oInSet at p
  split at p
  · split at p
    · rename_i k l _ f m e
      cases hx
      obtain ⟨_, rfl⟩ := hy.ref_inv
      exact ⟨k, _, f, m, rfl, rfl, r.ob _ _ e, p.here r (VR.bl _)⟩
    · exact p.elim
  · exact p.elim
def bLenSet : List D → Sto → R D := fun ds S => match ds with
  | [.ref l] => match at_ S l with
    | some (.set _ m) => if m ≤ 4000 then .ok (.int (m : Int)) S else .bad
    | _ => .bad
  | _ => .bad
theorem bLenSet_eq {l : Nat} {f : Int → Bool} {m : Nat} (h : at_ S l = some (.set f m)) (hm : m ≤ 4000) : bLenSet [.ref l] S = .ok (.int (m : Int)) S := by simp [bLenSet, h, hm]
theorem cbi_lenSet : CallI K rSetLen bLenSet := by
  intro φ S H ds vs X r h Q p
  unfold bLenSet at p
  split at p
  · split at p
    · rename_i l _ f m e
      split at p
      · rename_i hm
        obtain ⟨v, rfl, hv⟩ := h.one_inv
        obtain ⟨_, rfl⟩ := hv.ref_inv
        exact ⟨_, f, m, rfl, r.ob _ _ e, hm, p.here r (VR.int _)⟩
      · exact p.elim
    · exact p.elim
  · exact p.elim
/-! ### assert; what is never reached -/
def xAssert (ft : Env → Sto → R Bool) : Env → Sto → RS := fun env S => (ft env S).bindS env fun b S1 => if b = true then .nx env S1 else .bad
theorem imp_assert {tt : TT} {ft : Env → Sto → R Bool} (ht : Imp K W same tt ft) : ImpS K W (tAssert tt) (xAssert ft) := by
  intro φ S H env σ r e D p
  refine ht.goS (tb := fun b H1 => b = true ∧ D.nx σ H1) r e p fun φ1 S1 H1 x v f1 r1 e1 hv p1 => ?_
  obtain rfl : x = v := hv
  cases x with
  | true => exact ⟨rfl, p1 φ1 H1 σ Fut.refl r1 e1.e⟩
  | false => exact p1.elim
def xNever : Env → Sto → RS := fun _ _ => .bad
theorem imp_never : ImpS K W tNever xNever := fun φ S H env σ r e D p => p
/-! ### dicts with ints and texts as keys -/
def valX {κ α : Type} [DecidableEq κ] (kvs : List (κ × α)) (k : κ) : Option α := (kvs.find? fun kv => decide (kv.1 = k)).map (·.2)
def putX {κ α : Type} [DecidableEq κ] (kvs : List (κ × α)) (k : κ) (v : α) : List (κ × α) := if (kvs.any fun kv => decide (kv.1 = k)) = true then kvs.map (fun kv => if kv.1 = k then (kv.1, v) else kv) else kvs ++ [(k, v)]
theorem valX_cons {κ α : Type} [DecidableEq κ] {kvs : List (κ × α)} {k k' : κ} {v : α} : valX ((k', v) :: kvs) k = if k' = k then some v else valX kvs k := by
  unfold valX
  rw [List.find?_cons]
  by_cases h : k' = k <;> simp [h]
theorem KR.len {κ : Type} : ∀ {kvs : List (κ × D)} {kws : List (κ × V)}, KR K φ n H kvs kws → kws.length = kvs.length
  | _, _, .nil => rfl
  | _, _, .cons _ t => congrArg Nat.succ (KR.len t)
theorem KR.val {κ : Type} [DecidableEq κ] {k : κ} : ∀ {kvs : List (κ × D)} {kws : List (κ × V)} {d : D}, KR K φ n H kvs kws → valX kvs k = some d → ∃ v, valV kws k = some v ∧ VR K φ n H d v
  | _, _, _, .nil, h => by cases h
  | (k', x) :: r, _, d, .cons h t, e => by
    rw [valX_cons] at e
    split at e
    · rename_i hk
      cases e
      exact ⟨_, valV_pos hk, h⟩
    · rename_i hk
      obtain ⟨v, h1, h2⟩ := KR.val t e
      exact ⟨v, by rw [valV_neg hk]; exact h1, h2⟩
theorem KR.val_none {κ : Type} [DecidableEq κ] {k : κ} : ∀ {kvs : List (κ × D)} {kws : List (κ × V)}, KR K φ n H kvs kws → valX kvs k = none → valV kws k = none
  | _, _, .nil, _ => rfl
  | (k', x) :: r, _, .cons h t, e => by
    rw [valX_cons] at e
    split at e
    · cases e
    · rename_i hk
      rw [valV_neg hk]
      exact KR.val_none t e
theorem KR.any {κ : Type} [DecidableEq κ] {k : κ} : ∀ {kvs : List (κ × D)} {kws : List (κ × V)}, KR K φ n H kvs kws → (kws.any fun kv => decide (kv.1 = k)) = (kvs.any fun kv => decide (kv.1 = k))
  | _, _, .nil => rfl
  | _, _, .cons _ t => by rw [List.any_cons, List.any_cons, KR.any t]
theorem KR.mapPut {κ : Type} [DecidableEq κ] {k : κ} {d : D} {v : V} (hv : VR K φ n H d v) : ∀ {kvs : List (κ × D)} {kws : List (κ × V)}, KR K φ n H kvs kws → KR K φ n H (kvs.map fun kv => if kv.1 = k then (kv.1, d) else kv) (kws.map fun kv => if kv.1 = k then (kv.1, v) else kv)
  | _, _, .nil => .nil
  | (k', x) :: r, (_, _) :: _, .cons h t => by
    rw [List.map_cons, List.map_cons]
    by_cases hk : k' = k
    · rw [if_pos hk, if_pos hk]
      exact .cons hv (KR.mapPut hv t)
    · rw [if_neg hk, if_neg hk]
      exact .cons h (KR.mapPut hv t)
theorem KR.app {κ : Type} : ∀ {kvs lvs : List (κ × D)} {kws lws : List (κ × V)}, KR K φ n H kvs kws → KR K φ n H lvs lws → KR K φ n H (kvs ++ lvs) (kws ++ lws)
  | _, _, _, _, .nil, h => h
  | _, _, _, _, .cons a t, h => .cons a (KR.app t h)
theorem KR.put {κ : Type} [DecidableEq κ] {k : κ} {d : D} {v : V} {kvs : List (κ × D)} {kws : List (κ × V)} (h : KR K φ n H kvs kws) (hv : VR K φ n H d v) : KR K φ n H (putX kvs k d) (putK kws k v) := by
  unfold putX putK
  rw [h.any]
  split
  · exact h.mapPut hv
  · exact h.app (.cons hv .nil)
def keyD : D → Option Key
  | .int i => some (.inl i)
  | .str s => some (.inr s)
  | _ => none
@[simp] theorem keyD_int {i : Int} : keyD (.int i) = some (.inl i) := rfl
@[simp] theorem keyD_str {i : Str} : keyD (.str i) = some (.inr i) := rfl
theorem keyD_eq {d : D} {v : V} {k : Key} (h : keyD d = some k) (q : VR K φ n H d v) : v = kV k := by
  cases d <;> simp [keyD] at h <;> subst h <;> cases q <;> rfl
def getDX (S : Sto) (x y : D) : Option (Option D) := match x, keyD y with
  | .ref l, some k => match at_ S l with
    | some (.dK kvs) => some (valX kvs k)
    | _ => none
  | _, _ => none
theorem getDX_eq {l : Nat} {kvs : List (Key × D)} {y : D} {k : Key} (h : at_ S l = some (.dK kvs)) (hy : keyD y = some k) : getDX S (.ref l) y = some (valX kvs k) := by simp [getDX, h, hy]
theorem getDX_inv {x y : D} {v w : V} {o : Option D} (r : Rel K φ S H) (h : getDX S x y = some o) (hx : VR K φ S.length H x v) (hy : VR K φ S.length H y w) : ∃ a kws k, v = .ref a ∧ w = kV k ∧ H a = some (.dK kws) ∧ (∀ d, o = some d → ∃ u, valV kws k = some u ∧ VR K φ S.length H d u) ∧ (o = none → valV kws k = none) := by
  unfold getDX at h
  split at h
  · split at h
    · rename_i l k hk _ kvs e
      cases h
      obtain ⟨_, rfl⟩ := hx.ref_inv
      obtain ⟨kws, q1, q2⟩ := r.ob _ _ e
      exact ⟨_, kws, k, rfl, keyD_eq hk hy, q1, fun d hd => q2.val hd, fun hn => q2.val_none hn⟩
    · cases h
  · cases h
def oDGet : D → D → Sto → R D := fun x y S => match getDX S x y with
  | some (some d) => .ok d S
  | _ => .bad
def xDGet (fo fi : Env → Sto → R D) : Env → Sto → R D := xOp oDGet fo fi
theorem oDGet_eq {l : Nat} {kvs : List (Key × D)} {y d : D} {k : Key} (h : at_ S l = some (.dK kvs)) (hy : keyD y = some k) (hd : valX kvs k = some d) : oDGet (.ref l) y S = .ok d S := by simp [oDGet, getDX_eq h hy, hd]
theorem imp_dget {to ti : TE} {fo fi : Env → Sto → R D} (ho : Imp K W (vr K) to fo) (hi : Imp K W (vr K) ti fi) : Imp K W (vr K) (tDGet to ti) (xDGet fo fi) :=
  imp_op (r := fun x y H Q => ∃ a v, x = .ref a ∧ DGet H a y (some v) ∧ Q v H) (fun φ S H x y v w X r hx hy Q p => by
    unfold oDGet at p
    split at p
    · rename_i d e
      obtain ⟨a, kws, k, rfl, rfl, q1, q2, _⟩ := getDX_inv r e hx hy
      obtain ⟨u, h1, h2⟩ := q2 d rfl
      exact ⟨a, u, rfl, .inl ⟨kws, k, .inl q1, rfl, h1.symm⟩, p.here r h2⟩
    · exact p.elim) ho hi
def oDIn (neg : Bool) : D → D → Sto → R D := fun y x S => match getDX S x y with
  | some o => .ok (.bl (if neg = true then !o.isSome else o.isSome)) S
  | _ => .bad
theorem oDIn_eq {neg : Bool} {l : Nat} {kvs : List (Key × D)} {y : D} {k : Key} (h : at_ S l = some (.dK kvs)) (hy : keyD y = some k) : oDIn neg y (.ref l) S = .ok (.bl (if neg = true then !(valX kvs k).isSome else (valX kvs k).isSome)) S := by simp [oDIn, getDX_eq h hy]
def xDIn (neg : Bool) (fi fo : Env → Sto → R D) : Env → Sto → R D := xOp (oDIn neg) fi fo
theorem getDX_dget {x y : D} {v w : V} {o : Option D} (r : Rel K φ S H) (h : getDX S x y = some o) (hx : VR K φ S.length H x v) (hy : VR K φ S.length H y w) : ∃ a o', v = .ref a ∧ DGet H a w o' ∧ o'.isSome = o.isSome ∧ (∀ d, o = some d → ∃ u, o' = some u ∧ VR K φ S.length H d u) := by
  obtain ⟨a, kws, k, rfl, rfl, q1, q2, q3⟩ := getDX_inv r h hx hy
  cases o with
  | none => exact ⟨a, none, rfl, .inl ⟨kws, k, .inl q1, rfl, (q3 rfl).symm⟩, rfl, fun d hd => by cases hd⟩
  | some d =>
    obtain ⟨u, h1, h2⟩ := q2 d rfl
    exact ⟨a, some u, rfl, .inl ⟨kws, k, .inl q1, rfl, h1.symm⟩, rfl, fun d' hd => by cases hd; exact ⟨u, rfl, h2⟩⟩
theorem imp_din {to ti : TE} {fo fi : Env → Sto → R D} (hi : Imp K W (vr K) ti fi) (ho : Imp K W (vr K) to fo) : Imp K W (vr K) (tDIn ti to) (xDIn false fi fo) :=
  imp_op (r := fun y x H Q => ∃ a o, x = .ref a ∧ DGet H a y o ∧ Q (.bl o.isSome) H) (fun φ S H y x w v X r hy hx Q p => by
    unfold oDIn at p
    split at p
    · rename_i o e
      obtain ⟨a, o', rfl, q1, q2, _⟩ := getDX_dget r e hx hy
      exact ⟨a, o', rfl, q1, by rw [q2]; exact p.here r (VR.bl _)⟩
    · exact p.elim) hi ho
theorem imp_dnotin {to ti : TE} {fo fi : Env → Sto → R D} (hi : Imp K W (vr K) ti fi) (ho : Imp K W (vr K) to fo) : Imp K W (vr K) (tDNotIn ti to) (xDIn true fi fo) :=
  imp_op (r := fun y x H Q => ∃ a o, x = .ref a ∧ DGet H a y o ∧ Q (.bl (!o.isSome)) H) (fun φ S H y x w v X r hy hx Q p => by
    unfold oDIn at p
    split at p
    · rename_i o e
      obtain ⟨a, o', rfl, q1, q2, _⟩ := getDX_dget r e hx hy
      exact ⟨a, o', rfl, q1, by rw [q2]; exact p.here r (VR.bl _)⟩
    · exact p.elim) hi ho
/-- d[k] = v -/
def putDX (x y v : D) (S : Sto) : Option Sto := match x, keyD y with
  | .ref l, some k => match at_ S l with
    | some (.dK kvs) => if kvs.length < 100000 then some (S.set l (.dK (putX kvs k v))) else none
    | _ => none
  | _, _ => none
theorem putDX_eq {l : Nat} {kvs : List (Key × D)} {y v : D} {k : Key} (h : at_ S l = some (.dK kvs)) (hy : keyD y = some k) (hl : kvs.length < 100000) : putDX (.ref l) y v S = some (S.set l (.dK (putX kvs k v))) := by simp [putDX, h, hy, hl]
def xDPut (fo fi fv : Env → Sto → R D) : Env → Sto → RS := fun env S => (fv env S).bindS env fun v S1 => (fo env S1).bindS env fun x S2 => (fi env S2).bindS env fun y S3 => match putDX x y v S3 with
  | some S4 => .nx env S4
  | none => .bad
theorem imp_dput {to ti tv : TE} {fo fi fv : Env → Sto → R D} (ho : Imp K W (vr K) to fo) (hi : Imp K W (vr K) ti fi) (hv : Imp K W (vr K) tv fv) : ImpS K W (sDPut to ti tv) (xDPut fo fi fv) := by
  intro φ S H env σ r e D p
  refine hv.goS r e p fun φ1 S1 H1 v v' f1 r1 e1 hv1 p1 => ho.goS r1 e1 p1 fun φ2 S2 H2 x x' f2 r2 e2 hx p2 => hi.goS r2 e2 p2 fun φ3 S3 H3 y y' f3 r3 e3 hy p3 => ?_
  split at p3
  · rename_i S4 hp
    unfold putDX at hp
    split at hp
    · split at hp
      · rename_i l k hk _ kvs el
        split at hp
        · rename_i hz
          cases hp
          obtain ⟨_, rfl⟩ := (VR.fut f3 hx).ref_inv
          obtain ⟨kws, q1, q2⟩ := r3.ob _ _ el
          have hv3 := VR.fut (f2.trans f3) hv1
          have fw : Fut K φ3 S3.length H3 φ3 S3.length (upd H3 (φ3 l) (.dK (putK kws k v'))) := Fut.upd q1 trivial
          have q := r3.put (o' := .dK (putX kvs k v)) (u := .dK (putK kws k v')) el rfl rfl ⟨_, upd_same, (q2.put hv3).fut fw⟩
          exact ⟨_, _, rfl, .inl ⟨kws, k, q1, keyD_eq hk hy, sz_lt (by rw [q2.len]; exact hz), rfl⟩, p3 _ _ σ q.2 q.1 (e3.fut q.2).e⟩
        · cases hp
      · cases hp
    · cases hp
  · exact p3.elim
/-- d.get(k) -/
def xDGet1 (fo fi : Env → Sto → R D) : Env → Sto → R D := fun env S => (fo env S).bind fun x S1 => match x with
  | .ref l => match at_ S1 l with
    | some (.dK _) => (fi env S1).bind fun y S2 => match getDX S2 (.ref l) y with
      | some o => .ok (o.getD .non) S2
      | none => .bad
    | _ => .bad
  | _ => .bad
theorem imp_dget1 {to ti : TE} {fo fi : Env → Sto → R D} (ho : Imp K W (vr K) to fo) (hi : Imp K W (vr K) ti fi) : Imp K W (vr K) (tDGet1 to ti) (xDGet1 fo fi) :=
  imp_bind (tb := fun (x : V) σ H1 (Q : VK) => ∃ a, x = .ref a ∧ IsD H1 a ∧ ti σ H1 fun y H2 => ∃ o, DGet H2 a y o ∧ Q (o.getD .non) H2) ho fun φ S H env σ x v rl e hv Q p => by
    split at p
    · split at p
      · rename_i l _ kvs el
        obtain ⟨hl, rfl⟩ := hv.ref_inv
        obtain ⟨kws, q1, _⟩ := rl.ob _ _ el
        refine ⟨_, rfl, .inl ⟨kws, .inl q1⟩, hi.go rl e p fun φ1 S1 H1 y w f r1 _ hw p1 => ?_⟩
        split at p1
        · rename_i o eo
          obtain ⟨a, o', ea, b1, b2, b3⟩ := getDX_dget r1 eo (VR.ref (Nat.lt_of_lt_of_le hl f.le)) hw
          rw [f.ag _ hl] at ea
          cases ea
          refine ⟨o', b1, ?_⟩
          cases o with
          | none =>
            cases o' with
            | none => exact p1.here r1 VR.non
            | some u => cases b2
          | some d =>
            obtain ⟨u, rfl, hu⟩ := b3 d rfl
            exact p1.here r1 hu
        · exact p1.elim
      · exact p.elim
    · exact p.elim
def bLenD : List D → Sto → R D := fun ds S => match ds with
  | [.ref l] => match at_ S l with
    | some (.dK kvs) => .ok (.int (kvs.length : Int)) S
    | _ => .bad
  | _ => .bad
theorem cbi_lenD : CallI K (fun xs H Q => ∃ a kvs, xs = [V.ref a] ∧ H a = some (.dK kvs) ∧ Q (.int kvs.length) H) bLenD := by
  intro φ S H ds vs X r h Q p
  unfold bLenD at p
  split at p
  · split at p
    · rename_i l _ kvs e
      obtain ⟨v, rfl, hv⟩ := h.one_inv
      obtain ⟨_, rfl⟩ := hv.ref_inv
      obtain ⟨kws, q1, q2⟩ := r.ob _ _ e
      exact ⟨_, kws, rfl, q1, by rw [q2.len]; exact p.here r (VR.int _)⟩
    · exact p.elim
  · exact p.elim
def xDNew : Env → Sto → R D := fun _ S => .ok (.ref S.length) (S ++ [.dK []])
theorem imp_dnew : Imp K W (vr K) tDNewK xDNew := fun φ S H env σ r e Q p a ha => p.new r ha ⟨[], upd_same, .nil⟩
/-! displays -/
def prs (K : PySem.W.Frag) : Rl (List (D × D)) (List (V × V)) := fun φ n H ds vs => Paired (fun p q => VR K φ n H p.1 q.1 ∧ VR K φ n H p.2 q.2) ds vs
def xPNil : Env → Sto → R (List (D × D)) := fun _ S => .ok [] S
def xPCons (fk fv : Env → Sto → R D) (fr : Env → Sto → R (List (D × D))) : Env → Sto → R (List (D × D)) := fun env S => (fk env S).bind fun x S1 => (fv env S1).bind fun y S2 => (fr env S2).bind fun ps S3 => .ok ((x, y) :: ps) S3
theorem impp_nil : Imp K W (prs K) (tPairs []) xPNil := fun φ S H env σ r e Q p => p.here r Paired.nil
theorem impp_cons {tk tv : TE} {trs : List (TE × TE)} {fk fv : Env → Sto → R D} {fr : Env → Sto → R (List (D × D))} (hk : Imp K W (vr K) tk fk) (hv : Imp K W (vr K) tv fv) (hr : Imp K W (prs K) (tPairs trs) fr) : Imp K W (prs K) (tPairs ((tk, tv) :: trs)) (xPCons fk fv fr) :=
  imp_bind (tb := fun (x : V) σ H1 (Q : List (V × V) → Hp → Prop) => tv σ H1 fun y H2 => tPairs trs σ H2 fun ps H3 => Q ((x, y) :: ps) H3) hk fun φ S H env σ x v rl e hx Q p =>
    hv.go rl e p fun φ1 S1 H1 y w f1 r1 e1 hy p1 => hr.go r1 e1 p1 fun φ2 S2 H2 ps qs f2 r2 e2 hp p2 => p2.here r2 (Paired.cons ⟨VR.fut f2 (VR.fut f1 hx), VR.fut f2 hy⟩ hp)
def keysX : List (D × D) → Option (List (Key × D))
  | [] => some []
  | (k, v) :: r => (keyD k).bind fun k' => (keysX r).map fun r' => (k', v) :: r'
def mergeX (kvs more : List (Key × D)) : List (Key × D) := more.foldl (fun acc kv => putX acc kv.1 kv.2) kvs
theorem keysX_inv : ∀ {ds : List (D × D)} {ks : List (Key × D)} {vs : List (V × V)}, keysX ds = some ks → Paired (fun p q => VR K φ n H p.1 q.1 ∧ VR K φ n H p.2 q.2) ds vs → ∃ kws : List (Key × V), vs = kws.map (fun kv => (kV kv.1, kv.2)) ∧ KR K φ n H ks kws ∧ kws.length = ks.length
  | [], _, _, h, .nil => by cases h; exact ⟨[], rfl, .nil, rfl⟩
  | (k, v) :: r, _, _, h, .cons (b := b) q t => by
    obtain ⟨k', h1, h2⟩ := Option.bind_eq_some_iff.mp h
    obtain ⟨r', h3, h4⟩ := Option.map_eq_some_iff.mp h2
    obtain ⟨kws, e1, e2, e3⟩ := keysX_inv h3 t
    cases h4
    obtain ⟨b1, b2⟩ := b
    have := keyD_eq h1 q.1
    dsimp only at this
    subst this
    exact ⟨(k', b2) :: kws, by rw [e1]; rfl, .cons q.2 e2, congrArg Nat.succ e3⟩
theorem KR.merge : ∀ {more : List (Key × D)} {mw : List (Key × V)} {kvs : List (Key × D)} {kws : List (Key × V)}, KR K φ n H more mw → KR K φ n H kvs kws → KR K φ n H (mergeX kvs more) (mergeK kws mw)
  | _, _, _, _, .nil, h => h
  | (k, x) :: r, (_, v) :: vs, _, _, .cons q t, h => KR.merge (more := r) (mw := vs) t (h.put q)
def xDisp (fp : Env → Sto → R (List (D × D))) : Env → Sto → R D := fun env S => (fp env (S ++ [.dK []])).bind fun ps S1 => match at_ S1 S.length, keysX ps with
  | some (.dK []), some ks => if ks.length ≤ 15 then .ok (.ref S.length) (S1.set S.length (.dK (mergeX [] ks))) else .bad
  | _, _ => .bad
theorem imp_disp {trs : List (TE × TE)} {fp : Env → Sto → R (List (D × D))} (hp : Imp K W (prs K) (tPairs trs) fp) : Imp K W (vr K) (tDisp trs) (xDisp fp) := by
  intro φ S H env σ r e Q p a ha
  have r0 : Rel K (nxt φ S.length a) (S ++ [.dK []]) (upd H a (.dK [])) := r.new ha ⟨[], upd_same, .nil⟩
  have f0 : Fut K φ S.length H (nxt φ S.length a) (S ++ [O.dK []]).length (upd H a (.dK [])) := by
    rw [List.length_append]
    exact Fut.new ha
  refine hp.go r0 (e.fut f0) (p.fut f0) fun φ1 S1 H1 ps qs f1 r1 e1 hq p1 => ?_
  split at p1
  · rename_i ks h1 h2
    split at p1
    · rename_i hl
      obtain ⟨kws, e1', e2, e3⟩ := keysX_inv h2 hq
      obtain ⟨zs, q1, q2⟩ := r1.ob _ _ h1
      cases q2
      have hφ : φ1 S.length = a := by
        rw [f1.ag _ (by simp)]
        exact nxt_at
      have fw : Fut K φ1 S1.length H1 φ1 S1.length (upd H1 (φ1 S.length) (.dK (mergeK [] kws))) := Fut.upd q1 trivial
      have q := r1.put (o' := .dK (mergeX [] ks)) (u := .dK (mergeK [] kws)) h1 rfl rfl ⟨_, upd_same, (e2.merge .nil).fut fw⟩
      have fin := p1 φ1 _ (.ref (φ1 S.length)) q.2 q.1 (VR.ref (by
        rw [List.length_set]
        exact (List.getElem?_eq_some_iff.mp h1).1))
      rw [hφ] at q1 fin
      exact ⟨q1, kws, e1', by rw [e3]; exact hl, fin⟩
    · exact p1.elim
  · exact p1.elim
/-! ### instances -/
def lkX {α : Type} (f : Str) (fs : List (Str × α)) : Option α := fs.lookup f
theorem KR.lookup {f : Str} : ∀ {fs : List (Str × D)} {fv : List (Str × V)} {d : D}, KR K φ n H fs fv → fs.lookup f = some d → ∃ v, fv.lookup f = some v ∧ VR K φ n H d v
  | _, _, _, .nil, h => by cases h
  | (k, x) :: r, _, d, .cons h t, e => by
    rw [List.lookup_cons] at e ⊢
    cases hk : f == k with
    | true =>
      rw [hk] at e
      cases e
      exact ⟨_, rfl, h⟩
    | false =>
      rw [hk] at e
      exact KR.lookup t e
theorem KR.lookup_none {f : Str} : ∀ {fs : List (Str × D)} {fv : List (Str × V)}, KR K φ n H fs fv → fs.lookup f = none → fv.lookup f = none
  | _, _, .nil, _ => rfl
  | (k, x) :: r, _, .cons h t, e => by
    rw [List.lookup_cons] at e ⊢
    cases hk : f == k with
    | true =>
      rw [hk] at e
      cases e
    | false =>
      rw [hk] at e
      exact KR.lookup_none t e
def putFX (f : Str) (v : D) : List (Str × D) → List (Str × D)
  | [] => [(f, v)]
  | (g, x) :: r => if g = f then (g, v) :: r else (g, x) :: putFX f v r
theorem KR.putF {f : Str} {d : D} {v : V} (hv : VR K φ n H d v) : ∀ {fs : List (Str × D)} {fv : List (Str × V)}, KR K φ n H fs fv → KR K φ n H (putFX f d fs) (L2.putF f v fv)
  | _, _, .nil => .cons hv .nil
  | (g, x) :: r, (_, _) :: _, .cons h t => by
    unfold putFX L2.putF
    by_cases hg : g = f
    · rw [if_pos hg, if_pos hg]
      exact .cons hv t
    · rw [if_neg hg, if_neg hg]
      exact .cons h (KR.putF hv t)
def insX (S : Sto) (C : Str) : D → Option (Nat × List (Str × D))
  | .ref l => match at_ S l with
    | some (.ins C' fs) => if C' = C then some (l, fs) else none
    | _ => none
  | _ => none
theorem insX_eq {l : Nat} {C : Str} {fs : List (Str × D)} (h : at_ S l = some (.ins C fs)) : insX S C (.ref l) = some (l, fs) := by simp [insX, h]
theorem insX_inv {x : D} {v : V} {C : Str} {l : Nat} {fs : List (Str × D)} (r : Rel K φ S H) (h : insX S C x = some (l, fs)) (hv : VR K φ S.length H x v) : x = .ref l ∧ v = .ref (φ l) ∧ at_ S l = some (.ins C fs) ∧ ∃ dx fv, H (φ l) = some (.ins (He.ga K C) dx fv) ∧ KR K φ S.length H fs fv := by
  unfold insX at h
  split at h
  · split at h
    · rename_i l' _ C' fs' e
      split at h
      · rename_i hc
        cases h
        subst hc
        obtain ⟨_, rfl⟩ := hv.ref_inv
        exact ⟨rfl, rfl, e, r.ob _ _ e⟩
      · cases h
    · cases h
  · cases h
def xFld (C f : Str) (fa : Env → Sto → R D) : Env → Sto → R D := fun env S => (fa env S).bind fun x S1 => match (insX S1 C x).bind fun p => p.2.lookup f with
  | some d => .ok d S1
  | none => .bad
theorem imp_fld {C f : Str} {ta : TE} {fa : Env → Sto → R D} (c : Cls K (He.ga K C)) (na : NoAttr K (He.ga K C) f) (ha : Imp K W (vr K) ta fa) : Imp K W (vr K) (tFld K ta f) (xFld C f fa) :=
  imp_bind (tb := fun (x : V) _ H1 (Q : VK) => ∃ a C dx fs v, x = .ref a ∧ H1 a = some (.ins C dx fs) ∧ Cls K C ∧ NoAttr K C f ∧ fs.lookup f = some v ∧ Q v H1) ha fun φ S H env σ x v rl e hv Q p => by
    split at p
    · rename_i d hd
      obtain ⟨⟨l, fs⟩, h1, h2⟩ := Option.bind_eq_some_iff.mp hd
      obtain ⟨_, rfl, _, dx, fv, q1, q2⟩ := insX_inv rl h1 hv
      obtain ⟨u, h3, h4⟩ := q2.lookup h2
      exact ⟨_, _, dx, fv, u, rfl, q1, c, na, h3, p.here rl h4⟩
    · exact p.elim
def setFX (C f : Str) (x y : D) (S : Sto) : Option Sto := (insX S C x).bind fun p => if p.2.length < 900 then some (S.set p.1 (.ins C (putFX f y p.2))) else none
theorem setFX_eq {C f : Str} {l : Nat} {fs : List (Str × D)} {y : D} (h : at_ S l = some (.ins C fs)) (hl : fs.length < 900) : setFX C f (.ref l) y S = some (S.set l (.ins C (putFX f y fs))) := by simp [setFX, insX_eq h, hl]
theorem setFX_inv {C f : Str} {x y : D} {v w : V} {S' : Sto} (r : Rel K φ S H) (h : setFX C f x y S = some S') (hx : VR K φ S.length H x v) (hy : VR K φ S.length H y w) :
    ∃ l dx fv, x = .ref l ∧ v = .ref (φ l) ∧ H (φ l) = some (.ins (He.ga K C) dx fv) ∧ fv.length < 900 ∧ Rel K φ S' (upd H (φ l) (.ins (He.ga K C) dx (L2.putF f w fv))) ∧ Fut K φ S.length H φ S'.length (upd H (φ l) (.ins (He.ga K C) dx (L2.putF f w fv))) := by
  obtain ⟨⟨l, fs⟩, h1, h2⟩ := Option.bind_eq_some_iff.mp h
  split at h2
  · rename_i hl
    cases h2
    obtain ⟨rfl, rfl, el, dx, fv, q1, q2⟩ := insX_inv r h1 hx
    have fw : Fut K φ S.length H φ S.length (upd H (φ l) (.ins (He.ga K C) dx (L2.putF f w fv))) := Fut.upd q1 trivial
    have q := r.put (o' := .ins C (putFX f y fs)) (u := .ins (He.ga K C) dx (L2.putF f w fv)) el rfl rfl ⟨dx, _, upd_same, (q2.putF hy).fut fw⟩
    exact ⟨l, dx, fv, rfl, rfl, q1, by rw [q2.len]; exact hl, q.1, q.2⟩
  · cases h2
def xSetF (C f : Str) (fo fv : Env → Sto → R D) : Env → Sto → RS := fun env S => (fv env S).bindS env fun y S1 => (fo env S1).bindS env fun x S2 => match setFX C f x y S2 with
  | some S3 => .nx env S3
  | none => .bad
theorem imp_setF {C f : Str} {to tv : TE} {fo fv : Env → Sto → R D} (c : Cls K (He.ga K C)) (na : NoAttr K (He.ga K C) f) (ho : Imp K W (vr K) to fo) (hv : Imp K W (vr K) tv fv) : ImpS K W (sFld K to tv f) (xSetF C f fo fv) := by
  intro φ S H env σ r e D p
  refine hv.goS r e p fun φ1 S1 H1 y y' f1 r1 e1 hy p1 => ho.goS r1 e1 p1 fun φ2 S2 H2 x x' f2 r2 e2 hx p2 => ?_
  split at p2
  · rename_i S3 hs
    obtain ⟨l, dx, fv, rfl, rfl, q1, q2, q3, q4⟩ := setFX_inv r2 hs hx (VR.fut f2 hy)
    exact ⟨_, _, dx, fv, rfl, q1, c, na, by omega, p2 _ _ σ q4 q3 (e2.fut q4).e⟩
  · exact p2.elim
def xAugF (C f : Str) (fo fv : Env → Sto → R D) (o : D → D → Sto → R D) : Env → Sto → RS := fun env S => (fo env S).bindS env fun x S1 => match (insX S1 C x).bind fun p => p.2.lookup f with
  | some d => (fv env S1).bindS env fun y S2 => (o d y S2).bindS env fun z S3 => match setFX C f x z S3 with
    | some S4 => .nx env S4
    | none => .bad
  | none => .bad
theorem imp_augF {C f : Str} {to tv : TE} {fo fv : Env → Sto → R D} {op : Int → Int → Int} (c : Cls K (He.ga K C)) (na : NoAttr K (He.ga K C) f) (ho : Imp K W (vr K) to fo) (hv : Imp K W (vr K) tv fv) :
    ImpS K W (sFldAug K to tv (fun x y H Q => ∃ i j, x = .int i ∧ y = .int j ∧ Q (.int (op i j)) H) f) (xAugF C f fo fv (oI fun i j => .int (op i j))) := by
  intro φ S H env σ r e D p
  refine ho.goS r e p fun φ1 S1 H1 x x' f1 r1 e1 hx p1 => ?_
  split at p1
  · rename_i d hd
    obtain ⟨⟨l, fs⟩, h1, h2⟩ := Option.bind_eq_some_iff.mp hd
    obtain ⟨rfl, rfl, _, dx, fv1, q1, q2⟩ := insX_inv r1 h1 hx
    obtain ⟨u, h3, h4⟩ := q2.lookup h2
    refine ⟨_, _, dx, fv1, u, rfl, q1, c, na, h3, hv.goS r1 e1 p1 fun φ2 S2 H2 y y' f2 r2 e2 hy p2 => ?_⟩
    unfold oI at p2
    split at p2
    · cases VR.fut f2 h4
      cases hy
      simp only [R.bindS_ok] at p2
      split at p2
      · rename_i S4 hs
        obtain ⟨l', dx', fv', e', ev, q3, q4, q5, q6⟩ := setFX_inv r2 hs (VR.fut f2 hx) (VR.int _)
        cases e'
        injection ev with ev
        rw [ev]
        exact ⟨_, _, rfl, rfl, dx', fv', q3, by omega, p2 _ _ σ q6 q5 (e2.fut q6).e⟩
      · exact p2.elim
    · exact p2.elim
  · exact p1.elim
theorem imp_augF_add {C f : Str} {to tv : TE} {fo fv : Env → Sto → R D} (c : Cls K (He.ga K C)) (na : NoAttr K (He.ga K C) f) (ho : Imp K W (vr K) to fo) (hv : Imp K W (vr K) tv fv) : ImpS K W (sFldAug K to tv rAdd f) (xAugF C f fo fv (oI fun i j => .int (i + j))) := imp_augF c na ho hv
theorem imp_augF_sub {C f : Str} {to tv : TE} {fo fv : Env → Sto → R D} (c : Cls K (He.ga K C)) (na : NoAttr K (He.ga K C) f) (ho : Imp K W (vr K) to fo) (hv : Imp K W (vr K) tv fv) : ImpS K W (sFldAug K to tv rSub f) (xAugF C f fo fv (oI fun i j => .int (i - j))) := imp_augF c na ho hv
/-- o.m(..) -/
def xMeth (C m : Str) (f : List D → Sto → R D) (fo : Env → Sto → R D) (fa : Env → Sto → R (List D)) : Env → Sto → R D := fun env S => (fo env S).bind fun x S1 => match insX S1 C x with
  | some (_, fs) => match fs.lookup m with
    | none => (fa env S1).bind fun ds S2 => nox (f (x :: ds) S2)
    | some _ => .bad
  | none => .bad
theorem imp_meth {C m : Str} {f : List D → Sto → R D} {to : TE} {ta : TA} {fo : Env → Sto → R D} {fa : Env → Sto → R (List D)} {E : XK} (ho : Imp K W (vr K) to fo) (ha : Imp K W (vrs K) ta fa) : Imp K W (vr K) (tMeth (He.ga K C) m (spF K f) [] E to ta) (xMeth C m f fo fa) :=
  imp_bind (tb := fun (x : V) σ H1 (Q : VK) => ∃ a dx fs, x = .ref a ∧ H1 a = some (.ins (He.ga K C) dx fs) ∧ fs.lookup m = none ∧ ta σ H1 fun vs H2 => spF K f (x :: (vs ++ [])) H2 Q E) ho fun φ S H env σ x v rl e hv Q p => by
    split at p
    · rename_i l fs hi
      split at p
      · rename_i hm
        obtain ⟨rfl, rfl, _, dx, fv, q1, q2⟩ := insX_inv rl hi hv
        refine ⟨_, dx, fv, rfl, q1, q2.lookup_none hm, ha.go rl e p fun φ1 S1 H1 ds vs f1 r1 _ hvs p1 => ?_⟩
        rw [List.append_nil]
        obtain ⟨d, S2, hf, p1⟩ := nox_inv p1
        exact ⟨φ1, S1, _, r1, .cons (VR.fut f1 hv) hvs, by rw [hf]; exact p1⟩
      · exact p.elim
    · exact p.elim
def xMethX (C m : Str) (f : List D → Sto → R D) (fo : Env → Sto → R D) (fa : Env → Sto → R (List D)) : Env → Sto → R D := fun env S => (fo env S).bind fun x S1 => match insX S1 C x with
  | some (_, fs) => match fs.lookup m with
    | none => (fa env S1).bind fun ds S2 => f (x :: ds) S2
    | some _ => .bad
  | none => .bad
theorem imp_methX {C m : Str} {f : List D → Sto → R D} {to : TE} {ta : TA} {fo : Env → Sto → R D} {fa : Env → Sto → R (List D)} (ho : Imp K W (vr K) to fo) (ha : Imp K W (vrs K) ta fa) : Imp K W (vr K) (tMethS (He.ga K C) m (spF K f) (WE W.wx) to ta) (xMethX C m f fo fa) :=
  imp_bind (tb := fun (x : V) σ H1 (Q : VK) => ∃ a dx fs, x = .ref a ∧ H1 a = some (.ins (He.ga K C) dx fs) ∧ fs.lookup m = none ∧ ta σ H1 fun vs H2 => spF K f (x :: vs) H2 Q (WE W.wx σ)) ho fun φ S H env σ x v rl e hv Q p => by
    split at p
    · rename_i l fs hi
      split at p
      · rename_i hm
        obtain ⟨rfl, rfl, _, dx, fv, q1, q2⟩ := insX_inv rl hi hv
        exact ⟨_, dx, fv, rfl, q1, q2.lookup_none hm, ha.go rl e p fun φ1 S1 H1 ds vs f1 r1 _ hvs p1 => ⟨φ1, S1, _, r1, .cons (VR.fut f1 hv) hvs, p1⟩⟩
      · exact p.elim
    · exact p.elim
/-- C(..) -/
def xMake (C : Str) (f : List D → Sto → R D) (fa : Env → Sto → R (List D)) : Env → Sto → R D := fun env S => (fa env S).bind fun ds S1 => match f (.ref S1.length :: ds) (S1 ++ [.ins C []]) with
  | .ok .non S2 => .ok (.ref S1.length) S2
  | _ => .bad
theorem imp_make {C : Str} {f : List D → Sto → R D} {ta : TA} {fa : Env → Sto → R (List D)} {E : XK} (ha : Imp K W (vrs K) ta fa) : Imp K W (vr K) (tMake (He.ga K C) (spF K f) [] E ta) (xMake C f fa) :=
  imp_bind (tb := fun (vs : List V) _ H1 (Q : VK) => ∀ x dx, H1 x = none → H1 dx = none → dx ≠ x → spF K f (.ref x :: (vs ++ [])) (upd (upd H1 dx (.own x)) x (.ins (He.ga K C) dx [])) (fun v H2 => v = .non ∧ Q (.ref x) H2) E) ha fun φ S H env σ ds vs rl e hv Q p x dx hx hd ne => by
    split at p
    · rename_i S2 hf
      have e1 : Ex H (upd H dx (.own x)) := Ex.new hd
      have hx1 : (upd H dx (.own x)) x = none := by rw [upd_ne ne.symm]; exact hx
      have r1 := (rl.ex e1).new (o := .ins C []) (u := .ins (He.ga K C) dx []) hx1 ⟨dx, [], upd_same, .nil⟩
      have f1 : Fut K φ S.length H (nxt φ S.length x) (S ++ [O.ins C []]).length (upd (upd H dx (.own x)) x (.ins (He.ga K C) dx [])) := by
        rw [List.length_append]
        exact (Fut.ex e1).trans (Fut.new hx1)
      have hr := VR.ref (K := K) (φ := nxt φ S.length x) (n := (S ++ [O.ins C []]).length) (H := upd (upd H dx (.own x)) x (.ins (He.ga K C) dx [])) (l := S.length) (by simp)
      rw [nxt_at] at hr
      refine ⟨_, _, _, r1, .cons hr (by rw [List.append_nil]; exact hv.fut f1), ?_⟩
      rw [hf]
      intro φ' H' v f' r' hv'
      cases hv'
      refine ⟨rfl, ?_⟩
      have q := p φ' H' (.ref (φ' S.length)) (f1.trans f') r' (VR.ref (Nat.lt_of_lt_of_le (by simp) f'.le))
      rw [f'.ag _ (by simp), nxt_at] at q
      exact q
    · exact p.elim
end
end Mi

namespace Mi
open PySem PySem.Spec PyProof.Rows L2 Evl My
/-! ### the first part first -/
def RS.turn (r : RS) (g : Env → Sto → RS) : RS := match r with
  | .nx e S => g e S
  | .ct e S => g e S
  | q => q
def R.bindE (r : R Env) (g : Env → Sto → RS) : RS := match r with
  | .ok e S => g e S
  | _ => .bad
@[simp] theorem turn_nx {e : Env} {S : Sto} {g : Env → Sto → RS} : (RS.nx e S).turn g = g e S := rfl
@[simp] theorem turn_ct {e : Env} {S : Sto} {g : Env → Sto → RS} : (RS.ct e S).turn g = g e S := rfl
@[simp] theorem turn_ret {d : D} {S : Sto} {g : Env → Sto → RS} : (RS.ret d S).turn g = .ret d S := rfl
@[simp] theorem turn_bk {e : Env} {S : Sto} {g : Env → Sto → RS} : (RS.bk e S).turn g = .bk e S := rfl
@[simp] theorem turn_exc {c : Str} {fs : List (Str × D)} {e : Env} {S : Sto} {g : Env → Sto → RS} : (RS.exc c fs e S).turn g = .exc c fs e S := rfl
@[simp] theorem bindE_ok {e : Env} {S : Sto} {g : Env → Sto → RS} : (R.ok e S).bindE g = g e S := rfl
open Classical in
theorem loopX_cons {ok : Sto → Prop} {fg : XG} {fb : Env → Sto → RS} {x : D} {r : List D} {env : Env} {S : Sto} (h : ok S) : loopX ok fg fb (x :: r) env S = (fg x env S).bindE fun e1 S1 => (fb e1 S1).turn (loopX ok fg fb r) := by
  rw [loopX, if_pos h]
  cases fg x env S with
  | ok e1 S1 =>
    simp only [bindE_ok]
    cases fb e1 S1 <;> rfl
  | _ => rfl
open Classical in
theorem loopX_nil {ok : Sto → Prop} {fg : XG} {fb : Env → Sto → RS} {env : Env} {S : Sto} (h : ok S) : loopX ok fg fb [] env S = .nx env S := by rw [loopX, if_pos h]
theorem whileX_succ {ft : Env → Sto → R Bool} {fb : Env → Sto → RS} {k : Nat} {env : Env} {S : Sto} : whileX ft fb (k + 1) env S = (ft env S).bindS env fun b S1 => if b = true then (fb env S1).turn (whileX ft fb k) else .nx env S1 := by
  rw [whileX]
  congr 1
/-! ### reckoning in the store -/
theorem str_beq (a b : Str) : (a == b) = decide (a = b) := by rw [Bool.eq_iff_iff]; simp
section
variable {S S' : Sto} {l i : Nat} {o : O} {xs : List D}
theorem at_set {j : Nat} : at_ (S.set i o) j = if i = j then (if i < S.length then some o else none) else at_ S j := by
  unfold at_
  rw [List.getElem?_set]
theorem at_set_eq (h : i < S.length) : at_ (S.set i o) i = some o := List.getElem?_set_self h
theorem at_set_ne (h : i ≠ l) : at_ (S.set i o) l = at_ S l := List.getElem?_set_ne h
theorem at_app (h : at_ S l = some o) {T : Sto} : at_ (S ++ T) l = some o := by
  unfold at_ at *
  rw [List.getElem?_append_left (List.getElem?_eq_some_iff.mp h).1]
  exact h
theorem at_app_lt (h : l < S.length) {T : Sto} : at_ (S ++ T) l = at_ S l := List.getElem?_append_left h
theorem at_new {T : Sto} : at_ (S ++ o :: T) S.length = some o := by simp [at_]
theorem rdL_at : rdL S l = (match at_ S l with
  | some (.lst xs) => some xs
  | some (.rol xs) => some xs
  | _ => none) := rfl
theorem rdL_lst (h : at_ S l = some (.lst xs)) : rdL S l = some xs := by simp [rdL, h]
theorem rdL_set_ne (h : i ≠ l) : rdL (S.set i o) l = rdL S l := by unfold rdL; rw [at_set_ne h]
theorem rdL_set_eq (h : i < S.length) : rdL (S.set i (.lst xs)) i = some xs := rdL_lst (at_set_eq h)
theorem rdL_app (h : rdL S l = some xs) {T : Sto} : rdL (S ++ T) l = some xs := by
  unfold rdL at h ⊢
  rw [at_app_lt (rdL_lt (S := S) (l := l) (xs := xs) (by unfold rdL; exact h))]
  exact h
theorem rdL_new {T : Sto} : rdL (S ++ O.lst xs :: T) S.length = some xs := rdL_lst at_new
theorem rdL_of_at {S' : Sto} (e : at_ S' l = at_ S l) (h : rdL S l = some xs) : rdL S' l = some xs := by
  unfold rdL at h ⊢
  rw [e]
  exact h
theorem at_app_ge {T : Sto} {k : Nat} : at_ (S ++ T) (S.length + k) = at_ T k := by
  unfold at_
  rw [List.getElem?_append_right (by omega), Nat.add_sub_cancel_left]
theorem at_app_self {T : Sto} : at_ (S ++ T) S.length = at_ T 0 := at_app_ge (k := 0)
theorem at_zero {T : Sto} : at_ (o :: T) 0 = some o := rfl
theorem at_succ {T : Sto} {k : Nat} : at_ (o :: T) (k + 1) = at_ T k := by simp [at_]
theorem rdL_app_ge {T : Sto} {k : Nat} : rdL (S ++ T) (S.length + k) = rdL T k := by unfold rdL; rw [at_app_ge]
theorem rdL_app_self {T : Sto} : rdL (S ++ T) S.length = rdL T 0 := rdL_app_ge (k := 0)
theorem rdL_zero {T : Sto} : rdL (.lst xs :: T) 0 = some xs := rfl
theorem rdL_succ {T : Sto} {k : Nat} : rdL (o :: T) (k + 1) = rdL T k := by unfold rdL; rw [at_succ]
theorem rdL_app_lt (h : l < S.length) {T : Sto} : rdL (S ++ T) l = rdL S l := by unfold rdL; rw [at_app_lt h]
/-- all below n but what lies in [b, b + k) is as it was -/
structure Frm (b k : Nat) (S S' : Sto) : Prop where
  le : S.length ≤ S'.length
  eq : ∀ i, i < S.length → ¬ (b ≤ i ∧ i < b + k) → at_ S' i = at_ S i
theorem Frm.refl {b k : Nat} : Frm b k S S := ⟨Nat.le_refl _, fun _ _ _ => rfl⟩
theorem Frm.trans {b k : Nat} {S1 S2 : Sto} (a : Frm b k S S1) (c : Frm b k S1 S2) : Frm b k S S2 := ⟨Nat.le_trans a.le c.le, fun i h n => (c.eq i (Nat.lt_of_lt_of_le h a.le) n).trans (a.eq i h n)⟩
theorem Frm.set {b k j : Nat} (h : b ≤ j ∧ j < b + k) : Frm b k S (S.set j o) := ⟨by simp, fun i _ n => List.getElem?_set_ne (fun z => n (by rw [← z]; exact h))⟩
theorem Frm.app {b k : Nat} {T : Sto} : Frm b k S (S ++ T) := ⟨by simp, fun i h _ => List.getElem?_append_left h⟩
theorem Frm.get {b k : Nat} (f : Frm b k S S') (h : at_ S l = some o) (n : ¬ (b ≤ l ∧ l < b + k)) : at_ S' l = some o := by rw [f.eq l (at_lt h) n]; exact h
theorem Frm.rd {b k : Nat} (f : Frm b k S S') (h : rdL S l = some xs) (n : ¬ (b ≤ l ∧ l < b + k)) : rdL S' l = some xs := rdL_of_at (f.eq l (rdL_lt h) n) h
end
/-! ### comprehensions that leave the store -/
theorem lc_pure {ok : Sto → Prop} {fg : XG} {ft : Env → Sto → R Bool} {fe : Env → Sto → R D} {env0 : Env} {S : Sto} (g : D → Option D) : ∀ (items : List D) (acc : List D), (∀ acc, ok (S ++ [.lst acc])) →
    (∀ x ∈ items, ∀ acc, ∃ e1, fg x env0 (S ++ [.lst acc]) = .ok e1 (S ++ [.lst acc]) ∧ (match g x with
      | some y => ft e1 (S ++ [.lst acc]) = .ok true (S ++ [.lst acc]) ∧ fe e1 (S ++ [.lst acc]) = .ok y (S ++ [.lst acc])
      | none => ft e1 (S ++ [.lst acc]) = .ok false (S ++ [.lst acc]))) →
    acc.length + items.length < 100000 → compX ok fg ft fe env0 S.length items (S ++ [.lst acc]) = .ok (.ref S.length) (S ++ [.lst (acc ++ items.filterMap g)])
  | [], acc, hok, _, _ => by simp [compX, hok]
  | x :: r, acc, hok, ht, hl => by
    obtain ⟨e1, h1, h2⟩ := ht x List.mem_cons_self acc
    rw [List.length_cons] at hl
    have ht' : ∀ y ∈ r, _ := fun y hy => ht y (List.mem_cons_of_mem _ hy)
    rw [compX, if_pos (hok acc), h1]
    cases hg : g x with
    | none =>
      rw [hg] at h2
      simp only [h2]
      rw [lc_pure g r acc hok ht' (by omega), List.filterMap_cons_none hg]
    | some y =>
      rw [hg] at h2
      simp only [h2.1, h2.2]
      have hs : at_ (S ++ [O.lst acc]) S.length = some (.lst acc) := by simp [at_]
      have hset : (S ++ [O.lst acc]).set S.length (.lst (acc ++ [y])) = S ++ [.lst (acc ++ [y])] := by simp
      rw [hs]
      simp only
      rw [if_pos (by omega), hset, lc_pure g r (acc ++ [y]) hok ht' (by simp; omega), List.filterMap_cons_some hg]
      simp
/-- .. each item gives one -/
theorem lc_map {ok : Sto → Prop} {fg : XG} {fe : Env → Sto → R D} {env0 : Env} {S : Sto} (g : D → D) (items : List D) (hok : ∀ acc, ok (S ++ [.lst acc]))
    (ht : ∀ x ∈ items, ∀ acc, ∃ e1, fg x env0 (S ++ [.lst acc]) = .ok e1 (S ++ [.lst acc]) ∧ fe e1 (S ++ [.lst acc]) = .ok (g x) (S ++ [.lst acc])) (hl : items.length < 100000) :
    compX ok fg xYes fe env0 S.length items (S ++ [.lst []]) = .ok (.ref S.length) (S ++ [.lst (items.map g)]) := by
  have := lc_pure (ok := ok) (fg := fg) (ft := xYes) (fe := fe) (env0 := env0) (S := S) (fun x => some (g x)) items [] hok (fun x hx acc => by
    obtain ⟨e1, h1, h2⟩ := ht x hx acc
    exact ⟨e1, h1, rfl, h2⟩) (by simpa using hl)
  rw [this]
  simp
theorem rngD_mem {lo : Int} {k : Nat} {x : D} (h : x ∈ rngD lo k) : ∃ i : Nat, i < k ∧ x = .int (lo + (i : Int)) := by
  obtain ⟨i, hi, rfl⟩ := List.mem_map.mp h
  exact ⟨i, List.mem_range.mp hi, rfl⟩
/-! ### loops by a word -/
def Exits : RS → Prop
  | .ret _ _ => True
  | .bk _ _ => True
  | .exc _ _ _ _ => True
  | _ => False
theorem loop_run {ok : Sto → Prop} {fg : XG} {fb : Env → Sto → RS} (I : Nat → Env → Sto → Prop) (F : RS → Prop) : ∀ (items : List D) (k : Nat) (env : Env) (S : Sto), (∀ i env S, i ≤ k + items.length → I i env S → ok S) →
    (∀ (i : Nat) x env S, items[i]? = some x → I (k + i) env S → ∃ e1 S1, fg x env S = .ok e1 S1 ∧ ((∃ e S', (fb e1 S1 = .nx e S' ∨ fb e1 S1 = .ct e S') ∧ I (k + i + 1) e S') ∨ (F (fb e1 S1) ∧ Exits (fb e1 S1)))) → I k env S →
    (∃ e S', loopX ok fg fb items env S = .nx e S' ∧ I (k + items.length) e S') ∨ (F (loopX ok fg fb items env S) ∧ Exits (loopX ok fg fb items env S))
  | [], k, env, S, hok, _, h => .inl ⟨env, S, by rw [loopX, if_pos (hok k env S (by simp) h)], h⟩
  | x :: r, k, env, S, hok, turn, h => by
    rw [loopX, if_pos (hok k env S (by simp) h)]
    obtain ⟨e1, S1, h1, h2⟩ := turn 0 x env S rfl h
    rw [h1]
    simp only
    have next : ∀ e S', I (k + 1) e S' → (∃ e2 S2, loopX ok fg fb r e S' = .nx e2 S2 ∧ I (k + (x :: r).length) e2 S2) ∨ (F (loopX ok fg fb r e S') ∧ Exits (loopX ok fg fb r e S')) := fun e S' hI => by
      have := loop_run I F r (k + 1) e S' (fun i env S hi => hok i env S (by rw [List.length_cons]; omega)) (fun i y env S hy hI => by
        have := turn (i + 1) y env S hy (by rw [show k + (i + 1) = k + 1 + i by omega]; exact hI)
        rw [show k + (i + 1) = k + 1 + i by omega] at this
        exact this) hI
      rw [show k + (x :: r).length = k + 1 + r.length by rw [List.length_cons]; omega]
      exact this
    rcases h2 with ⟨e, S', h3, h4⟩ | ⟨h3, h4⟩
    · rcases h3 with h3 | h3
      · rw [h3]
        exact next e S' h4
      · rw [h3]
        exact next e S' h4
    · cases hb : fb e1 S1 with
      | nx e S' => rw [hb] at h4; exact h4.elim
      | ct e S' => rw [hb] at h4; exact h4.elim
      | bad => rw [hb] at h4; exact h4.elim
      | ret d S' => rw [hb] at h3; exact .inr ⟨h3, trivial⟩
      | bk e S' => rw [hb] at h3; exact .inr ⟨h3, trivial⟩
      | exc c fs e S' => rw [hb] at h3; exact .inr ⟨h3, trivial⟩
/-- no way out within -/
theorem loop_all {ok : Sto → Prop} {fg : XG} {fb : Env → Sto → RS} {items : List D} {env : Env} {S : Sto} (I : Nat → Env → Sto → Prop) (hok : ∀ i env S, i ≤ items.length → I i env S → ok S)
    (turn : ∀ (i : Nat) x env S, items[i]? = some x → I i env S → ∃ e1 S1, fg x env S = .ok e1 S1 ∧ ∃ e S', (fb e1 S1 = .nx e S' ∨ fb e1 S1 = .ct e S') ∧ I (i + 1) e S') (h : I 0 env S) :
    ∃ e S', loopX ok fg fb items env S = .nx e S' ∧ I items.length e S' := by
  rcases loop_run (ok := ok) (fg := fg) (fb := fb) I (fun _ => False) items 0 env S (fun i env S hi => hok i env S (by omega)) (fun i x env S hx hI => by
    rw [Nat.zero_add] at hI
    obtain ⟨e1, S1, h1, h2⟩ := turn i x env S hx hI
    exact ⟨e1, S1, h1, .inl (by rw [Nat.zero_add]; exact h2)⟩) h with h1 | h1
  · rw [Nat.zero_add] at h1
    exact h1
  · exact h1.1.elim
/-- some way out -/
theorem loop_or {ok : Sto → Prop} {fg : XG} {fb : Env → Sto → RS} {items : List D} {env : Env} {S : Sto} (I : Nat → Env → Sto → Prop) (F : RS → Prop) (hok : ∀ i env S, i ≤ items.length → I i env S → ok S)
    (turn : ∀ (i : Nat) x env S, items[i]? = some x → I i env S → ∃ e1 S1, fg x env S = .ok e1 S1 ∧ ((∃ e S', (fb e1 S1 = .nx e S' ∨ fb e1 S1 = .ct e S') ∧ I (i + 1) e S') ∨ (F (fb e1 S1) ∧ Exits (fb e1 S1)))) (h : I 0 env S) :
    (∃ e S', loopX ok fg fb items env S = .nx e S' ∧ I items.length e S') ∨ (F (loopX ok fg fb items env S) ∧ Exits (loopX ok fg fb items env S)) := by
  have := loop_run (ok := ok) (fg := fg) (fb := fb) I F items 0 env S (fun i env S hi => hok i env S (by omega)) (fun i x env S hx hI => by
    rw [Nat.zero_add] at hI
    rw [Nat.zero_add]
    exact turn i x env S hx hI) h
  rw [Nat.zero_add] at this
  exact this
theorem atI_of {α : Type} {xs : List α} {i : Int} {x : α} (h0 : 0 ≤ i) (h : xs[i.toNat]? = some x) : atI xs i = some x := by
  have := (List.getElem?_eq_some_iff.mp h).1
  unfold atI ixN
  rw [if_pos h0, if_pos (by omega)]
  exact h
theorem ixN_of {n : Nat} {i : Int} (h0 : 0 ≤ i) (h : i < n) : ixN n i = some i.toNat := by
  unfold ixN
  rw [if_pos h0, if_pos h]
theorem erase_map {α β : Type} {f : α → β} : ∀ {l : List α} {i : Nat}, (l.map f).eraseIdx i = (l.eraseIdx i).map f
  | [], _ => by simp
  | _ :: _, 0 => rfl
  | _ :: r, i + 1 => by simp [List.eraseIdx_cons_succ, erase_map (l := r) (i := i)]
theorem seqIx {n : Nat} {i : Int} (h0 : 0 ≤ i) (h : i < n) : seqIndex? i n = some i.toNat := by
  unfold seqIndex?
  have h1 : ¬ i < 0 := by omega
  simp [h1, h0, h]
end Mi

namespace Mi
open PySem PySem.Spec PyProof.Rows L2 Evl My
/-! ### the law itself -/
theorem law_in {K : PySem.W.Frag} {f : List D → Sto → R D} (h : ∀ (o : O) (ns : List Int), (o = .lst (ns.map .int) ∨ o = .rol (ns.map .int)) → ns.length ≤ 63 → ∃ S', f [.ref 0] [o] = .ok (.bl true) S') : ∀ vs H Q E, My.spLaw K vs H Q E → spF K f vs H Q E := fun vs H Q E ⟨a, ns, hv, hS, hl, q⟩ => by
  subst hv
  have go : ∀ o : O, (o = .lst (ns.map .int) ∨ o = .rol (ns.map .int)) → OR K (fun _ => a) 1 H a o → spF K f [.ref a] H Q E := fun o ho hO => by
    obtain ⟨S', hf⟩ := h o ns ho hl
    refine ⟨fun _ => a, [o], [.ref 0], ⟨fun i j oi oj hi hj _ _ _ => ?_, fun l oo hl => ?_, fun l oo hl tt => ?_⟩, .cons (.ref (l := 0) (by simp)) .nil, ?_⟩
    · have h1 := (List.getElem?_eq_some_iff.mp hi).1
      have h2 := (List.getElem?_eq_some_iff.mp hj).1
      simp at h1 h2
      omega
    · have h1 := (List.getElem?_eq_some_iff.mp hl).1
      simp at h1
      subst h1
      cases hl
      exact hO
    · have h1 := (List.getElem?_eq_some_iff.mp hl).1
      simp at h1
      subst h1
      cases hl
      rcases ho with rfl | rfl <;> cases tt
    · rw [hf]
      intro φ' H' v _ _ hv
      cases hv
      exact q H'
  rcases hS with (hS | ⟨o, hS⟩) | hS
  · exact go (.lst (ns.map .int)) (.inl rfl) ⟨_, hS, VRs.ints ns⟩
  · exact go (.rol (ns.map .int)) (.inr rfl) ⟨_, .inl ⟨o, hS⟩, VRs.ints ns⟩
  · exact go (.rol (ns.map .int)) (.inr rfl) ⟨_, .inr fun H' => .inr hS, VRs.ints ns⟩
end Mi

namespace Mi
open PySem PySem.Spec PyProof.Rows L2 Evl My
section
variable {K : PySem.W.Frag} {φ φ1 φ' : Nat → Addr} {n n1 n' : Nat} {H H1 H' : Hp} {X : XK} {W : Wc K} {S : Sto} {α β γ δ : Type} {ρ : Rl α β}
/-! ### a call of a def that raises, where no error is awaited -/
theorem imp_callX0 {f : List D → Sto → R D} {ta : TA} {fa : Env → Sto → R (List D)} {E : L2.St → XK} (ha : Imp K W (vrs K) ta fa) : Imp K W (vr K) (tCallS (spF K f) E ta) (xCall f fa) :=
  imp_bind (tb := fun (vs : List V) σ H (Q : VK) => spF K f vs H Q (E σ)) ha fun φ S H env σ x v rl e hv Q p => by
    obtain ⟨d, S1, hf, p⟩ := nox_inv p
    exact ⟨φ, S, x, rl, hv, by rw [hf]; exact p⟩
theorem imp_methX0 {C m : Str} {f : List D → Sto → R D} {to : TE} {ta : TA} {fo : Env → Sto → R D} {fa : Env → Sto → R (List D)} {E : L2.St → XK} (ho : Imp K W (vr K) to fo) (ha : Imp K W (vrs K) ta fa) : Imp K W (vr K) (tMethS (He.ga K C) m (spF K f) E to ta) (xMeth C m f fo fa) :=
  imp_bind (tb := fun (x : V) σ H1 (Q : VK) => ∃ a dx fs, x = .ref a ∧ H1 a = some (.ins (He.ga K C) dx fs) ∧ fs.lookup m = none ∧ ta σ H1 fun vs H2 => spF K f (x :: vs) H2 Q (E σ)) ho fun φ S H env σ x v rl e hv Q p => by
    split at p
    · rename_i l fs hi
      split at p
      · rename_i hm
        obtain ⟨rfl, rfl, _, dx, fv, q1, q2⟩ := insX_inv rl hi hv
        refine ⟨_, dx, fv, rfl, q1, q2.lookup_none hm, ha.go rl e p fun φ1 S1 H1 ds vs f1 r1 _ hvs p1 => ?_⟩
        obtain ⟨d, S2, hf, p1⟩ := nox_inv p1
        exact ⟨φ1, S1, _, r1, .cons (VR.fut f1 hv) hvs, by rw [hf]; exact p1⟩
      · exact p.elim
    · exact p.elim
/-! ### raise -/
/-- how an error's fields come of its arguments -/
structure ErrD (K : PySem.W.Frag) (ok : List V → Prop) (fs : List V → List (Str × V)) (g : List D → Option (List (Str × D))) : Prop where
  of : ∀ {φ n H ds vs ef}, g ds = some ef → VRs K φ n H ds vs → ok vs ∧ vs.length ≤ 1000 ∧ KR K φ n H ef (fs vs)
def xRaise (C : Str) (g : List D → Option (List (Str × D))) (fa : Env → Sto → R (List D)) : Env → Sto → RS := fun env S => (fa env S).bindS env fun ds S1 => match g ds with
  | some ef => .exc C ef env S1
  | none => .bad
theorem imp_raise {C : Str} {ok : List V → Prop} {fs : List V → List (Str × V)} {g : List D → Option (List (Str × D))} {ta : TA} {fa : Env → Sto → R (List D)} (G : ErrD K ok fs g) (ha : Imp K W (vrs K) ta fa) :
    ImpS K W (fun _ σ H => tMkO (He.ga K C) (My.spXinit K (He.ga K C) ok fs) [] ta σ H fun cls d H' => W.wx cls d σ H') (xRaise C g fa) := by
  intro φ S H env σ r e D p
  refine ha.goS (tb := fun vs H1 => vs.length ≤ 1000 ∧ ∀ a, H1 a = none → My.spXinit K (He.ga K C) ok fs (.ref a :: (vs ++ [])) (upd H1 a (exo a (He.ga K C) none)) _ _) r e p fun φ1 S1 H1 ds vs f1 r1 e1 hv p1 => ?_
  split at p1
  · rename_i ef hg
    obtain ⟨h0, hl, hk⟩ := G.of hg hv
    refine ⟨hl, fun a na => ⟨a, vs, by rw [List.append_nil], h0, upd_same, fun d H' nd da h1 h2 kp => ⟨rfl, d, fs vs, h1, h2, by
      rw [upd_ne da] at nd
      exact nd, ?_⟩⟩⟩
    have nd' : H1 d = none := by
      rw [upd_ne da] at nd
      exact nd
    have ex : Ex H1 (upd (del H' a) d (.xd (fs vs))) := fun b o hb => by
      have hba : b ≠ a := ne_of_none hb na
      have hbd : b ≠ d := ne_of_none hb nd'
      rw [upd_ne hbd, del_ne hba]
      exact kp b o hba (by rw [upd_ne hba]; exact hb)
    exact p1 φ1 _ σ d (fs vs) (Fut.ex ex) (r1.ex ex) (e1.fut (Fut.ex ex)).e upd_same (hk.fut (Fut.ex ex))
  · exact p1.elim
/-! ### try .. except -/
/-- what is known of the error that a suite holds -/
def WErr (W : Wc K) (a dd : Addr) (l : Nat) (ef : List (Str × D)) : Wc K := ⟨fun _ _ _ _ => False, fun φ n H => W.ctx φ n H ∧ φ l = a ∧ l < n ∧ ∃ fv, H dd = some (.xd fv) ∧ KR K φ n H ef fv, fun f ⟨h, h0, h3, fv, h1, h2⟩ => ⟨W.mono f h, (f.ag _ h3).trans h0, Nat.lt_of_lt_of_le h3 f.le, fv, f.xd _ _ h1, h2.fut f⟩⟩
/-- an error's field in its suite -/
def xErrF (C f : Str) (l : Nat) (ec : Str) (ef : List (Str × D)) (fe : Env → Sto → R D) : Env → Sto → R D := fun env S => (fe env S).bind fun x S1 => match x with
  | .ref k => if k = l ∧ ec = C then match ef.lookup f with
    | some d => .ok d S1
    | none => .bad
    else .bad
  | _ => .bad
theorem xErrF_ok {C f : Str} {l : Nat} {ef : List (Str × D)} {fe : Env → Sto → R D} {env : Env} {S1 : Sto} {d : D} (h : fe env S = .ok (.ref l) S1) (hd : ef.lookup f = some d) : xErrF C f l C ef fe env S = .ok d S1 := by simp [xErrF, h, hd]
theorem imp_errF {C f ec : Str} {ef : List (Str × D)} {a dd : Addr} {l : Nat} {te : TE} {fe : Env → Sto → R D} (he : Imp K (WErr W a dd l ef) (vr K) te fe) : Imp K (WErr W a dd l ef) (vr K) (tXf a (.ref (He.ga K ec)) (some dd) (He.ga K C) f te) (xErrF C f l ec ef fe) :=
  imp_bind (tb := fun x σ H1 (Q : VK) => x = .ref a ∧ (Value.ref (He.ga K ec)) = .ref (He.ga K C) ∧ ∃ (dd' : Addr) (fs : List (Str × V)) (v : V), some dd = some dd' ∧ H1 dd' = some (.xd fs) ∧ fs.lookup f = some v ∧ Q v H1) he fun φ S H env σ x v rl e hv Q p => by
    split at p
    · rename_i k
      split at p
      · rename_i hk
        obtain ⟨rfl, rfl⟩ := hk
        split at p
        · rename_i d hd
          obtain ⟨_, h0, _, fv, h1, h2⟩ := e.c
          obtain ⟨u, h3, h4⟩ := h2.lookup hd
          obtain ⟨_, rfl⟩ := VR.ref_inv hv
          exact ⟨by rw [h0], rfl, dd, fv, u, rfl, h1, h3, p.here rl h4⟩
        · exact p.elim
      · exact p.elim
    · exact p.elim
/-- isinstance(e, X) -/
def xIsE (C : Str) (b : Bool) (l : Nat) (ec : Str) (fe : Env → Sto → R D) : Env → Sto → R D := fun env S => (fe env S).bind fun x S1 => match x with
  | .ref k => if k = l ∧ ec = C then .ok (.bl b) S1 else .bad
  | _ => .bad
theorem xIsE_ok {C : Str} {b : Bool} {l : Nat} {fe : Env → Sto → R D} {env : Env} {S1 : Sto} (h : fe env S = .ok (.ref l) S1) : xIsE C b l C fe env S = .ok (.bl b) S1 := by simp [xIsE, h]
theorem imp_isE1 {C ec : Str} {b : Bool} {ef : List (Str × D)} {a dd : Addr} {l : Nat} {c : V} {cv : Value} {te : TE} {fe : Env → Sto → R D} (hc : ClsV c cv) (hk : PySem.W.kitOne K (.ref (He.ga K C)) cv = some b) (he : Imp K (WErr W a dd l ef) (vr K) te fe) :
    Imp K (WErr W a dd l ef) (vr K) (tCB (rIsX K (He.ga K C) a (.ref (He.ga K ec)) (some dd)) (tCons te (tCons (tC c) tNil))) (xIsE C b l ec fe) :=
  imp_bind (tb := fun (x : V) σ H1 (Q : VK) => rIsX K (He.ga K C) a (.ref (He.ga K ec)) (some dd) [x, c] H1 Q) he fun φ S H env σ x v rl e hv Q p => by
    split at p
    · rename_i k
      split at p
      · rename_i hk'
        obtain ⟨rfl, rfl⟩ := hk'
        obtain ⟨_, h0, _, fv, h1, h2⟩ := e.c
        obtain ⟨_, rfl⟩ := VR.ref_inv hv
        exact ⟨rfl, ⟨dd, fv, rfl, h1⟩, .inl ⟨c, cv, b, by rw [h0], hc, hk, p.here rl (VR.bl _)⟩⟩
      · exact p.elim
    · exact p.elim
theorem imp_isET {C ec : Str} {b : Bool} {ef : List (Str × D)} {a dd : Addr} {l : Nat} {cs : List V} {us : List Value} {te : TE} {ta : TA} {fe : Env → Sto → R D} (hc : Paired ClsV cs us) (hl : cs.length ≤ 100) (hta : ∀ σ H Q, Q cs H → ta σ H Q) (hk : PySem.W.kitAny K (.ref (He.ga K C)) us = some b)
    (he : Imp K (WErr W a dd l ef) (vr K) te fe) :
    Imp K (WErr W a dd l ef) (vr K) (tCB (rIsX K (He.ga K C) a (.ref (He.ga K ec)) (some dd)) (tCons te (tCons (tTup ta) tNil))) (xIsE C b l ec fe) :=
  imp_bind (tb := fun (x : V) σ H1 (Q : VK) => tTup ta σ H1 fun y H2 => rIsX K (He.ga K C) a (.ref (He.ga K ec)) (some dd) [x, y] H2 Q) he fun φ S H env σ x v rl e hv Q p => by
    split at p
    · rename_i k
      split at p
      · rename_i hk'
        obtain ⟨rfl, rfl⟩ := hk'
        obtain ⟨_, h0, _, fv, h1, h2⟩ := e.c
        obtain ⟨_, rfl⟩ := VR.ref_inv hv
        refine hta σ H _ ⟨sz_of (by omega), fun tp ht => ?_⟩
        have ex : Ex H (upd H tp (.tup cs)) := Ex.new ht
        exact ⟨rfl, ⟨dd, fv, rfl, ex _ _ h1⟩, .inr ⟨tp, cs, us, b, by rw [h0], upd_same, hc, hk, p.ex rl ex (VR.bl _)⟩⟩
      · exact p.elim
    · exact p.elim
def RS.unset (i : Nat) (r : RS) : RS := match r with
  | .nx e S => .nx (e.set i none) S
  | .bk e S => .bk (e.set i none) S
  | .ct e S => .ct (e.set i none) S
  | .ret d S => .ret d S
  | _ => .bad
@[simp] theorem unset_nx {i : Nat} {e : Env} : (RS.nx e S).unset i = .nx (e.set i none) S := rfl
@[simp] theorem unset_bk {i : Nat} {e : Env} : (RS.bk e S).unset i = .bk (e.set i none) S := rfl
@[simp] theorem unset_ct {i : Nat} {e : Env} : (RS.ct e S).unset i = .ct (e.set i none) S := rfl
@[simp] theorem unset_ret {i : Nat} {d : D} : (RS.ret d S).unset i = .ret d S := rfl
def CatOk (K : PySem.W.Frag) (cv : Value) (cat : List (Str × Bool)) : Prop := ∀ c b, cat.lookup c = some b → PySem.W.exmOne K (.ref (He.ga K c)) cv = some b
theorem cat_nil {cv : Value} : CatOk K cv [] := fun c b h => by cases h
theorem cat_cons {cv : Value} {c : Str} {b : Bool} {cat : List (Str × Bool)} (h : PySem.W.exmOne K (.ref (He.ga K c)) cv = some b) (r : CatOk K cv cat) : CatOk K cv ((c, b) :: cat) := fun c' b' h' => by
  rw [List.lookup_cons] at h'
  split at h'
  · rename_i hc
    cases h'
    rw [eq_of_beq hc]
    exact h
  · exact r c' b' h'
def tTryAs (K : PySem.W.Frag) (c : Value) (i : Nat) (tb : WX → TS) (ts : Addr → Value → Option Addr → TS) (Wout : WX) : TS := fun D σ H => tb (wAs K c i ts Wout D) D σ H
def tTryOnly (K : PySem.W.Frag) (c : Value) (tb : WX → TS) (ts : Addr → Value → Option Addr → TS) (Wout : WX) : TS := fun D σ H => tb (wOnly K c ts Wout D) D σ H
section
variable {X : Cx} {x n : Str} {c : Value} {i : Nat} {body suite : List Stmt} {b₀ : Stmt} {np pos pos' : Pos} {tb : WX → TS} {ts : Addr → Value → Option Addr → TS} {Wout : WX}
theorem ps_try_asK (K : PySem.W.Frag) (hs : X.stack = X.env :: X.outer) (hf : X.env.frame = some X.env.locals) (hN : X.N.Nodup) (hi : X.N[i]? = some n) (hln : X.env.kindOf n = some .local) (hc : Names X x c) (tk : Takes X Wout)
    (hb : ∀ (W : WX) (pn : List (Addr × Obj)) (xe : Value → Shared → Prop), Takes (X.tr pn xe) W → PassesOwn (model X.prog X.w) X.A X.env xe → PSs (X.tr pn xe) body (tb W))
    (hsu : ∀ (a : Addr) (oe : Obj) (cls : Value) (d : Option Addr) (pn : List (Addr × Obj)), Zc cls d oe → (∃ vs, oe.data = .fields vs) → PSs (X.suite a ((a, oe) :: pn)) (b₀ :: suite) (ts a cls d)) (hK : X.K = K := by rfl) :
    PS X (.Try body [.ExceptHandler (some (.Name x np)) (some n) (b₀ :: suite) pos'] [] [] pos) (tTryAs K c i tb ts Wout) := by
  subst hK
  exact ps_try_as hs hf hN hi hln hc tk hb hsu
theorem ps_try_onlyK (K : PySem.W.Frag) (hs : X.stack = X.env :: X.outer) (hf : X.env.frame = some X.env.locals) (hc : Names X x c) (tk : Takes X Wout)
    (hb : ∀ (W : WX) (pn : List (Addr × Obj)) (xe : Value → Shared → Prop), Takes (X.tr pn xe) W → PassesOwn (model X.prog X.w) X.A X.env xe → PSs (X.tr pn xe) body (tb W))
    (hsu : ∀ (a : Addr) (oe : Obj) (cls : Value) (d : Option Addr) (pn : List (Addr × Obj)), Zc cls d oe → (∃ vs, oe.data = .fields vs) → PSs (X.suite a ((a, oe) :: pn)) (b₀ :: suite) (ts a cls d)) (hK : X.K = K := by rfl) :
    PS X (.Try body [.ExceptHandler (some (.Name x np)) none (b₀ :: suite) pos'] [] [] pos) (tTryOnly K c tb ts Wout) := by
  subst hK
  exact ps_try_only hs hf hc tk hb hsu
end
def xTryAs (cat : List (Str × Bool)) (i : Nat) (fb : Env → Sto → RS) (fs : Nat → Str → List (Str × D) → Env → Sto → RS) : Env → Sto → RS := fun env S => match fb env S with
  | .exc c ef e S1 => match cat.lookup c with
    | some true => (fs S1.length c ef (e.set i (some (.ref S1.length))) (S1 ++ [.opq])).unset i
    | some false => .exc c ef e S1
    | none => .bad
  | r => r
theorem imp_tryAs {cv : Value} {cat : List (Str × Bool)} {i : Nat} {tb : WX → TS} {ts : Addr → Value → Option Addr → TS} {fb : Env → Sto → RS} {fs : Nat → Str → List (Str × D) → Env → Sto → RS} (hcat : CatOk K cv cat)
    (hb : ∀ wx, ImpS K ⟨wx, W.ctx, W.mono⟩ (tb wx) fb) (hs : ∀ a dd l ec ef, ImpS K (WErr W a dd l ef) (ts a (.ref (He.ga K ec)) (some dd)) (fs l ec ef)) :
    ImpS K W (tTryAs K cv i tb ts W.wx) (xTryAs cat i fb fs) := by
  intro φ S H env σ r e D p
  refine hb (wAs K cv i ts W.wx D) φ S H env σ r ⟨e.e, e.c⟩ D ?_
  unfold xTryAs at p
  cases hf : fb env S with
  | nx e1 S1 => rw [hf] at p; exact p
  | ret d S1 => rw [hf] at p; exact p
  | bk e1 S1 => rw [hf] at p; exact p
  | ct e1 S1 => rw [hf] at p; exact p
  | bad => rw [hf] at p; exact p
  | exc c ef e1 S1 =>
    rw [hf] at p
    dsimp only at p
    intro φ' H' σ' dd fv f r' er hd hk
    split at p
    · rename_i hl
      refine ⟨true, hcat _ _ hl, fun _ a na => ?_, fun z => by cases z⟩
      have f2 : Fut K φ' S1.length H' (nxt φ' S1.length a) (S1 ++ [O.opq]).length H' := by
        rw [List.length_append]
        exact Fut.newO
      have hr := VR.ref (K := K) (φ := nxt φ' S1.length a) (n := (S1 ++ [O.opq]).length) (H := H') (l := S1.length) (by simp)
      rw [nxt_at] at hr
      refine hs a dd S1.length c ef _ _ H' _ _ (r'.newO a) ⟨(er.fut f2).set i hr, W.mono (f.trans f2) e.c, nxt_at, by simp, fv, hd, hk.fut f2⟩ _ ?_
      have p2 := p.fut (f.trans f2)
      revert p2
      cases fs S1.length c ef (e1.set i (some (.ref S1.length))) (S1 ++ [O.opq]) with
      | nx e2 S2 => exact fun p2 φ2 H2 σ2 g2 r2 er2 => p2 φ2 H2 _ g2 r2 (er2.unset none i)
      | bk e2 S2 => exact fun p2 φ2 H2 σ2 g2 r2 er2 => p2 φ2 H2 _ g2 r2 (er2.unset none i)
      | ct e2 S2 => exact fun p2 φ2 H2 σ2 g2 r2 er2 => p2 φ2 H2 _ g2 r2 (er2.unset none i)
      | ret d2 S2 => exact fun p2 => p2
      | exc c2 ef2 e2 S2 => exact fun p2 => p2.elim
      | bad => exact fun p2 => p2.elim
    · rename_i hl
      refine ⟨false, hcat _ _ hl, ?_, ?_⟩
      · intro z
        cases z
      · exact fun _ => p φ' H' σ' dd fv f r' er hd hk
    · exact p.elim
def RS.noexc (r : RS) : RS := match r with
  | .exc _ _ _ _ => .bad
  | r => r
def xTryOnly (cat : List (Str × Bool)) (fb fs : Env → Sto → RS) : Env → Sto → RS := fun env S => match fb env S with
  | .exc c ef e S1 => match cat.lookup c with
    | some true => (fs e S1).noexc
    | some false => .exc c ef e S1
    | none => .bad
  | r => r
theorem imp_tryOnly {cv : Value} {cat : List (Str × Bool)} {tb : WX → TS} {ts : Addr → Value → Option Addr → TS} {fb fs : Env → Sto → RS} (hcat : CatOk K cv cat)
    (hb : ∀ wx, ImpS K ⟨wx, W.ctx, W.mono⟩ (tb wx) fb) (hs : ∀ a cls d, ImpS K ⟨fun _ _ _ _ => False, W.ctx, W.mono⟩ (ts a cls d) fs) :
    ImpS K W (tTryOnly K cv tb ts W.wx) (xTryOnly cat fb fs) := by
  intro φ S H env σ r e D p
  refine hb (wOnly K cv ts W.wx D) φ S H env σ r ⟨e.e, e.c⟩ D ?_
  unfold xTryOnly at p
  cases hf : fb env S with
  | nx e1 S1 => rw [hf] at p; exact p
  | ret d S1 => rw [hf] at p; exact p
  | bk e1 S1 => rw [hf] at p; exact p
  | ct e1 S1 => rw [hf] at p; exact p
  | bad => rw [hf] at p; exact p
  | exc c ef e1 S1 =>
    rw [hf] at p
    dsimp only at p
    intro φ' H' σ' dd fv f r' er hd hk
    split at p
    · rename_i hl
      refine ⟨true, hcat _ _ hl, fun _ a na => ?_, fun z => by cases z⟩
      refine hs a _ _ _ _ H' _ _ r' ⟨er, W.mono f e.c⟩ _ ?_
      have p2 := p.fut f
      revert p2
      cases fs e1 S1 with
      | exc c2 ef2 e2 S2 => exact fun p2 => p2.elim
      | _ => exact fun p2 => p2
    · rename_i hl
      refine ⟨false, hcat _ _ hl, ?_, ?_⟩
      · intro z
        cases z
      · exact fun _ => p φ' H' σ' dd fv f r' er hd hk
    · exact p.elim
/-! .. where no error is awaited -/
theorem ImpS.noexc {t : TS} {f : Env → Sto → RS} (h : ImpS K ⟨fun _ _ _ _ => False, W.ctx, W.mono⟩ t f) : ImpS K W t fun env S => (f env S).noexc := by
  intro φ S H env σ r e D p
  refine h φ S H env σ r ⟨e.e, e.c⟩ D ?_
  dsimp only at p
  revert p
  cases f env S with
  | exc c ef e1 S1 => exact fun p => p.elim
  | _ => exact fun p => p
def xTryAs0 (cat : List (Str × Bool)) (i : Nat) (fb : Env → Sto → RS) (fs : Nat → Str → List (Str × D) → Env → Sto → RS) : Env → Sto → RS := fun env S => (xTryAs cat i fb fs env S).noexc
theorem imp_tryAs0 {cv : Value} {cat : List (Str × Bool)} {i : Nat} {tb : WX → TS} {ts : Addr → Value → Option Addr → TS} {fb : Env → Sto → RS} {fs : Nat → Str → List (Str × D) → Env → Sto → RS} (hcat : CatOk K cv cat)
    (hb : ∀ wx, ImpS K ⟨wx, W.ctx, W.mono⟩ (tb wx) fb) (hs : ∀ a dd l ec ef, ImpS K (WErr W a dd l ef) (ts a (.ref (He.ga K ec)) (some dd)) (fs l ec ef)) :
    ImpS K W (tTryAs K cv i tb ts fun _ _ _ _ => False) (xTryAs0 cat i fb fs) := ImpS.noexc (imp_tryAs (W := ⟨fun _ _ _ _ => False, W.ctx, W.mono⟩) hcat hb hs)
def xTryOnly0 (cat : List (Str × Bool)) (fb fs : Env → Sto → RS) : Env → Sto → RS := fun env S => (xTryOnly cat fb fs env S).noexc
theorem imp_tryOnly0 {cv : Value} {cat : List (Str × Bool)} {tb : WX → TS} {ts : Addr → Value → Option Addr → TS} {fb fs : Env → Sto → RS} (hcat : CatOk K cv cat)
    (hb : ∀ wx, ImpS K ⟨wx, W.ctx, W.mono⟩ (tb wx) fb) (hs : ∀ a cls d, ImpS K ⟨fun _ _ _ _ => False, W.ctx, W.mono⟩ (ts a cls d) fs) :
    ImpS K W (tTryOnly K cv tb ts fun _ _ _ _ => False) (xTryOnly0 cat fb fs) := ImpS.noexc (imp_tryOnly (W := ⟨fun _ _ _ _ => False, W.ctx, W.mono⟩) hcat hb hs)
end
end Mi

namespace Mi
open PySem PySem.Spec PyProof.Rows L2 Evl My
/-! ### text * int -/
def strRepS (x : Str) (n : Int) : Str := if n < 1 then Str.empty else if (n == 1 || x.length == 0) = true then x else ⟨(List.replicate n.toNat x.cps).foldl (· ++ ·) #[]⟩
def rMulS : R2 := fun x y H Q => ∃ (a : Str) (n : Int), x = .str a ∧ y = .int n ∧ a.length ≤ 1000 ∧ -1000 ≤ n ∧ n ≤ 1000 ∧ Q (.str (strRepS a n)) H
theorem op_mulS {X : Cx} : OpR X (binaryOp .Mult) rMulS := by
  intro pins s σ H x y v u Q I rx ry h
  obtain ⟨a, n, rfl, rfl, h1, h2, h3, q⟩ := h
  obtain ⟨t, rfl⟩ := rx
  obtain ⟨t', rfl⟩ := ry
  have hm : a.length * n.toNat ≤ 1000 * 1000 := Nat.mul_le_mul h1 (by omega)
  have hlen : Builtin.Str.tooLong (a.length * n.toNat) = false := decide_eq_false (by rw [sizeLine_eq]; omega)
  refine P.mul_str (by
    have e1 : ¬ n < -(2 ^ 63 : Int) := by omega
    have e2 : ¬ n ≥ 2 ^ 63 := by omega
    rw [decide_eq_false e1, decide_eq_false e2]; rfl) (fun hn _ => ?_) (fun _ _ => hlen) ?_
  · have : (1000 : Int) ≤ (2 ^ 63 - 1) / n := by
      rw [Int.le_ediv_iff_mul_le (by omega)]
      omega
    omega
  · unfold strRepS at q
    split
    · rename_i hn
      rw [if_pos hn] at q
      exact ⟨by decide, .str _, H, I.tok _, ⟨_, rfl⟩, q⟩
    · rename_i hn
      rw [if_neg hn] at q
      split
      · rename_i hn1
        rw [if_pos hn1] at q
        exact ⟨.str _, H, I, ⟨_, rfl⟩, q⟩
      · rename_i hn1
        rw [if_neg hn1] at q
        exact ⟨fits_reps hlen, .str _, H, I.tok _, ⟨_, rfl⟩, q⟩
section
variable {K : PySem.W.Frag} {φ φ1 φ' : Nat → Addr} {n n1 n' : Nat} {H H1 H' : Hp} {X : XK} {W : Wc K} {S : Sto} {α β γ δ : Type} {ρ : Rl α β}
def oMulS : D → D → Sto → R D := fun x y S => match x, y with
  | .str a, .int n => if a.length ≤ 1000 ∧ -1000 ≤ n ∧ n ≤ 1000 then .ok (.str (strRepS a n)) S else .bad
  | _, _ => .bad
theorem oMulS_eq {a : Str} {n : Int} (h : a.length ≤ 1000) (h1 : -1000 ≤ n) (h2 : n ≤ 1000) : oMulS (.str a) (.int n) S = .ok (.str (strRepS a n)) S := by simp [oMulS, h, h1, h2]
theorem opi_mulS : OpI K rMulS oMulS := by
  intro φ S H x y v w X r hx hy Q p
  unfold oMulS at p
  split at p
  · split at p
    · rename_i hc
      cases hx; cases hy
      exact ⟨_, _, rfl, rfl, hc.1, hc.2.1, hc.2.2, p.here r (VR.str _)⟩
    · exact p.elim
  · exact p.elim
/-! ### list(a dict), list(range(..)) -/
def keyOf : Key → D
  | .inl i => .int i
  | .inr s => .str s
theorem keyOf_vr (k : Key) : VR K φ n H (keyOf k) (kV k) := by
  cases k with
  | inl i => exact .int i
  | inr s => exact .str s
def rListDk : List V → Hp → VK → Prop := fun xs H Q => ∃ (a : Addr) (kvs : List (Key × V)), xs = [.ref a] ∧ Rd H a (.dK kvs) ∧ ∀ p, H p = none → Q (.ref p) (upd H p (.lst (kvs.map fun kv => kV kv.1)))
def bListD : List D → Sto → R D := fun ds S => match ds with
  | [.ref l] => match at_ S l with
    | some (.dK kvs) => .ok (.ref S.length) (S ++ [.lst (kvs.map fun kv => keyOf kv.1)])
    | _ => .bad
  | _ => .bad
theorem bListD_eq {l : Nat} {kvs : List (Key × D)} (h : at_ S l = some (.dK kvs)) : bListD [.ref l] S = .ok (.ref S.length) (S ++ [.lst (kvs.map fun kv => keyOf kv.1)]) := by simp [bListD, h]
theorem KR.keysV : ∀ {kvs : List (Key × D)} {kws : List (Key × V)}, KR K φ n H kvs kws → VRs K φ' n' H' (kvs.map fun kv => keyOf kv.1) (kws.map fun kv => kV kv.1)
  | _, _, .nil => .nil
  | _, _, .cons _ t => .cons (keyOf_vr _) (KR.keysV t)
theorem cbi_listD : CallI K rListDk bListD := by
  intro φ S H ds vs X r h Q p
  unfold bListD at p
  split at p
  · split at p
    · rename_i l _ kvs e
      obtain ⟨v, rfl, hv⟩ := h.one_inv
      obtain ⟨_, rfl⟩ := hv.ref_inv
      obtain ⟨kws, q1, q2⟩ := r.ob _ _ e
      exact ⟨_, kws, rfl, .inl q1, fun a ha => p.new r ha ⟨_, upd_same, q2.keysV⟩⟩
    · exact p.elim
  · exact p.elim
open Classical in
noncomputable def mkRg (a b : Int) (S : Sto) : R D := if RgOk a b then .ok (.ref S.length) (S ++ [.lst (rngD a (b - a).toNat)]) else .bad
theorem mkRg_eq {a b : Int} (h : RgOk a b) : mkRg a b S = .ok (.ref S.length) (S ++ [.lst (rngD a (b - a).toNat)]) := by simp [mkRg, h]
theorem vr_rg {a : Int} : ∀ {l : List Nat}, VRs K φ n H (l.map fun (i : Nat) => D.int (a + (i : Int))) (l.map fun (i : Nat) => V.int (a + (i : Int)))
  | [] => .nil
  | _ :: r => .cons (.int _) (vr_rg (l := r))
theorem Post.mkRg {a b : Int} {Q : VK} (r : Rel K φ S H) (p : Post K (vr K) φ S.length H X (mkRg a b S) Q) : RgOk a b ∧ ∀ q, H q = none → Q (.ref q) (upd H q (.lst (rgV a b))) := by
  unfold Mi.mkRg at p
  split at p
  · rename_i ok
    exact ⟨ok, fun q hq => p.new r hq ⟨_, upd_same, vr_rg⟩⟩
  · exact p.elim
noncomputable def xLRg1 (fa : Env → Sto → R D) : Env → Sto → R D := fun env S => (fa env S).bind fun x S1 => match x with
  | .int b => mkRg 0 b S1
  | _ => .bad
theorem imp_lrg1 {ta : TE} {fa : Env → Sto → R D} (ha : Imp K W (vr K) ta fa) : Imp K W (vr K) (tLstRg (tRg1 ta)) (xLRg1 fa) :=
  imp_bind (tb := fun (x : V) σ H1 (Q : VK) => ∃ m, x = .int m ∧ (RgOk 0 m ∧ ∀ q, H1 q = none → Q (.ref q) (upd H1 q (.lst (rgV 0 m))))) ha fun φ S H env σ x v rl e hv Q p => by
    split at p
    · cases VR.int_inv hv
      exact ⟨_, rfl, Post.mkRg rl p⟩
    · exact p.elim
noncomputable def xLRg2 (fa fb : Env → Sto → R D) : Env → Sto → R D := fun env S => (fa env S).bind fun x S1 => (fb env S1).bind fun y S2 => match x, y with
  | .int a, .int b => mkRg a b S2
  | _, _ => .bad
theorem imp_lrg2 {ta tb : TE} {fa fb : Env → Sto → R D} (ha : Imp K W (vr K) ta fa) (hb : Imp K W (vr K) tb fb) : Imp K W (vr K) (tLstRg (tRg2 ta tb)) (xLRg2 fa fb) :=
  imp_bind (tb := fun (x : V) σ H1 (Q : VK) => tb σ H1 fun y H2 => ∃ i j, x = .int i ∧ y = .int j ∧ (RgOk i j ∧ ∀ q, H2 q = none → Q (.ref q) (upd H2 q (.lst (rgV i j))))) ha fun φ S H env σ x v rl e hv Q p => hb.go rl e p fun φ1 S1 H1 y w f1 r1 e1 hw p1 => by
    split at p1
    · cases VR.int_inv hv
      cases VR.int_inv hw
      exact ⟨_, _, rfl, rfl, Post.mkRg r1 p1⟩
    · exact p1.elim
/-! ### slices and sums of tuples -/
def oSlT : D → Option Int → Option Int → Sto → R D := fun x lo hi S => match x with
  | .tup xs => if ¬ (HT.sIx xs.length 0 lo = 0 ∧ HT.sIx xs.length xs.length hi = xs.length) then .ok (.tup (cutX xs lo hi)) S else .bad
  | _ => .bad
theorem sli_T : SlI K (rSlT K) oSlT := by
  intro φ S H x v lo hi X r hx Q p
  unfold oSlT at p
  split at p
  · split at p
    · rename_i xs hc
      obtain ⟨a, vs, rfl, q1, q2⟩ := hx.tup_inv
      refine ⟨a, vs, rfl, q1, ?_, fun b hb => ?_⟩
      · rw [q2.len]; exact hc
      · exact p.tup r hb q2.cut
    · exact p.elim
  · exact p.elim
end
end Mi
namespace My
open PySem PySem.Spec PyProof.Rows L2 Evl
theorem pe_bmK {X : Cx} {T name id : String} {r : V → List V → Hp → VK → Prop} {o e : Expr} {es : List Expr} {to : TE} {t : TA} {apos cpos : Pos} (K : PySem.W.Frag) (pa : PlainAttrs T) (slot : Slot T name id) (hty : typeOf (.builtin id) = pure (.type "method_descriptor")) (hm : MtR X id r) (ho : PE X o to) (ha : PA X (e :: es) t)
    (hK : X.K = K := by rfl)
    (hbase : attributeBase o name X.env (eval o X.env) = eval o X.env := by rfl)
    (hfew : ((backTo cpos (starEach (e :: es) X.env)).all (fun x => !x.1) && (backToKw cpos (keywordEach [] X.env)).all (fun x => x.1.isSome)
      && decide ((e :: es).length + ([] : List Keyword).length + (if ([] : List Keyword).isEmpty then 0 else 1) < 30)) = true := by rfl)
    (hline : (apos.endLine == cpos.line) = true := by rfl) (hs : starEach (e :: es) X.env = (false, eval e X.env) :: starEach es X.env := by rfl) (hplain : (backTo cpos (starEach es X.env)).any (·.1) = false := by rfl) :
    PE X (.Call (.Attribute o name apos) (e :: es) [] cpos) (tBM K T r to t) := by
  subst hK
  exact pe_bm pa slot hty hm ho ha hbase hfew hline hs hplain
/-- e.f, isinstance(e, ..) in a suite, the context left open -/
theorem pe_xfS {Y : Cx} (a : Addr) (K : PySem.W.Frag) {C : Addr} {oe : Obj} {cls : Value} {d : Option Addr} {e : Expr} {te : TE} {pos : Pos} {n : Str} (T : XcC K C) (hno : PySem.W.findIn K (.ref C) n = some none)
    (hz : Zc cls d oe) (hf : ∃ vs, oe.data = .fields vs) (he : PE Y e te) (hY : ∃ (X : Cx) (pn : List (Addr × Obj)), X.K = K ∧ Y = X.suite a ((a, oe) :: pn) := by exact ⟨_, _, rfl, rfl⟩) (hb : attributeBase e n Y.env (eval e Y.env) = eval e Y.env := by rfl) :
    PE Y (.Attribute e n pos) (tXf a cls d C n te) := by
  obtain ⟨X, pn, hK, rfl⟩ := hY
  exact pe_xfK K T hno hz hf he hK hb
theorem call_isS {Y : Cx} (a : Addr) (K : PySem.W.Frag) {D : Addr} {oe : Obj} {cls : Value} {d : Option Addr} (C : XcC K D) (hz : Zc cls d oe) (hf : ∃ vs, oe.data = .fields vs) (hY : ∃ (X : Cx) (pn : List (Addr × Obj)), X.K = K ∧ Y = X.suite a ((a, oe) :: pn) := by exact ⟨_, _, rfl, rfl⟩) :
    CallR Y (.builtin "isinstance") (rIsX K D a cls d) := by
  obtain ⟨X, pn, hK, rfl⟩ := hY
  exact call_isX K C hz hf hK
end My

namespace Mi
open PySem PySem.Spec PyProof.Rows L2 Evl My
/-! ### what is left to be shown, from left to right. The continuations are instances, so that simp leaves them alone until they are reached -/
class Cn (α : Type) where
  k : α → Sto → Prop
  x : Str → List (Str × D) → Sto → Prop
class Ck where
  n : Env → Sto → Prop
  q : RS → Prop
def wpe {α : Type} (r : R α) [K : Cn α] : Prop := match r with
  | .ok a S => K.k a S
  | .exc c fs S => K.x c fs S
  | .bad => False
def wps (r : RS) [K : Ck] : Prop := match r with
  | .nx e S => K.n e S
  | .bad => False
  | r => K.q r
def noX : Str → List (Str × D) → Sto → Prop := fun _ _ _ => False
section
variable {α β : Type} {S S' : Sto} {env : Env}
theorem cn_k {f : α → Sto → Prop} {x : Str → List (Str × D) → Sto → Prop} {a : α} : Cn.k (self := ⟨f, x⟩) a S = f a S := rfl
theorem cn_x {f : α → Sto → Prop} {x : Str → List (Str × D) → Sto → Prop} {c : Str} {fs : List (Str × D)} : Cn.x α (self := ⟨f, x⟩) c fs S = x c fs S := rfl
theorem cx_n {f : Env → Sto → Prop} {q : RS → Prop} : Ck.n (self := ⟨f, q⟩) env S = f env S := rfl
theorem cx_q {f : Env → Sto → Prop} {q : RS → Prop} {r : RS} : Ck.q (self := ⟨f, q⟩) r = q r := rfl
theorem wpe_ret {K : Cn α} {a : α} : wpe (.ok a S) = K.k a S := rfl
theorem wpe_exc {K : Cn α} {c : Str} {fs : List (Str × D)} : wpe (α := α) (.exc c fs S) = K.x c fs S := rfl
theorem wpe_bind {K : Cn β} {r : R α} {g : α → Sto → R β} : wpe (r.bind g) = wpe (K := ⟨fun a S => wpe (g a S), K.x⟩) r := by cases r <;> rfl
theorem wps_nx {K : Ck} {e : Env} : wps (.nx e S) = K.n e S := rfl
theorem wps_ret {K : Ck} {d : D} : wps (.ret d S) = K.q (.ret d S) := rfl
theorem wps_bk {K : Ck} {e : Env} : wps (.bk e S) = K.q (.bk e S) := rfl
theorem wps_ct {K : Ck} {e : Env} : wps (.ct e S) = K.q (.ct e S) := rfl
theorem wps_exc {K : Ck} {c : Str} {fs : List (Str × D)} {e : Env} : wps (.exc c fs e S) = K.q (.exc c fs e S) := rfl
theorem wps_bindS {K : Ck} {r : R α} {g : α → Sto → RS} : wps (r.bindS env g) = wpe (K := ⟨fun a S => wps (g a S), fun c fs S => K.q (.exc c fs env S)⟩) r := by cases r <;> rfl
theorem wps_seq {K : Ck} {r : RS} {g : Env → Sto → RS} : wps (r.seq g) = wps (K := ⟨fun e S => wps (g e S), K.q⟩) r := by cases r <;> rfl
theorem wps_xSeq {K : Ck} {f g : Env → Sto → RS} : wps (xSeq f g env S) = wps (K := ⟨fun e S => wps (g e S), K.q⟩) (f env S) := wps_seq
theorem wps_toS {K : Ck} {r : R Env} : wps (toS r) = wpe (K := ⟨fun e S => K.n e S, noX⟩) r := by cases r <;> rfl
theorem wpe_nox {K : Cn α} {r : R α} : wpe (nox r) = wpe (K := ⟨K.k, noX⟩) r := by cases r <;> rfl
/-- what a def's end asks -/
def defQ (K : Cn D) : RS → Prop
  | .ret d S => K.k d S
  | .exc c fs _ S => K.x c fs S
  | _ => False
theorem defQ_ret {K : Cn D} {d : D} : defQ K (.ret d S) = K.k d S := rfl
theorem defQ_exc {K : Cn D} {c : Str} {fs : List (Str × D)} {e : Env} : defQ K (.exc c fs e S) = K.x c fs S := rfl
theorem wpe_def {K : Cn D} {m k : Nat} {f : Env → Sto → RS} {ds : List D} (h : ds.length = m) (w : wps (K := ⟨fun _ S => K.k .non S, defQ K⟩) (f (ds.map some ++ List.replicate k none) S)) : wpe (defX m k f ds S) := by
  unfold defX
  rw [if_pos h]
  cases hf : f (ds.map some ++ List.replicate k none) S <;> rw [hf] at w <;> first | exact w | exact w.elim
/-- what a call promises -/
def Ok {α : Type} (r : R α) (P : α → Sto → Prop) : Prop := wpe (K := ⟨P, noX⟩) r
theorem Ok.ex {r : R α} {P : α → Sto → Prop} (h : Ok r P) : ∃ a S, r = .ok a S ∧ P a S := by
  cases r with
  | ok a S => exact ⟨a, S, rfl, h⟩
  | exc c fs S => exact h.elim
  | bad => exact h.elim
theorem Ok.of {r : R α} {P : α → Sto → Prop} (h : ∃ a S, r = .ok a S ∧ P a S) : Ok r P := by
  obtain ⟨a, S, rfl, h⟩ := h
  exact h
theorem wpe_k {K : Cn α} {r : R α} {P : α → Sto → Prop} (h : Ok r P) (k : ∀ a S, P a S → K.k a S) : wpe r := by
  obtain ⟨a, S, rfl, h⟩ := h.ex
  exact k a S h
theorem Ok.mono {r : R α} {P P' : α → Sto → Prop} (h : Ok r P) (k : ∀ a S, P a S → P' a S) : Ok r P' := wpe_k (K := ⟨P', noX⟩) h k
/-- a statement's promise -/
theorem wps_k {K : Ck} {r : RS} {N : Env → Sto → Prop} {Q : RS → Prop} (h : wps (K := ⟨N, Q⟩) r) (k : ∀ e S, N e S → K.n e S) (q : ∀ r, Q r → K.q r) : wps r := by
  cases r with
  | nx e S => exact k e S h
  | bad => exact h.elim
  | ret d S => exact q _ h
  | bk e S => exact q _ h
  | ct e S => exact q _ h
  | exc c fs e S => exact q _ h
theorem wps_if {K : Ck} {ft : Env → Sto → R Bool} {f g : Env → Sto → RS} : wps (xIfS ft f g env S) = wpe (K := ⟨fun b S1 => wps (if b = true then f env S1 else g env S1), fun c fs S => K.q (.exc c fs env S)⟩) (ft env S) := wps_bindS
/-! ### chunks of the store -/
structure Asn where
  h : Sto → List Nat → Prop
  loc : ∀ S S' F, h S F → (∀ l ∈ F, at_ S' l = at_ S l) → h S' F
def pt (l : Nat) (o : O) : Asn := ⟨fun S F => F = [l] ∧ at_ S l = some o, fun S S' F h e => ⟨h.1, by rw [e l (by rw [h.1]; simp)]; exact h.2⟩⟩
/-- a list that is only read -/
def rl (l : Nat) (xs : List D) : Asn := ⟨fun S F => F = [l] ∧ rdL S l = some xs, fun S S' F h e => ⟨h.1, rdL_of_at (e l (by rw [h.1]; simp)) h.2⟩⟩
def pu (p : Prop) : Asn := ⟨fun _ F => F = [] ∧ p, fun _ _ _ h _ => h⟩
def exA {α : Type} (A : α → Asn) : Asn := ⟨fun S F => ∃ x, (A x).h S F, fun S S' F ⟨x, h⟩ e => ⟨x, (A x).loc S S' F h e⟩⟩
def HsF : List Asn → Sto → List Nat → Prop
  | [], _, F => F = []
  | A :: As, S, F => ∃ F1 F2, F = F1 ++ F2 ∧ A.h S F1 ∧ HsF As S F2
theorem HsF.loc : ∀ {As : List Asn} {S S' : Sto} {F : List Nat}, HsF As S F → (∀ l ∈ F, at_ S' l = at_ S l) → HsF As S' F
  | [], _, _, _, h, _ => h
  | A :: As, S, S', F, ⟨F1, F2, e, h1, h2⟩, q => ⟨F1, F2, e, A.loc S S' F1 h1 (fun l hl => q l (by rw [e]; exact List.mem_append_left _ hl)), HsF.loc h2 (fun l hl => q l (by rw [e]; exact List.mem_append_right _ hl))⟩
def bun (As : List Asn) : Asn := ⟨HsF As, fun _ _ _ h e => h.loc e⟩
def Hs (As : List Asn) (S : Sto) : Prop := ∃ F, HsF As S F ∧ F.Nodup ∧ ∀ l ∈ F, l < S.length
theorem HsF.app : ∀ {As Bs : List Asn} {S : Sto} {F : List Nat}, HsF (As ++ Bs) S F ↔ ∃ F1 F2, F = F1 ++ F2 ∧ HsF As S F1 ∧ HsF Bs S F2
  | [], Bs, S, F => ⟨fun h => ⟨[], F, rfl, rfl, h⟩, fun ⟨F1, F2, e, h1, h2⟩ => by cases h1; rw [e]; exact h2⟩
  | A :: As, Bs, S, F => ⟨fun ⟨F1, F2, e, h1, h2⟩ => by
      obtain ⟨G1, G2, e', h3, h4⟩ := HsF.app.mp h2
      exact ⟨F1 ++ G1, G2, by rw [e, e', List.append_assoc], ⟨F1, G1, rfl, h1, h3⟩, h4⟩, fun ⟨F1, F2, e, ⟨G1, G2, e', h1, h2⟩, h3⟩ => ⟨G1, G2 ++ F2, by rw [e, e', List.append_assoc], h1, HsF.app.mpr ⟨G2, F2, rfl, h2, h3⟩⟩⟩
theorem HsF.up : ∀ {As : List Asn} {i : Nat} {A : Asn} {S : Sto} {F : List Nat}, HsF As S F → As[i]? = some A → ∃ F', F'.Perm F ∧ HsF (A :: As.eraseIdx i) S F'
  | [], _, _, _, _, _, e => by simp at e
  | B :: As, 0, A, S, F, h, e => by
    cases e
    exact ⟨F, .refl _, h⟩
  | B :: As, i + 1, A, S, F, ⟨F1, F2, e1, h1, h2⟩, e => by
    obtain ⟨F', p, G1, G2, e', h3, h4⟩ := HsF.up (As := As) (i := i) h2 e
    refine ⟨G1 ++ (F1 ++ G2), ?_, G1, F1 ++ G2, rfl, h3, F1, G2, rfl, h1, h4⟩
    rw [e1]
    refine List.Perm.trans ?_ (List.Perm.append_left F1 p)
    rw [e', ← List.append_assoc, ← List.append_assoc]
    exact List.Perm.append_right G2 List.perm_append_comm
variable {As Bs : List Asn} {A : Asn} {l i : Nat} {o o' : O} {xs : List D}
/-- the i-th one to the front -/
theorem Hs.up (i : Nat) (h : Hs As S) (e : As[i]? = some A := by rfl) : Hs (A :: As.eraseIdx i) S := by
  obtain ⟨F, h1, h2, h3⟩ := h
  obtain ⟨F', p, q⟩ := h1.up e
  exact ⟨F', q, p.nodup_iff.mpr h2, fun l hl => h3 l (p.mem_iff.mp hl)⟩
theorem Hs.drop (h : Hs (A :: As) S) : Hs As S := by
  obtain ⟨F, ⟨F1, F2, e, h1, h2⟩, n, b⟩ := h
  subst e
  exact ⟨F2, h2, (List.nodup_append.mp n).2.1, fun l hl => b l (List.mem_append_right _ hl)⟩
theorem Hs.lt (h : Hs (pt l o :: As) S) : l < S.length := by
  obtain ⟨F, ⟨F1, F2, e, h1, h2⟩, n, b⟩ := h
  exact at_lt h1.2
theorem Hs.at0 (h : Hs (pt l o :: As) S) : at_ S l = some o := by
  obtain ⟨F, ⟨F1, F2, e, h1, h2⟩, n, b⟩ := h
  exact h1.2
theorem Hs.rd0 (h : Hs (rl l xs :: As) S) : rdL S l = some xs := by
  obtain ⟨F, ⟨F1, F2, e, h1, h2⟩, n, b⟩ := h
  exact h1.2
theorem Hs.at (i : Nat) (h : Hs As S) (e : As[i]? = some (pt l o) := by rfl) : at_ S l = some o := (h.up i e).at0
theorem Hs.rd (i : Nat) (h : Hs As S) (e : As[i]? = some (rl l xs) := by rfl) : rdL S l = some xs := (h.up i e).rd0
theorem Hs.rp (i : Nat) (h : Hs As S) (e : As[i]? = some (pt l (.lst xs)) := by rfl) : rdL S l = some xs := rdL_lst (h.at i e)
theorem Hs.ins {C : Str} {fs : List (Str × D)} (i : Nat) (h : Hs As S) (e : As[i]? = some (pt l (.ins C fs)) := by rfl) : insX S C (.ref l) = some (l, fs) := insX_eq (h.at i e)
theorem Hs.fr (h : Hs As S) (le : S.length ≤ S'.length) (q : ∀ F, HsF As S F → ∀ l ∈ F, at_ S' l = at_ S l) : Hs As S' := by
  obtain ⟨F, h1, n, b⟩ := h
  exact ⟨F, h1.loc (q F h1), n, fun l hl => Nat.lt_of_lt_of_le (b l hl) le⟩
theorem Hs.app (h : Hs As S) {T : Sto} : Hs As (S ++ T) := by
  obtain ⟨F, h1, n, b⟩ := h
  exact ⟨F, h1.loc (fun l hl => at_app_lt (b l hl)), n, fun l hl => by rw [List.length_append]; exact Nat.lt_of_lt_of_le (b l hl) (Nat.le_add_right _ _)⟩
theorem Hs.new (h : Hs As S) : Hs (pt S.length o :: As) (S ++ [o]) := by
  obtain ⟨F, h1, n, b⟩ := h
  refine ⟨S.length :: F, ⟨[S.length], F, rfl, ⟨rfl, at_new⟩, h1.loc (fun l hl => at_app_lt (b l hl))⟩, List.nodup_cons.mpr ⟨fun z => Nat.lt_irrefl _ (b _ z), n⟩, fun l hl => ?_⟩
  rw [List.length_append]
  rcases List.mem_cons.mp hl with rfl | hl
  · exact Nat.lt_succ_self _
  · exact Nat.lt_succ_of_lt (b l hl)
theorem Hs.set (h : Hs (pt l o :: As) S) : Hs (pt l o' :: As) (S.set l o') := by
  obtain ⟨F, ⟨F1, F2, e, h1, h2⟩, n, b⟩ := h
  subst e
  obtain ⟨rfl, h1⟩ := h1
  refine ⟨[l] ++ F2, ⟨[l], F2, rfl, ⟨rfl, at_set_eq (at_lt h1)⟩, h2.loc (fun k hk => at_set_ne fun z => ?_)⟩, n, fun k hk => by rw [List.length_set]; exact b k hk⟩
  subst z
  exact (List.nodup_cons.mp n).1 hk
theorem Hs.ne0 (h : Hs (pt l o :: pt i o' :: As) S) : l ≠ i := by
  obtain ⟨F, ⟨F1, F2, e, ⟨e1, h1⟩, ⟨F3, F4, e2, ⟨e3, h3⟩, h4⟩⟩, n, b⟩ := h
  subst e e1 e2 e3
  intro z
  subst z
  simp at n
theorem Hs.bun : Hs (bun As :: Bs) S ↔ Hs (As ++ Bs) S := by
  constructor
  · rintro ⟨F, ⟨F1, F2, e, h1, h2⟩, n, b⟩
    exact ⟨F, HsF.app.mpr ⟨F1, F2, e, h1, h2⟩, n, b⟩
  · rintro ⟨F, h1, n, b⟩
    obtain ⟨F1, F2, e, h1, h2⟩ := HsF.app.mp h1
    exact ⟨F, ⟨F1, F2, e, h1, h2⟩, n, b⟩
theorem Hs.ex {α : Type} {A : α → Asn} : Hs (exA A :: As) S ↔ ∃ x, Hs (A x :: As) S := by
  constructor
  · rintro ⟨F, ⟨F1, F2, e, ⟨x, h1⟩, h2⟩, n, b⟩
    exact ⟨x, F, ⟨F1, F2, e, h1, h2⟩, n, b⟩
  · rintro ⟨x, F, ⟨F1, F2, e, h1, h2⟩, n, b⟩
    exact ⟨F, ⟨F1, F2, e, ⟨x, h1⟩, h2⟩, n, b⟩
theorem Hs.pu {p : Prop} : Hs (pu p :: As) S ↔ p ∧ Hs As S := by
  constructor
  · rintro ⟨F, ⟨F1, F2, e, ⟨e1, h1⟩, h2⟩, n, b⟩
    subst e e1
    exact ⟨h1, F2, h2, n, b⟩
  · rintro ⟨h1, F, h2, n, b⟩
    exact ⟨F, ⟨[], F, rfl, ⟨rfl, h1⟩, h2⟩, n, b⟩
theorem Hs.front {B : Asn} (h : Hs (A :: As) S) (i : ∀ S F, A.h S F → B.h S F) : Hs (B :: As) S := by
  obtain ⟨F, ⟨F1, F2, e, h1, h2⟩, n, b⟩ := h
  exact ⟨F, ⟨F1, F2, e, i S F1 h1, h2⟩, n, b⟩
theorem Hs.toRl (h : Hs (pt l (.lst xs) :: As) S) : Hs (rl l xs :: As) S := h.front fun _ _ ⟨e, h⟩ => ⟨e, rdL_lst h⟩
/-- a whole bundle to the front: As1 ++ (Bs ++ As2) -/
theorem Hs.swap (h : Hs (As ++ Bs) S) : Hs (Bs ++ As) S := by
  obtain ⟨F, h1, n, b⟩ := h
  obtain ⟨F1, F2, rfl, h1, h2⟩ := HsF.app.mp h1
  have p : (F2 ++ F1).Perm (F1 ++ F2) := List.perm_append_comm
  exact ⟨F2 ++ F1, HsF.app.mpr ⟨F2, F1, rfl, h2, h1⟩, p.nodup_iff.mpr n, fun l hl => b l (p.mem_iff.mp hl)⟩
theorem Hs.nil : Hs [] S := ⟨[], rfl, List.nodup_nil, by simp⟩
/-- the first object of all -/
theorem Hs.one (h : at_ S l = some o) : Hs [pt l o] S := ⟨[l], ⟨[l], [], rfl, ⟨rfl, h⟩, rfl⟩, by simp, by simp; exact at_lt h⟩
theorem Hs.oneRl (h : rdL S l = some xs) : Hs [rl l xs] S := ⟨[l], ⟨[l], [], rfl, ⟨rfl, h⟩, rfl⟩, by simp, by simp; exact rdL_lt h⟩
/-! ### what changes the store stops the reckoning; each has its rule -/
def allo (o : O) (S : Sto) : R D := .ok (.ref S.length) (S ++ [o])
theorem wpe_allo {K : Cn D} (h : Hs As S) (k : ∀ l S', Hs (pt l o :: As) S' → K.k (.ref l) S') : wpe (allo o S) := k _ _ h.new
theorem wpe_lst {K : Cn D} {fa : Env → Sto → R (List D)} : wpe (xLst fa env S) = wpe (K := ⟨fun xs S1 => xs.length ≤ 100000 ∧ wpe (allo (.lst xs) S1), K.x⟩) (fa env S) := by
  unfold xLst
  rw [wpe_bind]
  congr 2
  funext xs S1
  by_cases h : xs.length ≤ 100000
  · rw [if_pos h]
    simp [h, allo]
  · rw [if_neg h]
    simp [h, wpe]
theorem wpe_dnew {K : Cn D} : wpe (xDNew env S) = wpe (allo (.dK []) S) := rfl
theorem wpe_mL {K : Cn D} {g : List D → List D → Option (D × List D)} {xs ys ds : List D} {d : D} (h : Hs (pt l (.lst xs) :: As) S) (e : g xs ds = some (d, ys)) (k : ∀ S', Hs (pt l (.lst ys) :: As) S' → K.k d S') : wpe (mL g (.ref l) ds S) := by
  rw [mL_eq h.at0 e]
  exact k _ h.set
theorem wpe_append {K : Cn D} {xs : List D} {d : D} (h : Hs (pt l (.lst xs) :: As) S) (e : xs.length < 100000) (k : ∀ S', Hs (pt l (.lst (xs ++ [d])) :: As) S' → K.k .non S') : wpe (mL gAppend (.ref l) [d] S) := wpe_mL h (gAppend_eq e) k
def setFS (C f : Str) (x y : D) (env : Env) (S : Sto) : RS := match setFX C f x y S with
  | some S3 => .nx env S3
  | none => .bad
theorem wps_xSetF {K : Ck} {C f : Str} {fo fv : Env → Sto → R D} : wps (xSetF C f fo fv env S) = wps ((fv env S).bindS env fun y S1 => (fo env S1).bindS env fun x S2 => setFS C f x y env S2) := rfl
theorem wps_setF {K : Ck} {C f : Str} {y : D} {fs : List (Str × D)} (h : Hs (pt l (.ins C fs) :: As) S) (hl : fs.length < 900) (k : ∀ S', Hs (pt l (.ins C (putFX f y fs)) :: As) S' → K.n env S') : wps (setFS C f (.ref l) y env S) := by
  unfold setFS
  rw [setFX_eq h.at0 hl]
  exact k _ h.set
theorem wps_xAugF {K : Ck} {C f : Str} {fo fv : Env → Sto → R D} {o : D → D → Sto → R D} : wps (xAugF C f fo fv o env S) = wps ((fo env S).bindS env fun x S1 => match (insX S1 C x).bind fun p => p.2.lookup f with
  | some d => (fv env S1).bindS env fun y S2 => (o d y S2).bindS env fun z S3 => setFS C f x z env S3
  | none => .bad) := rfl
def putDS (x y v : D) (env : Env) (S : Sto) : RS := match putDX x y v S with
  | some S4 => .nx env S4
  | none => .bad
theorem wps_xDPut {K : Ck} {fo fi fv : Env → Sto → R D} : wps (xDPut fo fi fv env S) = wps ((fv env S).bindS env fun v S1 => (fo env S1).bindS env fun x S2 => (fi env S2).bindS env fun y S3 => putDS x y v env S3) := rfl
theorem wps_putD {K : Ck} {y v : D} {kvs : List (Key × D)} {q : Key} (h : Hs (pt l (.dK kvs) :: As) S) (hy : keyD y = some q) (hl : kvs.length < 100000) (k : ∀ S', Hs (pt l (.dK (putX kvs q v)) :: As) S' → K.n env S') : wps (putDS (.ref l) y v env S) := by
  unfold putDS
  rw [putDX_eq h.at0 hy hl]
  exact k _ h.set
def setLE (x i v : D) (env : Env) (S : Sto) : R Env := match setLX x i v S with
  | some S3 => .ok env S3
  | none => .bad
theorem gSub_eq {fo fi : Env → Sto → R D} {d : D} : gSubX fo fi d env S = (fo env S).bind fun x S1 => (fi env S1).bind fun i S2 => setLE x i d env S2 := rfl
theorem wpe_setL {K : Cn Env} {v : D} {xs : List D} {q : Int} {j : Nat} (h : Hs (pt l (.lst xs) :: As) S) (hj : ixN xs.length q = some j) (k : ∀ S', Hs (pt l (.lst (xs.set j v)) :: As) S' → K.k env S') : wpe (setLE (.ref l) (.int q) v env S) := by
  unfold setLE
  rw [setLX_eq h.at0 hj]
  exact k _ h.set
/-- C(..) -/
def mkEnd (l : Nat) (r : R D) : R D := match r with
  | .ok .non S2 => .ok (.ref l) S2
  | _ => .bad
theorem wpe_xMake {K : Cn D} {C : Str} {f : List D → Sto → R D} {fa : Env → Sto → R (List D)} : wpe (xMake C f fa env S) = wpe ((fa env S).bind fun ds S1 => mkEnd S1.length (f (.ref S1.length :: ds) (S1 ++ [.ins C []]))) := rfl
theorem wpe_make {K : Cn D} {C : Str} {f : List D → Sto → R D} {ds : List D} {P : Nat → Sto → Prop} (h : Hs As S) (q : ∀ l S', Hs (pt l (.ins C []) :: As) S' → Ok (f (.ref l :: ds) S') (fun v S2 => v = .non ∧ P l S2)) (k : ∀ l S', P l S' → K.k (.ref l) S') : wpe (mkEnd S.length (f (.ref S.length :: ds) (S ++ [.ins C []]))) := by
  obtain ⟨a, S2, e, rfl, p⟩ := (q S.length (S ++ [.ins C []]) h.new).ex
  rw [e]
  exact k _ _ p
/-! ### loops -/
def loopQ (J : Env → Sto → Prop) (K : Ck) : RS → Prop
  | .ct e S => J e S
  | .bk e S => K.n e S
  | .nx _ _ => False
  | .bad => False
  | r => K.q r
theorem loopQ_ct {J : Env → Sto → Prop} {K : Ck} {e : Env} : loopQ J K (.ct e S) = J e S := rfl
theorem loopQ_bk {J : Env → Sto → Prop} {K : Ck} {e : Env} : loopQ J K (.bk e S) = K.n e S := rfl
theorem loopQ_ret {J : Env → Sto → Prop} {K : Ck} {d : D} : loopQ J K (.ret d S) = K.q (.ret d S) := rfl
theorem loopQ_exc {J : Env → Sto → Prop} {K : Ck} {c : Str} {fs : List (Str × D)} {e : Env} : loopQ J K (.exc c fs e S) = K.q (.exc c fs e S) := rfl
theorem loop_go {K : Ck} {ok : Sto → Prop} {fg : XG} {fb : Env → Sto → RS} (I : Nat → Env → Sto → Prop) : ∀ (items : List D) (j : Nat) (env : Env) (S : Sto), (∀ i env S, i ≤ j + items.length → I i env S → ok S) →
    (∀ i x env S, items[i]? = some x → I (j + i) env S → wpe (K := ⟨fun e1 S1 => wps (K := ⟨I (j + i + 1), loopQ (I (j + i + 1)) K⟩) (fb e1 S1), noX⟩) (fg x env S)) →
    (∀ e S', I (j + items.length) e S' → K.n e S') → I j env S → wps (finX (loopX ok fg fb items env S))
  | [], j, env, S, hok, _, fin, h => by
    rw [loopX_nil (hok j env S (by simp) h)]
    exact fin env S h
  | x :: r, j, env, S, hok, turn, fin, h => by
    have next : ∀ e S', I (j + 1) e S' → wps (finX (loopX ok fg fb r e S')) := fun e S' h' =>
      loop_go I r (j + 1) e S' (fun i env S hi => hok i env S (by rw [List.length_cons]; omega)) (fun i y env S hy hI => by
        have := turn (i + 1) y env S hy (by rw [show j + (i + 1) = j + 1 + i by omega]; exact hI)
        rw [show j + (i + 1) = j + 1 + i by omega] at this
        exact this) (fun e S' q => fin e S' (by rw [show j + (x :: r).length = j + 1 + r.length by rw [List.length_cons]; omega]; exact q)) h'
    rw [loopX_cons (hok j env S (by simp) h)]
    have t := turn 0 x env S rfl h
    rw [Nat.add_zero] at t
    cases hg : fg x env S with
    | ok e1 S1 =>
      rw [hg] at t
      change wps (K := ⟨I (j + 1), loopQ (I (j + 1)) K⟩) (fb e1 S1) at t
      rw [bindE_ok]
      cases hb : fb e1 S1 with
      | nx e S' => rw [hb] at t; exact next e S' t
      | ct e S' => rw [hb] at t; exact next e S' t
      | bk e S' => rw [hb] at t; exact t
      | ret d S' => rw [hb] at t; exact t
      | exc c fs e S' => rw [hb] at t; exact t
      | bad => rw [hb] at t; exact t.elim
    | exc c fs S1 => rw [hg] at t; exact t.elim
    | bad => rw [hg] at t; exact t.elim
theorem wps_xFor {K : Ck} {fi : Env → Sto → R Itx} {fg : XG} {fb : Env → Sto → RS} : wps (xFor fi fg fb env S) = wpe (K := ⟨fun it S1 => wps (finX (loopX it.ok fg fb it.items env S1)), fun c fs S => K.q (.exc c fs env S)⟩) (fi env S) := wps_bindS
theorem wps_loop {K : Ck} {ok : Sto → Prop} {fg : XG} {fb : Env → Sto → RS} {items : List D} (I : Nat → Env → Sto → Prop) (start : I 0 env S) (hok : ∀ i env S, I i env S → ok S)
    (turn : ∀ i x env S, items[i]? = some x → I i env S → wpe (K := ⟨fun e1 S1 => wps (K := ⟨I (i + 1), loopQ (I (i + 1)) K⟩) (fb e1 S1), noX⟩) (fg x env S))
    (fin : ∀ e S', I items.length e S' → K.n e S') : wps (finX (loopX ok fg fb items env S)) := by
  refine loop_go I items 0 env S (fun i env S _ h => hok i env S h) (fun i x env S hx h => ?_) (fun e S' h => fin e S' (by rw [Nat.zero_add] at h; exact h)) start
  rw [Nat.zero_add] at h ⊢
  exact turn i x env S hx h
/-- for .. else -/
def loopE (fe : Env → Sto → RS) (r : RS) : RS := match r with
  | .nx e S2 => fe e S2
  | r => finX r
theorem wps_xForE {K : Ck} {fi : Env → Sto → R Itx} {fg : XG} {fb fe : Env → Sto → RS} : wps (xForE fi fg fb fe env S) = wpe (K := ⟨fun it S1 => wps (loopE fe (loopX it.ok fg fb it.items env S1)), fun c fs S => K.q (.exc c fs env S)⟩) (fi env S) := wps_bindS
theorem wps_loopE {K : Ck} {ok : Sto → Prop} {fg : XG} {fb fe : Env → Sto → RS} {items : List D} (I : Nat → Env → Sto → Prop) (start : I 0 env S) (hok : ∀ i env S, I i env S → ok S)
    (turn : ∀ i x env S, items[i]? = some x → I i env S → wpe (K := ⟨fun e1 S1 => wps (K := ⟨I (i + 1), loopQ (I (i + 1)) K⟩) (fb e1 S1), noX⟩) (fg x env S))
    (fin : ∀ e S', I items.length e S' → wps (fe e S')) : wps (loopE fe (loopX ok fg fb items env S)) := by
  have := loop_go (K := ⟨fun e S' => (I items.length e S' ∧ loopX ok fg fb items env S = .nx e S') ∨ (K.n e S' ∧ loopX ok fg fb items env S = .bk e S'), fun r => K.q r ∧ loopX ok fg fb items env S = r⟩) (ok := ok) (fg := fg) (fb := fb) I items 0 env S
  have gen : wps (K := ⟨I items.length, fun r => match r with
      | .bk e S' => K.n e S'
      | .ct _ _ => False
      | r => K.q r⟩) (loopX ok fg fb items env S) := by
    clear this
    have : ∀ (r : List D) (j : Nat) (env : Env) (S : Sto), j + r.length = items.length → (∀ i x, r[i]? = some x → items[j + i]? = some x) → I j env S → wps (K := ⟨I items.length, fun r => match r with
      | .bk e S' => K.n e S'
      | .ct _ _ => False
      | r => K.q r⟩) (loopX ok fg fb r env S) := by
      intro r
      induction r with
      | nil =>
        intro j env S hj _ h
        rw [loopX_nil (hok j env S h)]
        have : j = items.length := by simpa using hj
        subst this
        exact h
      | cons x r ih =>
        intro j env S hj hx h
        rw [loopX_cons (hok j env S h)]
        have t := turn j x env S (by have := hx 0 x rfl; rwa [Nat.add_zero] at this) h
        have next : ∀ e S', I (j + 1) e S' → _ := fun e S' h' => ih (j + 1) e S' (by rw [← hj, List.length_cons]; omega) (fun i y hy => by have := hx (i + 1) y hy; rwa [show j + (i + 1) = j + 1 + i by omega] at this) h'
        cases hg : fg x env S with
        | ok e1 S1 =>
          rw [hg] at t
          change wps (K := ⟨I (j + 1), loopQ (I (j + 1)) K⟩) (fb e1 S1) at t
          rw [bindE_ok]
          cases hb : fb e1 S1 with
          | nx e S' => rw [hb] at t; exact next e S' t
          | ct e S' => rw [hb] at t; exact next e S' t
          | bk e S' => rw [hb] at t; exact t
          | ret d S' => rw [hb] at t; exact t
          | exc c fs e S' => rw [hb] at t; exact t
          | bad => rw [hb] at t; exact t.elim
        | exc c fs S1 => rw [hg] at t; exact t.elim
        | bad => rw [hg] at t; exact t.elim
    exact this items 0 env S (by simp) (fun i x h => by rwa [Nat.zero_add]) start
  unfold loopE
  cases hl : loopX ok fg fb items env S with
  | nx e S' => rw [hl] at gen; exact fin e S' gen
  | ct e S' => rw [hl] at gen; exact gen.elim
  | bk e S' => rw [hl] at gen; exact gen
  | ret d S' => rw [hl] at gen; exact gen
  | exc c fs e S' => rw [hl] at gen; exact gen
  | bad => rw [hl] at gen; exact gen.elim
/-- while, by a measure -/
theorem while_fuel {K : Ck} {ft : Env → Sto → R Bool} {fb : Env → Sto → RS} (I : Nat → Env → Sto → Prop)
    (turn : ∀ m env S, I m env S → wpe (K := ⟨fun b S1 => if b = true then wps (K := ⟨fun e S' => ∃ m', m' < m ∧ I m' e S', loopQ (fun e S' => ∃ m', m' < m ∧ I m' e S') K⟩) (fb env S1) else K.n env S1, noX⟩) (ft env S)) :
    ∀ (N m : Nat) (env : Env) (S : Sto), m < N → I m env S → wps (finX (whileX ft fb N env S)) ∧ whileX ft fb N env S ≠ .bad
  | 0, m, _, _, h, _ => absurd h (Nat.not_lt_zero _)
  | N + 1, m, env, S, hm, h => by
    rw [whileX_succ]
    have t := turn m env S h
    cases ht : ft env S with
    | ok b S1 =>
      rw [ht] at t
      rw [R.bindS_ok]
      have t' : if b = true then wps (K := ⟨fun e S' => ∃ m', m' < m ∧ I m' e S', loopQ (fun e S' => ∃ m', m' < m ∧ I m' e S') K⟩) (fb env S1) else K.n env S1 := t
      cases b with
      | false => exact ⟨t', by simp⟩
      | true =>
        rw [if_pos rfl] at t' ⊢
        have next : ∀ e S', (∃ m', m' < m ∧ I m' e S') → wps (finX (whileX ft fb N e S')) ∧ whileX ft fb N e S' ≠ .bad := fun e S' ⟨m', h1, h2⟩ => while_fuel I turn N m' e S' (by omega) h2
        cases hb : fb env S1 with
        | nx e S' => rw [hb] at t'; exact next e S' t'
        | ct e S' => rw [hb] at t'; exact next e S' t'
        | bk e S' => rw [hb] at t'; exact ⟨t', by simp⟩
        | ret d S' => rw [hb] at t'; exact ⟨t', by simp⟩
        | exc c fs e S' => rw [hb] at t'; exact ⟨t', by simp⟩
        | bad => rw [hb] at t'; exact t'.elim
    | exc c fs S1 => rw [ht] at t; exact t.elim
    | bad => rw [ht] at t; exact t.elim
theorem wps_while {K : Ck} {ft : Env → Sto → R Bool} {fb : Env → Sto → RS} (I : Nat → Env → Sto → Prop) (m : Nat) (start : I m env S)
    (turn : ∀ m env S, I m env S → wpe (K := ⟨fun b S1 => if b = true then wps (K := ⟨fun e S' => ∃ m', m' < m ∧ I m' e S', loopQ (fun e S' => ∃ m', m' < m ∧ I m' e S') K⟩) (fb env S1) else K.n env S1, noX⟩) (ft env S)) : wps (xWhile ft fb env S) := by
  obtain ⟨h1, h2⟩ := while_fuel I turn (m + 1) m env S (Nat.lt_succ_self _) start
  rw [xWhile_eq rfl h2]
  exact h1
/-! ### comprehensions -/
theorem wpe_xLc {K : Cn D} {fi : Env → Sto → R Itx} {fg : XG} {ft : Env → Sto → R Bool} {fe : Env → Sto → R D} {vs : List Nat} : wpe (xLc fi fg ft fe vs env S) = wpe (K := ⟨fun it S1 => wpe (compX it.ok fg ft fe (wipeE env vs) S1.length it.items (S1 ++ [.lst []])), K.x⟩) (fi env S) := wpe_bind
theorem comp_go {K : Cn D} {ok : Sto → Prop} {fg : XG} {ft : Env → Sto → R Bool} {fe : Env → Sto → R D} {env0 : Env} {l : Nat} (I : Nat → List D → Sto → Prop) (hI : ∀ i acc S, I i acc S → ok S ∧ at_ S l = some (.lst acc)) : ∀ (items : List D) (j : Nat) (acc : List D) (S : Sto),
    (∀ i x acc S, items[i]? = some x → I (j + i) acc S → wpe (K := ⟨fun e1 S1 => wpe (K := ⟨fun b S2 => if b = true then wpe (K := ⟨fun y S3 => at_ S3 l = some (.lst acc) ∧ acc.length < 100000 ∧ I (j + i + 1) (acc ++ [y]) (S3.set l (.lst (acc ++ [y]))), noX⟩) (fe e1 S2) else I (j + i + 1) acc S2, noX⟩) (ft e1 S1), noX⟩) (fg x env0 S)) →
    (∀ acc S, I (j + items.length) acc S → K.k (.ref l) S) → I j acc S → wpe (compX ok fg ft fe env0 l items S)
  | [], j, acc, S, _, fin, h => by
    rw [compX, if_pos (hI _ _ _ h).1]
    exact fin acc S h
  | x :: r, j, acc, S, turn, fin, h => by
    have next : ∀ acc S, I (j + 1) acc S → wpe (compX ok fg ft fe env0 l r S) := fun acc S h =>
      comp_go I hI r (j + 1) acc S (fun i y acc S hy hq => by
        have := turn (i + 1) y acc S hy (by rw [show j + (i + 1) = j + 1 + i by omega]; exact hq)
        rw [show j + (i + 1) = j + 1 + i by omega] at this
        exact this) (fun acc S q => fin acc S (by rw [show j + (x :: r).length = j + 1 + r.length by rw [List.length_cons]; omega]; exact q)) h
    rw [compX, if_pos (hI _ _ _ h).1]
    have t := turn 0 x acc S rfl h
    rw [Nat.add_zero] at t
    cases hg : fg x env0 S with
    | ok e1 S1 =>
      rw [hg] at t
      change wpe (K := ⟨fun b S2 => if b = true then wpe (K := ⟨fun y S3 => at_ S3 l = some (.lst acc) ∧ acc.length < 100000 ∧ I (j + 1) (acc ++ [y]) (S3.set l (.lst (acc ++ [y]))), noX⟩) (fe e1 S2) else I (j + 1) acc S2, noX⟩) (ft e1 S1) at t
      simp only
      cases ht : ft e1 S1 with
      | ok b S2 =>
        rw [ht] at t
        change if b = true then wpe (K := ⟨fun y S3 => at_ S3 l = some (.lst acc) ∧ acc.length < 100000 ∧ I (j + 1) (acc ++ [y]) (S3.set l (.lst (acc ++ [y]))), noX⟩) (fe e1 S2) else I (j + 1) acc S2 at t
        cases b with
        | false =>
          simp only
          exact next acc S2 t
        | true =>
          simp only
          rw [if_pos rfl] at t
          cases he : fe e1 S2 with
          | ok y S3 =>
            rw [he] at t
            obtain ⟨h1, h2, h3⟩ : at_ S3 l = some (.lst acc) ∧ acc.length < 100000 ∧ I (j + 1) (acc ++ [y]) (S3.set l (.lst (acc ++ [y]))) := t
            simp only [h1, if_pos h2]
            exact next _ _ h3
          | exc c fs S1 => rw [he] at t; exact t.elim
          | bad => rw [he] at t; exact t.elim
      | exc c fs S1 => rw [ht] at t; exact t.elim
      | bad => rw [ht] at t; exact t.elim
    | exc c fs S1 => rw [hg] at t; exact t.elim
    | bad => rw [hg] at t; exact t.elim
/-- a comprehension whose items leave the chunks as they are -/
theorem wpe_comp {K : Cn D} {ok : Sto → Prop} {fg : XG} {ft : Env → Sto → R Bool} {fe : Env → Sto → R D} {env0 : Env} {items : List D} (g : D → Option D) (h : Hs As S) (hok : ∀ Bs S', Hs (As ++ Bs) S' → ok S')
    (turn : ∀ x ∈ items, ∀ Bs S', Hs (As ++ Bs) S' → wpe (K := ⟨fun e1 S1 => wpe (K := ⟨fun b S2 => b = (g x).isSome ∧ (if b = true then wpe (K := ⟨fun y S3 => g x = some y ∧ Hs (As ++ Bs) S3, noX⟩) (fe e1 S2) else Hs (As ++ Bs) S2), noX⟩) (ft e1 S1), noX⟩) (fg x env0 S'))
    (hl : items.length ≤ 100000) (k : ∀ l S', Hs (pt l (.lst (items.filterMap g)) :: As) S' → K.k (.ref l) S') : wpe (compX ok fg ft fe env0 S.length items (S ++ [.lst []])) := by
  generalize hm : S.length = l
  have h0 : Hs (pt l (.lst []) :: As) (S ++ [.lst []]) := by subst hm; exact h.new
  have sw : ∀ {acc : List D} {S : Sto}, Hs (pt l (.lst acc) :: As) S → Hs (As ++ [pt l (.lst acc)]) S := fun {acc S} h => Hs.swap (As := [pt l (.lst acc)]) (Bs := As) h
  have ws : ∀ {acc : List D} {S : Sto}, Hs (As ++ [pt l (.lst acc)]) S → Hs (pt l (.lst acc) :: As) S := fun {acc S} h => Hs.swap (As := As) (Bs := [pt l (.lst acc)]) h
  refine comp_go (fun i acc S => Hs (pt l (.lst acc) :: As) S ∧ acc = (items.take i).filterMap g ∧ i ≤ items.length) (fun i acc S q => ⟨hok _ S (sw q.1), q.1.at0⟩) items 0 [] _ (fun i x acc S hx ⟨h, e, hi⟩ => ?_) (fun acc S ⟨h, e, _⟩ => k l S (by rw [Nat.zero_add, List.take_length] at e; rw [← e]; exact h)) ⟨h0, by simp, Nat.zero_le _⟩
  have hlt := (List.getElem?_eq_some_iff.mp hx).1
  have ha : acc.length ≤ i := by
    rw [e]
    refine Nat.le_trans (List.length_filterMap_le _ _) ?_
    rw [List.length_take]
    omega
  have tk : ∀ o, g x = o → (items.take (0 + i + 1)).filterMap g = acc ++ o.toList := fun o ho => by
    rw [show 0 + i + 1 = i + 1 by omega, List.take_succ, hx, List.filterMap_append, e, Nat.zero_add]
    congr 1
    cases o <;> simp [ho]
  have t := turn x (List.mem_of_getElem? hx) _ S (sw h)
  cases hg : fg x env0 S with
  | ok e1 S1 =>
    rw [hg] at t
    change wpe (K := ⟨fun b S2 => b = (g x).isSome ∧ (if b = true then wpe (K := ⟨fun y S3 => g x = some y ∧ Hs (As ++ [pt l (.lst acc)]) S3, noX⟩) (fe e1 S2) else Hs (As ++ [pt l (.lst acc)]) S2), noX⟩) (ft e1 S1) at t
    show wpe (K := ⟨fun b S2 => if b = true then wpe (K := ⟨fun y S3 => at_ S3 l = some (.lst acc) ∧ acc.length < 100000 ∧ (Hs (pt l (.lst (acc ++ [y])) :: As) (S3.set l (.lst (acc ++ [y]))) ∧ acc ++ [y] = (items.take (0 + i + 1)).filterMap g ∧ 0 + i + 1 ≤ items.length), noX⟩) (fe e1 S2) else (Hs (pt l (.lst acc) :: As) S2 ∧ acc = (items.take (0 + i + 1)).filterMap g ∧ 0 + i + 1 ≤ items.length), noX⟩) (ft e1 S1)
    cases ht : ft e1 S1 with
    | ok b S2 =>
      rw [ht] at t
      obtain ⟨hb, t⟩ : b = (g x).isSome ∧ (if b = true then wpe (K := ⟨fun y S3 => g x = some y ∧ Hs (As ++ [pt l (.lst acc)]) S3, noX⟩) (fe e1 S2) else Hs (As ++ [pt l (.lst acc)]) S2) := t
      show (if b = true then _ else _)
      cases b with
      | false =>
        rw [if_neg (by simp)] at t ⊢
        have := tk none (by cases hq : g x with
          | none => rfl
          | some y => rw [hq] at hb; cases hb)
        exact ⟨ws t, by rw [this]; simp, by omega⟩
      | true =>
        rw [if_pos rfl] at t ⊢
        cases he : fe e1 S2 with
        | ok y S3 =>
          rw [he] at t
          obtain ⟨h1, h2⟩ : g x = some y ∧ Hs (As ++ [pt l (.lst acc)]) S3 := t
          exact ⟨(ws h2).at0, by omega, (ws h2).set, by rw [tk _ h1]; simp, by omega⟩
        | exc c fs S1 => rw [he] at t; exact t.elim
        | bad => rw [he] at t; exact t.elim
    | exc c fs S1 => rw [ht] at t; exact t.elim
    | bad => rw [ht] at t; exact t.elim
  | exc c fs S1 => rw [hg] at t; exact t.elim
  | bad => rw [hg] at t; exact t.elim
end
end Mi

namespace Mi
open PySem PySem.Spec PyProof.Rows L2 Evl My
/-! ### the reckoning's words, so that what makes a new object stops it -/
section
variable {α : Type} {S : Sto} {l b : Nat} {i j : Int} {o : O}
theorem rngOk_lit {n : Nat} (h : n ≤ 1000000000) : RngOk (no_index (@OfNat.ofNat Int n instOfNat)) := rngOk (show -1000000000 ≤ ((n : Nat) : Int) ∧ ((n : Nat) : Int) ≤ 1000000000 by omega)
theorem rngOk_m1 : RngOk (-1) := rngOk (by decide)
theorem cDiv_lit {a : Int} {n : Nat} (h : 0 < n ∧ n < 1073741824) : CDiv a (no_index (@OfNat.ofNat Int n instOfNat)) := show 0 < ((n : Nat) : Int) ∧ ((n : Nat) : Int) < 1073741824 by omega
theorem cMul_litR {a : Int} {n : Nat} (h : n ≤ 1000000000000) : CMul a (no_index (@OfNat.ofNat Int n instOfNat)) := .inr (show -(2 ^ 64) < ((n : Nat) : Int) ∧ ((n : Nat) : Int) < 2 ^ 64 by omega)
theorem cMul_litL {a : Int} {n : Nat} (h : n ≤ 1000000000000) : CMul (no_index (@OfNat.ofNat Int n instOfNat)) a := .inl (show -(2 ^ 64) < ((n : Nat) : Int) ∧ ((n : Nat) : Int) < 2 ^ 64 by omega)
theorem cMul_l {a b : Int} (h : -1000000000000 ≤ a ∧ a ≤ 1000000000000) : CMul a b := .inl (by omega)
theorem cMul_r {a b : Int} (h : -1000000000000 ≤ b ∧ b ≤ 1000000000000) : CMul a b := .inr (by omega)
theorem cDiv_of {a b : Int} (h : 0 < b ∧ b < 1000000000) : CDiv a b := ⟨h.1, by omega⟩
theorem rgOk {a b : Int} (h : -1000000 ≤ a ∧ a ≤ 1000000 ∧ -1000000 ≤ b ∧ b ≤ 1000000) : RgOk a b := ⟨by omega, by omega, by omega, by omega, by omega⟩
theorem popOk {i : Int} (h : -1000000000 ≤ i ∧ i ≤ 1000000000) : PopOk i := ⟨by omega, by omega⟩
theorem wpe_iteBad {K : Cn α} {c : Prop} {_ : Decidable c} {r : R α} : wpe (if c then r else .bad) = (c ∧ wpe r) := by
  by_cases h : c
  · simp [h]
  · simp [h, wpe]
theorem wps_iteBad {K : Ck} {c : Prop} {_ : Decidable c} {r : RS} : wps (if c then r else .bad) = (c ∧ wps r) := by
  by_cases h : c
  · simp [h]
  · simp [h, wps]
theorem oIC_wp {C : Int → Int → Prop} {g : Int → Int → D} : oIC C g (.int i) (.int j) S = (open Classical in if C i j then .ok (g i j) S else .bad) := rfl
theorem bList_wp : bList [.ref l] S = (match rdL S l with
  | some xs => allo (.lst xs) S
  | none => .bad) := rfl
theorem bListT_wp {xs : List D} : bList [.tup xs] S = allo (.lst xs) S := rfl
theorem oSlL_wp {lo hi : Option Int} : oSlL (.ref l) lo hi S = (match rdL S l with
  | some xs => allo (.lst (cutX xs lo hi)) S
  | none => .bad) := rfl
theorem oCat_wp : oCat (.ref l) (.ref b) S = (match at_ S l, at_ S b with
  | some (.lst xs), some (.lst ys) => if xs.length + ys.length ≤ 100000 then allo (.lst (xs ++ ys)) S else .bad
  | _, _ => .bad) := rfl
theorem bListD_wp : bListD [.ref l] S = (match at_ S l with
  | some (.dK kvs) => allo (.lst (kvs.map fun kv => keyOf kv.1)) S
  | _ => .bad) := rfl
theorem mkRg_wp {a b : Int} : mkRg a b S = (open Classical in if RgOk a b then allo (.lst (rngD a (b - a).toNat)) S else .bad) := rfl
theorem bSet_wp {l : Nat} : bSet [.ref l] S = (match (rdL S l).bind intsOf with
  | some ns => if ns.length ≤ 4000 then allo (.set (memI ns) (dedupL ns).length) S else .bad
  | none => .bad) := by
  unfold bSet bInts
  simp only
  cases h : (rdL S l).bind intsOf <;> rfl
/-- the outcome of a test is one of two -/
theorem wps_ite {K : Ck} {c : Prop} {_ : Decidable c} {r q : RS} (h1 : c → wps r) (h2 : ¬ c → wps q) : wps (if c then r else q) := by
  by_cases h : c
  · rw [if_pos h]; exact h1 h
  · rw [if_neg h]; exact h2 h
theorem wpe_ite {K : Cn α} {c : Prop} {_ : Decidable c} {r q : R α} (h1 : c → wpe r) (h2 : ¬ c → wpe q) : wpe (if c then r else q) := by
  by_cases h : c
  · rw [if_pos h]; exact h1 h
  · rw [if_neg h]; exact h2 h
theorem Ok.def {m k : Nat} {f : Env → Sto → RS} {ds : List D} {P : D → Sto → Prop} (h : ds.length = m) (w : wps (K := ⟨fun _ S => P .non S, defQ ⟨P, noX⟩⟩) (f (ds.map some ++ List.replicate k none) S)) : Ok (defX m k f ds S) P := wpe_def (K := ⟨P, noX⟩) h w
end
end Mi

namespace Mi
open PySem PySem.Spec PyProof.Rows L2 Evl My
/-! ### sorted(set(a list of ints)) -/
section
variable {P : Program} {w : World} {A : Around} {E : Value → Shared → Prop} {s : Shared}
theorem set_of_list {l : Addr} {xs : Array Value} (ns : List Int) {Q : Value → Shared → Prop} (ih : A.handled = none) (il : s.heap.IsList l xs) (ii : IntsAre xs.toList ns) (ib : ns.length + 1 < scanBound)
    (go : ∀ (g : Heap) (tk c : Nat), SetR w g s.heap.objs.size (fun j => decide (j ∈ ns)) c → c ≤ ns.length → (∀ b o, s.heap.get? b = some o → g.get? b = some o) → Q (.ref s.heap.objs.size) { s with heap := g, toks := tk }) :
    wpAny (model P w) A (call (.type "set") [.ref l]) Q E s := by
  have sz : xs.size = ns.length := by rw [← Array.length_toList]; exact IntsAre.length ii
  have nl : l < s.heap.objs.size := by
    obtain ⟨_, e, _⟩ := id il
    exact Heap.lt_size e
  obtain ⟨_, _, hmro⟩ := F.called_set.mro
  have made := F.called_set.made
  have subs := F.called_set.sub
  have q1 := F.called_set.notType
  have q2 := F.called_set.canCreate
  have q3 := F.typeCall_set_1 (.ref l)
  refine wpAny_call (codeAny_of_tree ?_)
  change wpAny _ _ (callAny (.type "set") _) _ _ _
  refine wpAny_pure ⟨Code.quiet_builtin _ (by decide +kernel), codeAny_builtin F.entry_type_call ?_⟩
  rw [Around.under_plain (weight_type_call_type "set" [.ref l] []) rfl]
  repeat (any_goals (first | assumption | wp_step))
  refine codeAny_mono (code_set_led1 (.ref l) (E := E) (Q₁ := fun ob s1 => ob = .ref s.heap.objs.size ∧ s1 = { s with heap := s.heap.push { cls := .type "set", dict := none, data := .set #[] 0 (.fresh 0 0 (!w.params.followText "set-order")) } }) ⟨rfl, rfl⟩) fun r s1 hr => ?_
  cases r with
  | error e => exact hr
  | ok fl =>
    cases fl with
    | ret ob =>
      obtain ⟨rfl, rfl⟩ := hr
      have at1 : (s.heap.push { cls := .type "set", dict := none, data := .set #[] 0 (.fresh 0 0 (!w.params.followText "set-order")) }).get? s.heap.objs.size = some { cls := .type "set", dict := none, data := .set #[] 0 (.fresh 0 0 (!w.params.followText "set-order")) } := Heap.get?_push_size _ rfl
      have ty : Shared.TypeIs { s with heap := s.heap.push { cls := .type "set", dict := none, data := .set #[] 0 (.fresh 0 0 (!w.params.followText "set-order")) } } (.ref s.heap.objs.size) "set" := ⟨_, at1, rfl⟩
      have z1 : (s.heap.push { cls := .type "set", dict := none, data := .set #[] 0 (.fresh 0 0 (!w.params.followText "set-order")) }).objs.size = s.heap.objs.size + 1 := Heap.size_push ..
      have lk := F.called_set.init.lookup
      have bd := F.called_set.init.bind (.ref s.heap.objs.size)
      repeat (any_goals (first | assumption | wp_step))
      refine codeAny_mono (codeAny_call_builtin (R := wants (fun r s2 => r = .none ∧ ∃ g tk c, s2 = { s with heap := g, toks := tk } ∧ SetR w g s.heap.objs.size (fun j => decide (j ∈ ns)) c ∧ c ≤ ns.length ∧ (∀ b o, s.heap.get? b = some o → g.get? b = some o)) E) F.called_set.init.plain F.entry_set_init (check_set_init_1 ty ?_)) fun r2 s2 hr2 => ?_
      · obtain ⟨⟨oc, od, odt, os⟩, hol, hc, k, hd⟩ := il
        simp only at hc hd
        subst hc hd
        have at2 : (s.heap.push { cls := .type "set", dict := none, data := .set #[] 0 (.fresh 0 0 (!w.params.followText "set-order")) }).get? l = some { cls := .type "list", dict := od, data := .seq xs k, slots := os } := Heap.get?_push_of_some _ hol
        have e1 := F.sub_list_set
        have e2 := F.sub_list_frozenset
        have e3 : (Value.type "list" == Value.type "dict") = false := by decide
        have il1 : (s.heap.push { cls := .type "set", dict := none, data := .set #[] 0 (.fresh 0 0 (!w.params.followText "set-order")) }).IsList l xs := ⟨_, at2, rfl, k, rfl⟩
        unfold Builtin.«set.__init__» noKeywords Builtin.Frozenset.updateFrom
        generalize hw : pyIter = PI
        wp_walk
        subst hw
        refine wpAny_pyIter_list il1 ?_
        refine wpAny_bind (wpAny_runValue ?_)
        have ih3 : A.in1.in1.in1.handled = none := by simp [ih]
        have hn1 : l ≠ (s.heap.push { cls := .type "set", dict := none, data := .set #[] 0 (.fresh 0 0 (!w.params.followText "set-order")) }).objs.size := by rw [z1]; exact Nat.ne_of_lt (Nat.lt_succ_of_lt nl)
        have n2 : s.heap.objs.size ∉ [(s.heap.push { cls := .type "set", dict := none, data := .set #[] 0 (.fresh 0 0 (!w.params.followText "set-order")) }).objs.size, l] := by
          rw [z1]
          simp only [List.mem_cons, List.not_mem_nil, or_false, not_or]
          exact ⟨Nat.ne_of_lt (Nat.lt_succ_self _), Nat.ne_of_gt nl⟩
        have val : ∀ (i : Nat) (v : Value), xs[i]? = some v → ∃ k t, ns[i]? = some k ∧ v = .int k t := fun i v hv => by
          have hi : i < ns.length := by rw [← sz]; exact (Array.getElem?_eq_some_iff.mp hv).1
          obtain ⟨t, e⟩ := PyProof.Rows.IntsAre.int_at ii i v (by rw [Array.getElem?_toList]; exact hv)
          exact ⟨ns[i], t, List.getElem?_eq_getElem hi, by rw [e, List.getD_eq_getElem?_getD, List.getElem?_eq_getElem hi] <;> rfl⟩
        refine set_update_ints ((Walks.list ih3 _ l hn1 xs).toS) s.heap.objs.size n2 ns sz ib val (xs.size - 0) 0 _ (by omega) (Nat.zero_le _) ⟨⟨_, Heap.get?_push_size _ rfl, rfl, rfl⟩, (il1.push _)⟩ ?ga ?gb
        case ga => exact ⟨0, Nat.le_refl 0, setR_new_at (Heap.get?_push_of_some _ at1)⟩
        case gb =>
          rintro ⟨g, gs, dr, tk, ow⟩ c hm hc hS
          obtain rfl : gs = s.gens := hm.gens
          obtain rfl : dr = s.drawn := hm.drawn
          obtain rfl : ow = s.os := hm.os
          change wpAny _ _ _ _ _ _
          refine wpAny_pure ?_
          change wpAny _ _ (ret Value.none) _ _ _
          refine wpAny_pure ⟨rfl, g, tk, c, rfl, hS, by omega, fun b o e => ?_⟩
          have hb := Heap.lt_size e
          refine hm.heap b o ?_ (Heap.get?_push_of_some _ (Heap.get?_push_of_some _ e))
          simp only [List.mem_cons, List.not_mem_nil, or_false, not_or, z1]
          exact ⟨Nat.ne_of_lt hb, Nat.ne_of_lt (Nat.lt_succ_of_lt hb)⟩
      · cases r2 with
        | error e => exact hr2
        | ok fl2 =>
          cases fl2 with
          | ret r =>
            obtain ⟨rfl, g, tk, c, rfl, hS, hc, hk⟩ := hr2
            repeat (any_goals (first | assumption | wp_step))
            exact go _ _ _ hS hc hk
          | _ => exact hr2.elim
    | _ => exact hr.elim
end
end Mi

namespace Mi
open PySem PySem.Spec PyProof.Rows L2 Evl My
section
variable {X : L2.Cx}
def tSortSet (K : PySem.W.Frag) (ta : TE) : TE := fun σ H Q => ta σ H fun x H1 => ∃ (l : Addr) (ns : List Int), x = V.ref l ∧ SqL K H1 l (ns.map V.int) ∧ ns.length < 64 ∧
  ∀ (ms : List Int) (p : Addr), ms.Pairwise (· < ·) → (∀ k : Int, k ∈ ms ↔ k ∈ ns) → H1 p = none → Q (.ref p) (upd H1 p (.lst (ms.map V.int)))
theorem pe_sortSet (K : PySem.W.Frag) {a : Expr} {ta : TE} {p p2 q pos : Pos} (hc : X.calm = true) (hm : X.mg "sorted" = none) (hm2 : X.mg "set" = none) (ha : PE X a ta) (hg : Gl X "sorted" := by rfl) (hg2 : Gl X "set" := by rfl)
    (na : starEach [a] X.env = (false, eval a X.env) :: starEach [] X.env := by rfl) (hK : X.K = K := by rfl) : PE X (.Call (.Name "sorted" p) [.Call (.Name "set" p2) [a] [] q] [] pos) (tSortSet K ta) := by
  subst hK
  refine ⟨fun pins s σ H Q I h => ?_⟩
  refine Call_ (ld_blt I hg hm (u := .builtin "sorted") (by decide +kernel) ?_)
  refine PyProof.Rows.callWith_builtin1 (PyProof.Rows.args_cons ?_ rfl) rfl rfl
  refine Call_ (ld_blt I hg2 hm2 PyProof.Rows.boot_set ?_)
  refine PyProof.Rows.callWith_type1 (PyProof.Rows.args_cons (thn (ha.run pins s σ H _ I h) fun v s1 ⟨x, H1, I1, r1, q1⟩ => PyProof.Rows.args_nil ?_) na) na rfl
  obtain ⟨l, ns, rfl, hq, hz, q1⟩ := q1
  cases r1
  obtain ⟨its, r, pl, hlen⟩ := I1.list hq
  refine set_of_list ns (I1.ok.hd hc) pl.isList (by simpa using r.ints) (by unfold scanBound; omega) fun g tk c hS hcn hk => ?_
  refine PyProof.Rows.args_nil ?_
  have I2 : Inv X pins σ H1 { s1 with heap := g, toks := tk } := I1.kept hk
  refine sorted_set hS (I2.ok.hd hc) (by omega) fun s' p out c2 ms k gg o hp hgp hi hs hmem hl => ?_
  have hlz : (ms.map V.int).length ≤ sizeLine := by rw [List.length_map, hl, sizeLine_eq]; omega
  have hn : H1 p = none := I2.hok.fresh hp
  have J : Inv X pins σ (upd H1 p (.lst (ms.map V.int))) { ({ s1 with heap := g, toks := tk } : Shared) with heap := s'.heap, gens := s'.gens, drawn := s'.drawn, toks := s'.toks } :=
    I2.call (ch := []) (Un.laid k hp hn) (I2.hok.laid k hp ⟨hlz, out.toList, c2, vals_of_ints hi, hgp⟩) (by rw [gg]; exact I2.bare) (fun _ z => nomatch z)
  have es : s' = { ({ s1 with heap := g, toks := tk } : Shared) with heap := s'.heap, gens := s'.gens, drawn := s'.drawn, toks := s'.toks } := by
    cases s'
    cases o
    rfl
  rw [es]
  exact ⟨.ref p, _, J, rfl, q1 ms p hs (fun j => by rw [hmem]; simp) hn⟩
end
/-! ### .. as a function of a store -/
def insU (k : Int) : List Int → List Int
  | [] => [k]
  | x :: r => if k < x then k :: x :: r else if k = x then x :: r else x :: insU k r
def sortU : List Int → List Int
  | [] => []
  | k :: r => insU k (sortU r)
theorem insU_mem {k j : Int} : ∀ {l : List Int}, j ∈ insU k l ↔ j = k ∨ j ∈ l
  | [] => by simp [insU]
  | x :: r => by
    unfold insU
    split
    · simp
    · split
      · rename_i h
        subst h
        simp
      · rw [List.mem_cons, insU_mem, List.mem_cons]
        constructor
        · rintro (h | h | h) <;> simp [h]
        · rintro (h | h | h) <;> simp [h]
theorem insU_srt {k : Int} : ∀ {l : List Int}, l.Pairwise (· < ·) → (insU k l).Pairwise (· < ·)
  | [], _ => by simp [insU]
  | x :: r, h => by
    obtain ⟨h1, h2⟩ := List.pairwise_cons.mp h
    unfold insU
    split
    · rename_i hk
      refine List.pairwise_cons.mpr ⟨fun y hy => ?_, h⟩
      rcases List.mem_cons.mp hy with rfl | hy
      · exact hk
      · exact Int.lt_trans hk (h1 y hy)
    · split
      · exact h
      · refine List.pairwise_cons.mpr ⟨fun y hy => ?_, insU_srt h2⟩
        rcases insU_mem.mp hy with rfl | hy
        · omega
        · exact h1 y hy
theorem sortU_mem {j : Int} : ∀ {l : List Int}, j ∈ sortU l ↔ j ∈ l
  | [] => Iff.rfl
  | k :: r => by rw [sortU, insU_mem, sortU_mem, List.mem_cons]
theorem sortU_srt : ∀ {l : List Int}, (sortU l).Pairwise (· < ·)
  | [] => .nil
  | _ :: _ => insU_srt sortU_srt
theorem srt_uniq : ∀ {xs ys : List Int}, xs.Pairwise (· < ·) → ys.Pairwise (· < ·) → (∀ k, k ∈ xs ↔ k ∈ ys) → xs = ys
  | [], [], _, _, _ => rfl
  | [], y :: s, _, _, h => absurd ((h y).mpr List.mem_cons_self) (by simp)
  | x :: r, [], _, _, h => absurd ((h x).mp List.mem_cons_self) (by simp)
  | x :: r, y :: s, h1, h2, h => by
    obtain ⟨a1, a2⟩ := List.pairwise_cons.mp h1
    obtain ⟨b1, b2⟩ := List.pairwise_cons.mp h2
    have e : x = y := by
      rcases List.mem_cons.mp ((h x).mp List.mem_cons_self) with e | e
      · exact e
      · rcases List.mem_cons.mp ((h y).mpr List.mem_cons_self) with e' | e'
        · exact e'.symm
        · have := b1 x e
          have := a1 y e'
          omega
    subst e
    rw [srt_uniq a2 b2 fun k => ?_]
    constructor
    · intro hk
      rcases List.mem_cons.mp ((h k).mp (List.mem_cons_of_mem _ hk)) with e | e
      · have := a1 k hk
        omega
      · exact e
    · intro hk
      rcases List.mem_cons.mp ((h k).mpr (List.mem_cons_of_mem _ hk)) with e | e
      · have := b1 k hk
        omega
      · exact e
theorem sortU_id {l : List Int} (h : l.Pairwise (· < ·)) : sortU l = l := srt_uniq sortU_srt h fun _ => sortU_mem
def xSortSet (fa : Env → Sto → R D) : Env → Sto → R D := fun env S => (fa env S).bind fun x S1 => match x with
  | .ref l => match (rdL S1 l).bind intsOf with
    | some ns => if ns.length < 64 then .ok (.ref S1.length) (S1 ++ [.lst ((sortU ns).map .int)]) else .bad
    | none => .bad
  | _ => .bad
section
variable {K : PySem.W.Frag} {W : Wc K}
theorem imp_sortSet {ta : TE} {fa : Env → Sto → R D} (ha : Imp K W (vr K) ta fa) : Imp K W (vr K) (tSortSet K ta) (xSortSet fa) :=
  imp_bind (tb := fun (x : V) _ H1 (Q : VK) => ∃ (l : Addr) (ns : List Int), x = V.ref l ∧ SqL K H1 l (ns.map V.int) ∧ ns.length < 64 ∧
    ∀ (ms : List Int) (p : Addr), ms.Pairwise (· < ·) → (∀ k : Int, k ∈ ms ↔ k ∈ ns) → H1 p = none → Q (.ref p) (upd H1 p (.lst (ms.map V.int)))) ha fun φ S H env σ x v rl e hv Q p => by
    split at p
    · split at p
      · rename_i l _ ns hi
        split at p
        · rename_i hz
          obtain ⟨xs, h1, h2⟩ := Option.bind_eq_some_iff.mp hi
          obtain ⟨_, rfl⟩ := hv.ref_inv
          obtain ⟨ws, w1, w2⟩ := rl.rd h1
          rw [intsOf_inv h2] at w2
          rw [w2.ints_inv] at w1
          refine ⟨_, ns, rfl, w1, hz, fun ms q hs hm hq => ?_⟩
          rw [srt_uniq hs (sortU_srt (l := ns)) fun k => (hm k).trans sortU_mem.symm]
          exact p.new rl hq (or_lst hq (VRs.ints _))
        · exact p.elim
      · exact p.elim
    · exact p.elim
theorem xSortSet_wp {fa : Env → Sto → R D} {env : Env} {S : Sto} : xSortSet fa env S = (fa env S).bind fun x S1 => match x with
  | .ref l => match (rdL S1 l).bind intsOf with
    | some ns => if ns.length < 64 then allo (.lst ((sortU ns).map .int)) S1 else .bad
    | none => .bad
  | _ => .bad := rfl
end
end Mi

namespace Mi
open PySem PySem.Spec PyProof.Rows L2 Evl My
/-! ### range(i, j, -1) -/
def dwnD (i : Int) (n : Nat) : List D := (List.range n).map fun (k : Nat) => .int (i - (k : Int))
theorem dwnD_len {i : Int} {n : Nat} : (dwnD i n).length = n := by simp [dwnD]
theorem dwnD_get {i : Int} {n k : Nat} {x : D} (h : (dwnD i n)[k]? = some x) : k < n ∧ x = .int (i - (k : Int)) := by
  have hk : k < n := by
    have := (List.getElem?_eq_some_iff.mp h).1
    rwa [dwnD_len] at this
  refine ⟨hk, ?_⟩
  unfold dwnD at h
  rw [List.getElem?_map, List.getElem?_range hk] at h
  exact (Option.some.inj h).symm
open Classical in
noncomputable def iR3 (fa : Env → Sto → R (List D)) : Env → Sto → R Itx := fun env S => (fa env S).bind fun ds S1 => match ds with
  | [.int i, .int j, .int c] => if c = -1 ∧ RngOk i ∧ RngOk j then .ok ⟨dwnD i (i - j).toNat, fun _ => True⟩ S1 else .bad
  | _ => .bad
section
variable {K : PySem.W.Frag} {W : Wc K} {φ : Nat → Addr} {n : Nat} {H : Hp}
theorem VRs.three_inv {x y z : D} {vs : List V} (h : VRs K φ n H [x, y, z] vs) : ∃ u v w, vs = [u, v, w] ∧ VR K φ n H x u ∧ VR K φ n H y v ∧ VR K φ n H z w := by
  cases h with
  | cons h1 h =>
    obtain ⟨v, w, rfl, h2, h3⟩ := h.two_inv
    exact ⟨_, v, w, rfl, h1, h2, h3⟩
theorem itr_dwn {i : Int} {k : Nat} : itr K φ n H ⟨dwnD i k, fun _ => True⟩ (Itc i (-1) k) := fun φ1 S1 H1 f r1 _ => ⟨fun j x hx => by
    obtain ⟨hj, rfl⟩ := dwnD_get hx
    refine ⟨hj, fun v H2 y => ?_⟩
    obtain ⟨rfl, rfl⟩ := y
    refine ⟨Ex.refl _, ?_⟩
    rw [show i + (j : Int) * (-1) = i - (j : Int) by omega]
    exact VR.int _, by
    show k ≤ (dwnD i k).length
    rw [dwnD_len]
    exact Nat.le_refl _⟩
theorem imp_iR3 {ta : TA} {fa : Env → Sto → R (List D)} (ha : Imp K W (vrs K) ta fa) : Imp K W (itr K) (iRng3 ta) (iR3 fa) :=
  imp_bind (tb := fun (vs : List V) _ H (Q : It → Hp → Prop) => ∃ (i j c : Int) (n : Nat), vs = [.int i, .int j, .int c] ∧ RgC i j c n ∧ Q (Itc i c n) H) ha fun φ S H env σ x v rl e hv Q p => by
    split at p
    · rename_i i j c
      obtain ⟨u1, u2, u3, rfl, g1, g2, g3⟩ := hv.three_inv
      cases g1; cases g2; cases g3
      split at p
      · rename_i hb
        obtain ⟨rfl, hi, hj⟩ := hb
        exact ⟨i, j, -1, _, rfl, RgC.neg hi.1 hi.2 hj.1 hj.2, p.here rl itr_dwn⟩
      · exact p.elim
    · exact p.elim
end
end Mi

namespace Mi
open PySem PySem.Spec PyProof.Rows L2 Evl My
/-! ### lists of ints: equal or not, how many different ones, parts -/
theorem ints_sh (as : List Int) : SeqAt.shaped (.list (as.map PyData.int)) = true := by
  have : ∀ l : List Int, PyData.canLayAll0 (l.map PyData.int) = true ∧ PyData.depthAll (l.map PyData.int) = 0 := fun l => by
    induction l with
    | nil => simp [PyData.canLayAll0, PyData.depthAll]
    | cons i l ih => simp [PyData.canLayAll0, PyData.depthAll, PyData.canLay0, PyData.depth, ih]
  obtain ⟨h1, h2⟩ := this as
  unfold SeqAt.shaped
  rw [PyData.canLay0, PyData.depth, h1, h2]
  decide
theorem ints_eqv (as bs : List Int) : PyData.eqv (.list (as.map PyData.int)) (.list (bs.map PyData.int)) = decide (as = bs) := by
  have : ∀ as bs : List Int, PyData.eqvAll (as.map PyData.int) (bs.map PyData.int) = decide (as = bs) := fun as => by
    induction as with
    | nil => intro bs; cases bs <;> simp [PyData.eqvAll]
    | cons i l ih =>
      intro bs
      cases bs with
      | nil => simp [PyData.eqvAll]
      | cons j r =>
        rw [List.map_cons, List.map_cons, PyData.eqvAll, ih, Bool.eq_iff_iff]
        simp [PyData.eqv]
  rw [PyData.eqv, this]
theorem DDs.ints {S : Sto} : ∀ as : List Int, DDs S (as.map .int) (as.map PyData.int)
  | [] => .nil
  | i :: r => .cons (.int i) (DDs.ints r)
theorem oEqD_ints {S : Sto} {neg : Bool} {l m : Nat} {as bs : List Int} (h : rdL S l = some (as.map .int)) (g : rdL S m = some (bs.map .int)) : oEqD neg (.ref l) (.ref m) S = .ok (.bl (if neg = true then !decide (as = bs) else decide (as = bs))) S := by
  rw [oEqD_eq (.lst h (DDs.ints as)) (.lst g (DDs.ints bs)) (ints_sh _) (ints_sh _), ints_eqv]
theorem dedup_snoc {l : List Int} {x : Int} : dedupL (l ++ [x]) = if x ∈ dedupL l then dedupL l else dedupL l ++ [x] := by
  unfold dedupL
  rw [List.foldl_append]
  simp [step_dedup]
theorem dedup_mem {k : Int} : ∀ {l : List Int}, k ∈ dedupL l ↔ k ∈ l := fun {l} => by
  have : ∀ m : List Int, k ∈ dedupL m.reverse ↔ k ∈ m := fun m => by
    induction m with
    | nil => rfl
    | cons x r ih =>
      rw [List.reverse_cons, dedup_snoc]
      by_cases h : x ∈ dedupL r.reverse
      · rw [if_pos h, ih, List.mem_cons]
        constructor
        · exact .inr
        · rintro (rfl | h')
          · exact ih.mp h
          · exact h'
      · rw [if_neg h, List.mem_append, ih, List.mem_singleton, List.mem_cons, or_comm]
  have h := this l.reverse
  rwa [List.reverse_reverse, List.mem_reverse] at h
theorem dedup_nodup : ∀ {l : List Int}, (dedupL l).Nodup := fun {l} => by
  have : ∀ m : List Int, (dedupL m.reverse).Nodup := fun m => by
    induction m with
    | nil => exact List.nodup_nil
    | cons x r ih =>
      rw [List.reverse_cons, dedup_snoc]
      by_cases h : x ∈ dedupL r.reverse
      · rw [if_pos h]; exact ih
      · rw [if_neg h]
        exact List.nodup_append.mpr ⟨ih, by simp, fun a ha b hb => by
          have : b = x := by simpa using hb
          subst this
          intro e
          subst e
          exact h ha⟩
  have h := this l.reverse
  rwa [List.reverse_reverse] at h
/-- how many different ones -/
def cnt (l : List Int) : Nat := (dedupL l).length
theorem cnt_uniq {s l : List Int} (h : s.Nodup) (m : ∀ k, k ∈ s ↔ k ∈ l) : s.length = cnt l :=
  ((List.perm_ext_iff_of_nodup h dedup_nodup).mpr fun k => (m k).trans dedup_mem.symm).length_eq
theorem cnt_mono {l l' : List Int} (h : ∀ k, k ∈ l → k ∈ l') : cnt l ≤ cnt l' := by
  have : ∀ (a b : List Int), a.Nodup → (∀ k, k ∈ a → k ∈ b) → a.length ≤ b.length := fun a => by
    induction a with
    | nil => intro b _ _; simp
    | cons x r ih =>
      intro b hn hs
      obtain ⟨h1, h2⟩ := List.nodup_cons.mp hn
      have hx := hs x List.mem_cons_self
      have := ih (b.erase x) h2 fun k hk => (List.mem_erase_of_ne fun e => h1 (by rw [← e]; exact hk)).mpr (hs k (List.mem_cons_of_mem _ hk))
      rw [List.length_erase_of_mem hx] at this
      have := List.length_pos_of_mem hx
      rw [List.length_cons]
      omega
  exact this _ _ dedup_nodup fun k hk => dedup_mem.mpr (h k (dedup_mem.mp hk))
theorem cnt_congr {l l' : List Int} (h : ∀ k, k ∈ l ↔ k ∈ l') : cnt l = cnt l' := Nat.le_antisymm (cnt_mono fun k => (h k).mp) (cnt_mono fun k => (h k).mpr)
theorem cnt_snoc {l : List Int} {x : Int} : cnt (l ++ [x]) = if x ∈ l then cnt l else cnt l + 1 := by
  unfold cnt
  rw [dedup_snoc]
  by_cases h : x ∈ l
  · rw [if_pos h, if_pos (dedup_mem.mpr h)]
  · rw [if_neg h, if_neg (fun z => h (dedup_mem.mp z)), List.length_append]
    rfl
theorem cnt_nil : cnt [] = 0 := rfl
theorem cnt_le {l : List Int} : cnt l ≤ l.length := dedup_len l
/-- the part from a to b -/
def sl (ns : List Int) (a b : Nat) : List Int := (ns.drop a).take (b - a)
theorem sl_get {ns : List Int} {a b j : Nat} : (sl ns a b)[j]? = if j < b - a then ns[a + j]? else none := by
  unfold sl
  rw [List.getElem?_take, List.getElem?_drop]
theorem mem_sl {ns : List Int} {a b : Nat} {k : Int} : k ∈ sl ns a b ↔ ∃ i, a ≤ i ∧ i < b ∧ ns[i]? = some k := by
  rw [List.mem_iff_getElem?]
  constructor
  · rintro ⟨j, hj⟩
    rw [sl_get] at hj
    split at hj
    · exact ⟨a + j, by omega, by omega, hj⟩
    · cases hj
  · rintro ⟨i, h1, h2, h3⟩
    refine ⟨i - a, ?_⟩
    rw [sl_get, if_pos (by omega), show a + (i - a) = i by omega]
    exact h3
theorem sl_snoc {ns : List Int} {a i : Nat} {x : Int} (h : a ≤ i) (e : ns[i]? = some x) : sl ns a (i + 1) = sl ns a i ++ [x] := by
  unfold sl
  rw [show i + 1 - a = (i - a) + 1 by omega, List.take_succ, List.getElem?_drop, show a + (i - a) = i by omega, e]
  rfl
theorem sl_self {ns : List Int} {a : Nat} : sl ns a a = [] := by simp [sl]
theorem sl_len {ns : List Int} {a b : Nat} (hb : b ≤ ns.length) : (sl ns a b).length = b - a := by
  unfold sl
  rw [List.length_take, List.length_drop]
  omega
theorem cnt_sl_mono {ns : List Int} {a b a' b' : Nat} (h1 : a' ≤ a) (h2 : b ≤ b') : cnt (sl ns a b) ≤ cnt (sl ns a' b') := cnt_mono fun k hk => by
  obtain ⟨i, q1, q2, q3⟩ := mem_sl.mp hk
  exact mem_sl.mpr ⟨i, by omega, by omega, q3⟩
theorem cut_sl {ns : List Int} {a b : Nat} (ha : a ≤ b) (hb : b ≤ ns.length) : cutX (ns.map D.int) (some (a : Int)) (some (b : Int)) = (sl ns a b).map D.int := by
  unfold cutX sl
  rw [HT.sIx_nat, HT.sIx_nat, List.length_map, Nat.min_eq_left (by omega), Nat.min_eq_left (by omega), List.map_take, List.map_drop]
theorem cut_from {ns : List Int} {a : Nat} (ha : a ≤ ns.length) : cutX (ns.map D.int) (some (a : Int)) none = (ns.drop a).map D.int := by
  unfold cutX
  rw [HT.sIx_nat, HT.sIx_none, List.length_map, Nat.min_eq_left ha, List.map_drop, List.take_of_length_le (by simp)]
theorem atI_int {ns : List Int} {i : Int} {x : Int} (h0 : 0 ≤ i) (h : ns[i.toNat]? = some x) : atI (ns.map D.int) i = some (.int x) := atI_of h0 (by rw [List.getElem?_map, h]; rfl)
end Mi

namespace Mi
open PySem PySem.Spec PyProof.Rows L2 Evl My
/-! ### a list that the chunks tell -/
section
variable {As Bs : List Asn} {A : Asn} {l : Nat} {xs : List D} {S : Sto}
def Rd (As : List Asn) (l : Nat) (xs : List D) : Prop := ∀ S, Hs As S → rdL S l = some xs
theorem Rd.pt (i : Nat) (e : As[i]? = some (pt l (.lst xs)) := by rfl) : Rd As l xs := fun _ h => h.rp i e
theorem Rd.rl (i : Nat) (e : As[i]? = some (rl l xs) := by rfl) : Rd As l xs := fun _ h => h.rd i e
theorem Rd.cons (h : Rd As l xs) : Rd (A :: As) l xs := fun S q => h S q.drop
theorem Hs.left (h : Hs (As ++ Bs) S) : Hs As S := by
  have := h.swap
  clear h
  induction Bs with
  | nil => exact this
  | cons B Bs ih => exact ih this.drop
theorem Rd.app (h : Rd As l xs) : Rd (As ++ Bs) l xs := fun S q => h S q.left
/-- the front one to the place k -/
def insAt {α : Type} : Nat → α → List α → List α
  | 0, a, l => a :: l
  | k + 1, a, x :: l => x :: insAt k a l
  | _ + 1, a, [] => [a]
theorem HsF.dn : ∀ {k : Nat} {As : List Asn} {A : Asn} {S : Sto} {F : List Nat}, HsF (A :: As) S F → ∃ F', F'.Perm F ∧ HsF (insAt k A As) S F'
  | 0, _, _, _, F, h => ⟨F, .refl _, h⟩
  | _ + 1, [], _, _, F, h => ⟨F, .refl _, h⟩
  | k + 1, B :: As, A, S, F, ⟨F1, F2, e, h1, F3, F4, e2, h3, h4⟩ => by
    obtain ⟨F', p, q⟩ := HsF.dn (k := k) (As := As) (A := A) (F := F1 ++ F4) ⟨F1, F4, rfl, h1, h4⟩
    refine ⟨F3 ++ F', ?_, F3, F', rfl, h3, q⟩
    rw [e, e2]
    refine (List.Perm.append_left F3 p).trans ?_
    rw [← List.append_assoc, ← List.append_assoc]
    exact List.Perm.append_right F4 List.perm_append_comm
theorem Hs.dn (k : Nat) (h : Hs (A :: As) S) : Hs (insAt k A As) S := by
  obtain ⟨F, h1, h2, h3⟩ := h
  obtain ⟨F', p, q⟩ := h1.dn (k := k)
  exact ⟨F', q, p.nodup_iff.mpr h2, fun l hl => h3 l (p.mem_iff.mp hl)⟩
/-- a condition that is told by a name -/
theorem Ok.name {α : Type} {r : R α} {P : α → Sto → Prop} (h : Ok r P) : ∃ a S', r = .ok a S' ∧ P a S' := h.ex
variable {env0 env : Env}
/-- a comprehension, by a word about the items so far -/
theorem wpe_compQ {K : Cn D} {ok : Sto → Prop} {fg : XG} {ft : Env → Sto → R Bool} {fe : Env → Sto → R D} {items : List D} (I : Nat → List D → Prop) (h : Hs As S) (start : I 0 []) (hok : ∀ Bs S', Hs (As ++ Bs) S' → ok S')
    (turn : ∀ i x acc Bs S', items[i]? = some x → I i acc → Hs (As ++ Bs) S' → wpe (K := ⟨fun e1 S1 => wpe (K := ⟨fun b S2 => if b = true then wpe (K := ⟨fun y S3 => I (i + 1) (acc ++ [y]) ∧ Hs (As ++ Bs) S3, noX⟩) (fe e1 S2) else I (i + 1) acc ∧ Hs (As ++ Bs) S2, noX⟩) (ft e1 S1), noX⟩) (fg x env0 S'))
    (hl : items.length ≤ 100000) (k : ∀ l S' acc, I items.length acc → acc.length ≤ items.length → Hs (pt l (.lst acc) :: As) S' → K.k (.ref l) S') : wpe (compX ok fg ft fe env0 S.length items (S ++ [.lst []])) := by
  generalize hm : S.length = l
  have h0 : Hs (Mi.pt l (.lst []) :: As) (S ++ [.lst []]) := by subst hm; exact h.new
  have sw : ∀ {acc : List D} {S : Sto}, Hs (Mi.pt l (.lst acc) :: As) S → Hs (As ++ [Mi.pt l (.lst acc)]) S := fun {acc S} h => Hs.swap (As := [Mi.pt l (.lst acc)]) (Bs := As) h
  have ws : ∀ {acc : List D} {S : Sto}, Hs (As ++ [Mi.pt l (.lst acc)]) S → Hs (Mi.pt l (.lst acc) :: As) S := fun {acc S} h => Hs.swap (As := As) (Bs := [Mi.pt l (.lst acc)]) h
  refine comp_go (fun i acc S => Hs (Mi.pt l (.lst acc) :: As) S ∧ I i acc ∧ acc.length ≤ i ∧ i ≤ items.length) (fun i acc S q => ⟨hok _ S (sw q.1), q.1.at0⟩) items 0 [] _ (fun i x acc S hx ⟨h, e, ha, hi⟩ => ?_) (fun acc S ⟨h, e, ha, _⟩ => k l S acc (by rw [Nat.zero_add] at e; exact e) (by omega) h) ⟨h0, start, Nat.le_refl _, Nat.zero_le _⟩
  have hlt := (List.getElem?_eq_some_iff.mp hx).1
  rw [Nat.zero_add] at e ha ⊢
  have t := turn i x acc _ S hx e (sw h)
  cases hg : fg x env0 S with
  | ok e1 S1 =>
    rw [hg] at t
    change wpe (K := ⟨fun b S2 => if b = true then wpe (K := ⟨fun y S3 => I (i + 1) (acc ++ [y]) ∧ Hs (As ++ [Mi.pt l (.lst acc)]) S3, noX⟩) (fe e1 S2) else I (i + 1) acc ∧ Hs (As ++ [Mi.pt l (.lst acc)]) S2, noX⟩) (ft e1 S1) at t
    show wpe (K := ⟨fun b S2 => if b = true then wpe (K := ⟨fun y S3 => at_ S3 l = some (.lst acc) ∧ acc.length < 100000 ∧ (Hs (Mi.pt l (.lst (acc ++ [y])) :: As) (S3.set l (.lst (acc ++ [y]))) ∧ I (i + 1) (acc ++ [y]) ∧ (acc ++ [y]).length ≤ i + 1 ∧ i + 1 ≤ items.length), noX⟩) (fe e1 S2) else (Hs (Mi.pt l (.lst acc) :: As) S2 ∧ I (i + 1) acc ∧ acc.length ≤ i + 1 ∧ i + 1 ≤ items.length), noX⟩) (ft e1 S1)
    cases ht : ft e1 S1 with
    | ok b S2 =>
      rw [ht] at t
      change (if b = true then wpe (K := ⟨fun y S3 => I (i + 1) (acc ++ [y]) ∧ Hs (As ++ [Mi.pt l (.lst acc)]) S3, noX⟩) (fe e1 S2) else I (i + 1) acc ∧ Hs (As ++ [Mi.pt l (.lst acc)]) S2) at t
      show (if b = true then _ else _)
      cases b with
      | false =>
        rw [if_neg (by simp)] at t ⊢
        exact ⟨ws t.2, t.1, by omega, by omega⟩
      | true =>
        rw [if_pos rfl] at t ⊢
        cases he : fe e1 S2 with
        | ok y S3 =>
          rw [he] at t
          obtain ⟨h1, h2⟩ : I (i + 1) (acc ++ [y]) ∧ Hs (As ++ [Mi.pt l (.lst acc)]) S3 := t
          exact ⟨(ws h2).at0, by omega, (ws h2).set, h1, by simp; omega, by omega⟩
        | exc c fs S1 => rw [he] at t; exact t.elim
        | bad => rw [he] at t; exact t.elim
    | exc c fs S1 => rw [ht] at t; exact t.elim
    | bad => rw [ht] at t; exact t.elim
  | exc c fs S1 => rw [hg] at t; exact t.elim
  | bad => rw [hg] at t; exact t.elim
/-- all that comes are ints -/
def AllInt (ys : List D) : Prop := ∃ xs : List Int, ys = xs.map .int
theorem AllInt.snoc {ys : List D} {i : Int} (h : AllInt ys) : AllInt (ys ++ [.int i]) := by
  obtain ⟨xs, rfl⟩ := h
  exact ⟨xs ++ [i], by simp⟩
theorem AllInt.nil : AllInt [] := ⟨[], rfl⟩
end
end Mi

namespace KeyL
open PySem PySem.Spec PyProof.Rows L2
/-! ### what stays while a built-in asks a key again and again -/
section
variable {X : L2.Cx} {pins : List (Addr × Obj)} {σ : L2.St} {H : Hp} {s0 s s1 : Shared}
structure Mid (X : L2.Cx) (H : Hp) (s0 s : Shared) : Prop where
  os : s.os = s0.os
  bare : AllBare s.gens
  un : Un (frs X.stack) [] H H s0.heap s.heap
  ok : HOk X.prog X.w H s.heap
theorem Mid.inv (m : Mid X H s0 s) (I : Inv X pins σ H s0) : Inv X pins σ H s := I.call' m.os m.un m.ok m.bare (fun b z => absurd z (by simp))
theorem Mid.refl (I : Inv X pins σ H s0) : Mid X H s0 s0 := ⟨rfl, I.bare, Un.refl, I.hok⟩
theorem Mid.kept {h' : Heap} {t : Nat} (m : Mid X H s0 s) (k : ∀ b u, s.heap.get? b = some u → h'.get? b = some u) : Mid X H s0 { s with heap := h', toks := t } :=
  ⟨m.os, m.bare, m.un.trans (Un.kept k), m.ok.kept k⟩
/-- private things of the built-in change -/
theorem Mid.priv {h' : Heap} {t : Nat} {bs : List Addr} (m : Mid X H s0 s) (hb : ∀ b ∈ bs, s0.heap.objs.size ≤ b ∧ H b = none) (k : ∀ b u, b ∉ bs → s.heap.get? b = some u → h'.get? b = some u) : Mid X H s0 { s with heap := h', toks := t } := by
  have old : ∀ b u, s0.heap.get? b = some u → b ∉ bs := fun b u e z => Nat.lt_irrefl _ (Nat.lt_of_lt_of_le (Heap.lt_size e) (hb b z).1)
  have tr : ∀ b u, H b = some u → b ∉ bs := fun b u e z => by rw [(hb b z).2] at e; cases e
  refine ⟨m.os, m.bare, ⟨fun b o e n h1 h2 => k b o (old b o e) (m.un.keep b o e n h1 h2), fun b o e n h1 h2 => ?_, fun b o _ n _ => n, fun b o e h2 => ?_, fun b xs e => e, fun b o u e => e, fun b ps e => ⟨#[], by rw [e]; simp⟩⟩, fun b o e => ?_⟩
  · obtain ⟨sl, q⟩ := m.un.slot b o e n h1 h2
    exact ⟨sl, k b _ (old b o e) q⟩
  · obtain ⟨o', q⟩ := m.un.there b o e h2
    exact ⟨o', k b _ (old b o e) q⟩
  · refine (m.ok b o e).stay (fun c v hc q => k c v ?_ q) (fun _ q => q) fun _ _ q => q
    rcases hc with rfl | hc
    · exact tr _ _ e
    · exact tr _ _ hc
theorem Mid.after {h2 : Shared} (m : Mid X H s0 s) (os : h2.os = s.os) (bare : AllBare h2.gens) (un : Un (frs X.stack) [] H H s.heap h2.heap) (ok : HOk X.prog X.w H h2.heap) : Mid X H s0 h2 :=
  ⟨os.trans m.os, bare, m.un.trans un, ok⟩
theorem nofr (I : Inv X pins σ H s) {f : Addr} (hf : s.heap.objs.size ≤ f) : f ∉ frs X.stack := fun z => by
  rcases List.mem_cons.mp (I.stkSub _ z) with e | e
  · have := I.lt
    rw [← e] at this
    exact Nat.lt_irrefl _ (Nat.lt_of_lt_of_le this hf)
  · exact I.nofs hf e
/-- a key that makes ints of ints, and leaves what is tracked -/
def KeyAt (X : L2.Cx) (H : Hp) (s0 : Shared) (f : Addr) (kf : Int → Int) (good : Int → Prop) : Prop := ∀ (s : Shared) (n : Int) (t : Tok), Mid X H s0 s → good n →
  codeAny (model X.prog X.w) X.A.in1 (.call (.ref f) ⟨[.int n t], []⟩) (CR CX0 X.stack X.prog X.w H s (fun v H' => v = .int (kf n) ∧ H' = H) E0) s
theorem KeyAt.run {f : Addr} {kf : Int → Int} {good : Int → Prop} {n : Int} {t : Tok} {Q : Value → Shared → Prop} {E : Value → Shared → Prop} (k : KeyAt X H s0 f kf good) (m : Mid X H s0 s) (g : good n)
    (q : ∀ t' s', Mid X H s0 s' → Mid X H s s' → Q (.int (kf n) t') s') (I : Inv X pins σ H s) : wpAny (model X.prog X.w) X.A.in1 (call (.ref f) [.int n t]) Q E s := by
  refine wpAny_call (codeAny_mono (k s n t m g) fun r s' hr => ?_)
  cases r with
  | error e => exact hr.elim
  | ok fl =>
    cases fl with
    | ret u =>
      obtain ⟨v, H', os, bare, un, hok, rv, rfl, rfl⟩ := hr
      obtain ⟨t', rfl⟩ := rv
      exact q t' s' (m.after os bare un hok) ((Mid.refl I).after os bare un hok)
    | next => exact hr.elim
    | brk => exact hr.elim
    | cont => exact hr.elim
end
/-- the first one of the smallest -/
def bMin (kf : Int → Int) : Int → List Int → Int
  | b, [] => b
  | b, n :: r => bMin kf (if kf n < kf b then n else b) r
section
variable {X : L2.Cx} {pins : List (Addr × Obj)} {σ : L2.St} {H : Hp} {s0 : Shared}
theorem min_turns {l f I S : Addr} {ns : List Int} {kf : Int → Int} {R : Result → Shared → Prop} (I0 : Inv X pins σ H s0) (hh : X.A.handled = none) (hs : SqL X.K H l (ns.map V.int)) (hk : KeyAt X H s0 f kf (· ∈ ns))
    (hI : s0.heap.objs.size ≤ I ∧ H I = none) (hS : s0.heap.objs.size ≤ S ∧ H S = none) (hIS : S ≠ I) (hlI : l ≠ I)
    (fI : I ∉ frs X.stack) (fS : S ∉ frs X.stack) (hR : ∀ s t m, Mid X H s0 s → R (.ok (.ret (.int m t))) s → True) :
    ∀ (r j : Nat) (b : Int) (tb tk : Tok) (c : Nat) (s : Shared), ns.length - j = r → j ≤ ns.length → Mid X H s0 s → s.heap.IsListIter I l j → s.heap.get? S = some (seqObj "list" #[.int b tb, .int (kf b) tk] c) →
      (∀ s' t, Mid X H s0 s' → R (.ok (.ret (.int (bMin kf b (ns.drop j)) t))) s') → codeAny (model X.prog X.w) X.A (.builtin "min.loop" ⟨[.ref I, .ref f, .ref S], []⟩) R s := by
  have nm : (toString "min" ++ toString ".loop" : String) = "min.loop" := by decide
  intro r
  induction r with
  | zero =>
    intro j b tb tk c s hr hj m hit hSo q
    obtain ⟨its, rv, pl, _⟩ := (m.inv I0).list hs
    have sz : its.toArray.size = ns.length := by rw [List.size_toArray, ← rv.length, List.length_map]
    have W := Walks.list (prog := X.prog) (w := X.w) (A := X.A.in1) hh I l hlI its.toArray
    refine codeAny_builtin PySem.F.entry_min_loop ?_
    rw [Around.under_plainId PySem.F.plain_min_loop _]
    change wpAny _ X.A.in1 (seqItems? (.ref S) >>= _) _ _ _
    refine wpAny_bind (wpAny_seqItems hSo rfl ?_)
    change wpAny _ X.A.in1 (tryCatch (pyNext (.ref I)) _ >>= _) _ _ _
    refine wpAny_bind (wpAny_tryCatch (W.done _ _ _ ⟨by rw [sz, show ns.length = j by omega]; exact hit, pl.isList⟩ fun h1 t1 k1 => ?_))
    have m1 : Mid X H s0 { s with heap := h1, toks := t1 } := m.priv (bs := [I]) (fun b hb => by rw [List.mem_singleton.mp hb]; exact hI) k1
    have hS1 := k1 S _ (by simpa using hIS) hSo
    change wpAny _ X.A.in1 (updateSeq S (fun _ => #[]) >>= _) _ _ _
    refine wpAny_bind (wpAny_updateSeq hS1 rfl (wpAny_bind (wpAny_letGo (wpAny_pure ?_))))
    have e : bMin kf b (ns.drop j) = b := by rw [List.drop_eq_nil_of_le (by omega)] <;> rfl
    rw [e] at q
    exact q _ _ (m1.priv (bs := [S]) (fun b hb => by rw [List.mem_singleton.mp hb]; exact hS) fun b o hb e => ((Heap.SameBut.update h1 S (Obj.mapSeq fun _ => (#[] : Array Value))).2 b (by simpa using hb)).trans e)
  | succ r ih =>
    intro j b tb tk c s hr hj m hit hSo q
    have hlt : j < ns.length := by omega
    obtain ⟨n, hn⟩ : ∃ n, ns[j]? = some n := ⟨_, List.getElem?_eq_getElem hlt⟩
    have hd : ns.drop j = n :: ns.drop (j + 1) := by rw [List.drop_eq_getElem_cons hlt, (List.getElem?_eq_some_iff.mp hn).2]
    obtain ⟨its, rv, pl, _⟩ := (m.inv I0).list hs
    have sz : its.toArray.size = ns.length := by rw [List.size_toArray, ← rv.length, List.length_map]
    have W := Walks.list (prog := X.prog) (w := X.w) (A := X.A.in1) hh I l hlI its.toArray
    refine codeAny_builtin PySem.F.entry_min_loop ?_
    rw [Around.under_plainId PySem.F.plain_min_loop _]
    change wpAny _ X.A.in1 (seqItems? (.ref S) >>= _) _ _ _
    refine wpAny_bind (wpAny_seqItems hSo rfl ?_)
    change wpAny _ X.A.in1 (tryCatch (pyNext (.ref I)) _ >>= _) _ _ _
    refine wpAny_bind (wpAny_tryCatch (W.item j _ _ _ (by rw [sz]; exact hlt) ⟨hit, pl.isList⟩ fun v h1 t1 hv st1 k1 => ?_))
    obtain ⟨tv, rfl⟩ : ∃ tv, v = .int n tv := by
      obtain ⟨t, e⟩ := rv.ints.get j n hn
      have : its[j]? = some v := by simpa using hv
      rw [this] at e
      exact ⟨t, Option.some.inj e⟩
    have m1 : Mid X H s0 { s with heap := h1, toks := t1 } := m.priv (bs := [I]) (fun b hb => by rw [List.mem_singleton.mp hb]; exact hI) k1
    have hS1 := k1 S _ (by simpa using hIS) hSo
    obtain ⟨oI, hoI, oIc, oId⟩ := id st1.1
    change wpAny _ X.A.in1 (tryCatch (holding [Value.int n tv] (call (.ref f) [Value.int n tv])) _ >>= _) _ _ _
    refine wpAny_bind (wpAny_tryCatch (wpAny_holding (hk.run (pins := pins) (σ := σ) m1 (List.mem_of_getElem? hn) (fun t2 s2 m2 w2 => ?_) (m1.inv I0))))
    have hS2 := w2.un.keep S _ hS1 hS.2 fS (by simp)
    have hI2 := w2.un.keep I _ hoI hI.2 fI (by simp)
    have it2 : s2.heap.IsListIter I l (j + 1) := ⟨oI, hI2, oIc, oId⟩
    change wpAny _ X.A.in1 (tryCatch (holding [Value.int n tv, .int (kf n) t2] (richCompare .Lt (.int (kf n) t2) (.int (kf b) tk) >>= _)) _ >>= _) _ _ _
    obtain ⟨g, g0, g1⟩ : ∃ g : Nat → Int, g 0 = kf n ∧ g 1 = kf b := ⟨fun i => if i = 0 then kf n else kf b, rfl, rfl⟩
    refine wpAny_bind (wpAny_tryCatch (wpAny_holding (wpAny_bind (CmpOf.ints_lt (prog := X.prog) (w := X.w) (A := X.A.in1) (P := fun i v => ∃ t, v = .int (g i) t) g (fun i v h => h) 0 1 _ _ _ _ _ ⟨t2, by rw [g0]⟩ ⟨tk, by rw [g1]⟩ ?_))))
    refine wpAny_bind (wpAny_holding (wpAny_truthy_bool ?_))
    refine wpAny_bind (wpAny_letGo (wpAny_pure ?_))
    have hq : ∀ b' : Int, b' = (if kf n < kf b then n else b) → ∀ s' t, Mid X H s0 s' → R (.ok (.ret (.int (bMin kf b' (ns.drop (j + 1))) t))) s' := fun b' hb' s' t ms => by
      have := q s' t ms
      rw [hd, bMin, ← hb'] at this
      exact this
    by_cases hc : kf n < kf b
    · simp only [g0, g1, hc, decide_true, if_true]
      refine wpAny_bind (wpAny_updateSeq hS2 rfl (wpAny_bind (wpAny_letGo ?_)))
      rw [nm]
      have up := Heap.SameBut.update s2.heap S (Obj.mapSeq fun _ => #[Value.int n tv, .int (kf n) t2])
      obtain ⟨c2, hc2⟩ : ∃ c2, (s2.heap.update S (Obj.mapSeq fun _ => #[Value.int n tv, .int (kf n) t2])).get? S = some (seqObj "list" #[Value.int n tv, .int (kf n) t2] c2) := ⟨_, get?_update_seq hS2 fun _ => #[Value.int n tv, .int (kf n) t2]⟩
      refine wpAny_pure ⟨plainId_quiet PySem.F.plain_min_loop _, ih (j + 1) n tv t2 c2 _ (by omega) hlt (m2.priv (bs := [S]) (fun b hb => by rw [List.mem_singleton.mp hb]; exact hS) fun b o hb e => (up.2 b (by simpa using hb)).trans e) ⟨oI, (up.2 I hIS.symm).trans hI2, oIc, oId⟩ hc2 (hq n (by rw [if_pos hc]))⟩
    · simp only [g0, g1, hc, decide_false, Bool.false_eq_true, if_false]
      refine wpAny_bind (wpAny_letGo ?_)
      rw [nm]
      exact wpAny_pure ⟨plainId_quiet PySem.F.plain_min_loop _, ih (j + 1) b tb tk c _ (by omega) hlt m2 it2 hS2 (hq b (by rw [if_neg hc]))⟩
theorem min_key {l f : Addr} {n0 : Int} {r : List Int} {kf : Int → Int} {Q : Value → Shared → Prop} {E : Value → Shared → Prop} (I0 : Inv X pins σ H s0) (hh : X.A.handled = none) (hs : SqL X.K H l ((n0 :: r).map V.int)) (hk : KeyAt X H s0 f kf (· ∈ n0 :: r))
    (q : ∀ s t, Mid X H s0 s → Q (.int (bMin kf n0 r) t) s) : wpAny (model X.prog X.w) X.A (call (.builtin "min") [.ref l] [(Str.ofString "key", .ref f)]) Q E s0 := by
  have nm : (toString "min" ++ toString ".loop" : String) = "min.loop" := by decide
  obtain ⟨its, rv, pl, _⟩ := I0.list hs
  have ll : l < s0.heap.objs.size := by
    obtain ⟨o, e, _⟩ := pl.isList
    exact Heap.lt_size e
  refine kmk_tree PySem.F.kind_min PySem.F.plain_min PySem.F.entry_min (kmk_min_key _ _) ?_
  change wpAny _ X.A.in1 (Builtin.Builtins.bindParams "min" ["key", "default"] 0 ⟨[], [(Str.ofString "key", .ref f)]⟩ >>= _) _ _ s0
  refine wpAny_bind (wpAny_of_eq (show Builtin.Builtins.bindParams "min" ["key", "default"] 0 ⟨[], [(Str.ofString "key", .ref f)]⟩ = pure [some (.ref f), none] from rfl) ?_)
  refine wpAny_bind (wpAny_pure ?_)
  refine wpAny_bind (wpAny_pyIter_list pl.isList ?_)
  refine wpAny_bind (wpAny_newList ?_ (Nat.zero_le _))
  rw [nm]
  refine wpAny_pure ⟨plainId_quiet PySem.F.plain_min_loop _, ?_⟩
  obtain ⟨hA, hAe⟩ : ∃ hA, hA = s0.heap.push { cls := .type "list_iterator", data := .fields #[.ref l, .int 0 0] } := ⟨_, rfl⟩
  have zA : hA.objs.size = s0.heap.objs.size + 1 := by rw [hAe, Heap.size_push]
  have gI : (hA.push (seqObj "list" #[] 0)).get? s0.heap.objs.size = some { cls := .type "list_iterator", data := .fields #[.ref l, .int 0 0] } := Heap.get?_push_of_some _ (by rw [hAe]; exact Heap.get?_push_size _ rfl)
  have gS : (hA.push (seqObj "list" #[] 0)).get? hA.objs.size = some (seqObj "list" #[] 0) := Heap.get?_push_size _ rfl
  have kp : ∀ b o, s0.heap.get? b = some o → (hA.push (seqObj "list" #[] 0)).get? b = some o := fun b o e => Heap.get?_push_of_some _ (by rw [hAe]; exact Heap.get?_push_of_some _ e)
  rw [← hAe]
  have hI : s0.heap.objs.size ≤ s0.heap.objs.size ∧ H s0.heap.objs.size = none := ⟨Nat.le_refl _, I0.hok.fresh (Nat.le_refl _)⟩
  have hS : s0.heap.objs.size ≤ hA.objs.size ∧ H hA.objs.size = none := ⟨by omega, I0.hok.fresh (by omega)⟩
  have hIS : hA.objs.size ≠ s0.heap.objs.size := by omega
  have hlI : l ≠ s0.heap.objs.size := Nat.ne_of_lt ll
  have m0 : Mid X H s0 { s0 with heap := hA.push (seqObj "list" #[] 0), toks := s0.toks } := (Mid.refl I0).kept kp
  obtain ⟨its, rv, pl, _⟩ := (m0.inv I0).list hs
  have sz : its.toArray.size = (n0 :: r).length := by rw [List.size_toArray, ← rv.length, List.length_map]
  have W := Walks.list (prog := X.prog) (w := X.w) (A := X.A.in1) hh s0.heap.objs.size l hlI its.toArray
  refine codeAny_builtin PySem.F.entry_min_loop ?_
  rw [Around.under_plainId PySem.F.plain_min_loop _]
  change wpAny _ X.A.in1 (seqItems? (.ref _) >>= _) _ _ _
  refine wpAny_bind (wpAny_seqItems gS rfl ?_)
  change wpAny _ X.A.in1 (tryCatch (pyNext (.ref s0.heap.objs.size)) _ >>= _) _ _ _
  refine wpAny_bind (wpAny_tryCatch (W.item 0 _ _ _ (by rw [sz]; exact Nat.succ_pos _) ⟨⟨_, gI, rfl, rfl⟩, pl.isList⟩ fun v h1 t1 hv st1 k1 => ?_))
  obtain ⟨tv, rfl⟩ : ∃ tv, v = .int n0 tv := by
    obtain ⟨t, e⟩ := rv.ints.get 0 n0 rfl
    have : its[0]? = some v := by simpa using hv
    rw [this] at e
    exact ⟨t, Option.some.inj e⟩
  have m1 := m0.priv (h' := h1) (t := t1) (bs := [s0.heap.objs.size]) (fun b hb => by rw [List.mem_singleton.mp hb]; exact hI) k1
  have hS1 := k1 _ _ (by simpa using hIS) gS
  obtain ⟨oI, hoI, oIc, oId⟩ := id st1.1
  change wpAny _ X.A.in1 (tryCatch (holding [Value.int n0 tv] (call (.ref f) [Value.int n0 tv])) _ >>= _) _ _ _
  refine wpAny_bind (wpAny_tryCatch (wpAny_holding (hk.run (pins := pins) (σ := σ) m1 List.mem_cons_self (fun t2 s2 m2 w2 => ?_) (m1.inv I0))))
  have fI : s0.heap.objs.size ∉ frs X.stack := nofr I0 (Nat.le_refl _)
  have fS : hA.objs.size ∉ frs X.stack := nofr I0 (by omega)
  have hS2 := w2.un.keep _ _ hS1 hS.2 fS (by simp)
  have hI2 := w2.un.keep _ _ hoI hI.2 fI (by simp)
  have up := Heap.SameBut.update s2.heap hA.objs.size (Obj.mapSeq fun _ => #[Value.int n0 tv, .int (kf n0) t2])
  obtain ⟨c2, hc2⟩ : ∃ c2, (s2.heap.update hA.objs.size (Obj.mapSeq fun _ => #[Value.int n0 tv, .int (kf n0) t2])).get? hA.objs.size = some (seqObj "list" #[Value.int n0 tv, .int (kf n0) t2] c2) := ⟨_, get?_update_seq hS2 fun _ => #[Value.int n0 tv, .int (kf n0) t2]⟩
  change wpAny _ X.A.in1 (updateSeq hA.objs.size (fun _ => #[Value.int n0 tv, .int (kf n0) t2]) >>= _) _ _ _
  refine wpAny_bind (wpAny_updateSeq hS2 rfl ?_)
  rw [nm]
  refine wpAny_pure ⟨plainId_quiet PySem.F.plain_min_loop _, min_turns I0 hh hs hk hI hS hIS hlI fI fS (fun _ _ _ _ _ => trivial) _ 1 n0 tv t2 c2 _ rfl (by simp) (m2.priv (bs := [hA.objs.size]) (fun b hb => by rw [List.mem_singleton.mp hb]; exact hS) fun b o hb e => (up.2 b (by simpa using hb)).trans e) ⟨oI, (up.2 _ hIS.symm).trans hI2, oIc, oId⟩ hc2 fun s' t ms => q s' t ms⟩
end
/-- the first one of the largest -/
def bMax (kf : Int → Int) : Int → List Int → Int
  | b, [] => b
  | b, n :: r => bMax kf (if kf n > kf b then n else b) r
section
variable {X : L2.Cx} {pins : List (Addr × Obj)} {σ : L2.St} {H : Hp} {s0 : Shared}
theorem max_turns {l f I S : Addr} {ns : List Int} {kf : Int → Int} {R : Result → Shared → Prop} (I0 : Inv X pins σ H s0) (hh : X.A.handled = none) (hs : SqL X.K H l (ns.map V.int)) (hk : KeyAt X H s0 f kf (· ∈ ns))
    (hI : s0.heap.objs.size ≤ I ∧ H I = none) (hS : s0.heap.objs.size ≤ S ∧ H S = none) (hIS : S ≠ I) (hlI : l ≠ I)
    (fI : I ∉ frs X.stack) (fS : S ∉ frs X.stack) (hR : ∀ s t m, Mid X H s0 s → R (.ok (.ret (.int m t))) s → True) :
    ∀ (r j : Nat) (b : Int) (tb tk : Tok) (c : Nat) (s : Shared), ns.length - j = r → j ≤ ns.length → Mid X H s0 s → s.heap.IsListIter I l j → s.heap.get? S = some (seqObj "list" #[.int b tb, .int (kf b) tk] c) →
      (∀ s' t, Mid X H s0 s' → R (.ok (.ret (.int (bMax kf b (ns.drop j)) t))) s') → codeAny (model X.prog X.w) X.A (.builtin "max.loop" ⟨[.ref I, .ref f, .ref S], []⟩) R s := by
  have nm : (toString "max" ++ toString ".loop" : String) = "max.loop" := by decide
  intro r
  induction r with
  | zero =>
    intro j b tb tk c s hr hj m hit hSo q
    obtain ⟨its, rv, pl, _⟩ := (m.inv I0).list hs
    have sz : its.toArray.size = ns.length := by rw [List.size_toArray, ← rv.length, List.length_map]
    have W := Walks.list (prog := X.prog) (w := X.w) (A := X.A.in1) hh I l hlI its.toArray
    refine codeAny_builtin PySem.F.entry_max_loop ?_
    rw [Around.under_plainId PySem.F.plain_max_loop _]
    change wpAny _ X.A.in1 (seqItems? (.ref S) >>= _) _ _ _
    refine wpAny_bind (wpAny_seqItems hSo rfl ?_)
    change wpAny _ X.A.in1 (tryCatch (pyNext (.ref I)) _ >>= _) _ _ _
    refine wpAny_bind (wpAny_tryCatch (W.done _ _ _ ⟨by rw [sz, show ns.length = j by omega]; exact hit, pl.isList⟩ fun h1 t1 k1 => ?_))
    have m1 : Mid X H s0 { s with heap := h1, toks := t1 } := m.priv (bs := [I]) (fun b hb => by rw [List.mem_singleton.mp hb]; exact hI) k1
    have hS1 := k1 S _ (by simpa using hIS) hSo
    change wpAny _ X.A.in1 (updateSeq S (fun _ => #[]) >>= _) _ _ _
    refine wpAny_bind (wpAny_updateSeq hS1 rfl (wpAny_bind (wpAny_letGo (wpAny_pure ?_))))
    have e : bMax kf b (ns.drop j) = b := by rw [List.drop_eq_nil_of_le (by omega)] <;> rfl
    rw [e] at q
    exact q _ _ (m1.priv (bs := [S]) (fun b hb => by rw [List.mem_singleton.mp hb]; exact hS) fun b o hb e => ((Heap.SameBut.update h1 S (Obj.mapSeq fun _ => (#[] : Array Value))).2 b (by simpa using hb)).trans e)
  | succ r ih =>
    intro j b tb tk c s hr hj m hit hSo q
    have hlt : j < ns.length := by omega
    obtain ⟨n, hn⟩ : ∃ n, ns[j]? = some n := ⟨_, List.getElem?_eq_getElem hlt⟩
    have hd : ns.drop j = n :: ns.drop (j + 1) := by rw [List.drop_eq_getElem_cons hlt, (List.getElem?_eq_some_iff.mp hn).2]
    obtain ⟨its, rv, pl, _⟩ := (m.inv I0).list hs
    have sz : its.toArray.size = ns.length := by rw [List.size_toArray, ← rv.length, List.length_map]
    have W := Walks.list (prog := X.prog) (w := X.w) (A := X.A.in1) hh I l hlI its.toArray
    refine codeAny_builtin PySem.F.entry_max_loop ?_
    rw [Around.under_plainId PySem.F.plain_max_loop _]
    change wpAny _ X.A.in1 (seqItems? (.ref S) >>= _) _ _ _
    refine wpAny_bind (wpAny_seqItems hSo rfl ?_)
    change wpAny _ X.A.in1 (tryCatch (pyNext (.ref I)) _ >>= _) _ _ _
    refine wpAny_bind (wpAny_tryCatch (W.item j _ _ _ (by rw [sz]; exact hlt) ⟨hit, pl.isList⟩ fun v h1 t1 hv st1 k1 => ?_))
    obtain ⟨tv, rfl⟩ : ∃ tv, v = .int n tv := by
      obtain ⟨t, e⟩ := rv.ints.get j n hn
      have : its[j]? = some v := by simpa using hv
      rw [this] at e
      exact ⟨t, Option.some.inj e⟩
    have m1 : Mid X H s0 { s with heap := h1, toks := t1 } := m.priv (bs := [I]) (fun b hb => by rw [List.mem_singleton.mp hb]; exact hI) k1
    have hS1 := k1 S _ (by simpa using hIS) hSo
    obtain ⟨oI, hoI, oIc, oId⟩ := id st1.1
    change wpAny _ X.A.in1 (tryCatch (holding [Value.int n tv] (call (.ref f) [Value.int n tv])) _ >>= _) _ _ _
    refine wpAny_bind (wpAny_tryCatch (wpAny_holding (hk.run (pins := pins) (σ := σ) m1 (List.mem_of_getElem? hn) (fun t2 s2 m2 w2 => ?_) (m1.inv I0))))
    have hS2 := w2.un.keep S _ hS1 hS.2 fS (by simp)
    have hI2 := w2.un.keep I _ hoI hI.2 fI (by simp)
    have it2 : s2.heap.IsListIter I l (j + 1) := ⟨oI, hI2, oIc, oId⟩
    change wpAny _ X.A.in1 (tryCatch (holding [Value.int n tv, .int (kf n) t2] (richCompare .Gt (.int (kf n) t2) (.int (kf b) tk) >>= _)) _ >>= _) _ _ _
    obtain ⟨g, g0, g1⟩ : ∃ g : Nat → Int, g 0 = kf n ∧ g 1 = kf b := ⟨fun i => if i = 0 then kf n else kf b, rfl, rfl⟩
    refine wpAny_bind (wpAny_tryCatch (wpAny_holding (wpAny_bind (CmpOf.ints_gt (prog := X.prog) (w := X.w) (A := X.A.in1) (P := fun i v => ∃ t, v = .int (g i) t) g (fun i v h => h) 0 1 _ _ _ _ _ ⟨t2, by rw [g0]⟩ ⟨tk, by rw [g1]⟩ ?_))))
    refine wpAny_bind (wpAny_holding (wpAny_truthy_bool ?_))
    refine wpAny_bind (wpAny_letGo (wpAny_pure ?_))
    have hq : ∀ b' : Int, b' = (if kf n > kf b then n else b) → ∀ s' t, Mid X H s0 s' → R (.ok (.ret (.int (bMax kf b' (ns.drop (j + 1))) t))) s' := fun b' hb' s' t ms => by
      have := q s' t ms
      rw [hd, bMax, ← hb'] at this
      exact this
    by_cases hc : kf n > kf b
    · simp only [g0, g1, hc, decide_true, if_true]
      refine wpAny_bind (wpAny_updateSeq hS2 rfl (wpAny_bind (wpAny_letGo ?_)))
      rw [nm]
      have up := Heap.SameBut.update s2.heap S (Obj.mapSeq fun _ => #[Value.int n tv, .int (kf n) t2])
      obtain ⟨c2, hc2⟩ : ∃ c2, (s2.heap.update S (Obj.mapSeq fun _ => #[Value.int n tv, .int (kf n) t2])).get? S = some (seqObj "list" #[Value.int n tv, .int (kf n) t2] c2) := ⟨_, get?_update_seq hS2 fun _ => #[Value.int n tv, .int (kf n) t2]⟩
      refine wpAny_pure ⟨plainId_quiet PySem.F.plain_max_loop _, ih (j + 1) n tv t2 c2 _ (by omega) hlt (m2.priv (bs := [S]) (fun b hb => by rw [List.mem_singleton.mp hb]; exact hS) fun b o hb e => (up.2 b (by simpa using hb)).trans e) ⟨oI, (up.2 I hIS.symm).trans hI2, oIc, oId⟩ hc2 (hq n (by rw [if_pos hc]))⟩
    · simp only [g0, g1, hc, decide_false, Bool.false_eq_true, if_false]
      refine wpAny_bind (wpAny_letGo ?_)
      rw [nm]
      exact wpAny_pure ⟨plainId_quiet PySem.F.plain_max_loop _, ih (j + 1) b tb tk c _ (by omega) hlt m2 it2 hS2 (hq b (by rw [if_neg hc]))⟩
theorem max_key {l f : Addr} {n0 : Int} {r : List Int} {kf : Int → Int} {Q : Value → Shared → Prop} {E : Value → Shared → Prop} (I0 : Inv X pins σ H s0) (hh : X.A.handled = none) (hs : SqL X.K H l ((n0 :: r).map V.int)) (hk : KeyAt X H s0 f kf (· ∈ n0 :: r))
    (q : ∀ s t, Mid X H s0 s → Q (.int (bMax kf n0 r) t) s) : wpAny (model X.prog X.w) X.A (call (.builtin "max") [.ref l] [(Str.ofString "key", .ref f)]) Q E s0 := by
  have nm : (toString "max" ++ toString ".loop" : String) = "max.loop" := by decide
  obtain ⟨its, rv, pl, _⟩ := I0.list hs
  have ll : l < s0.heap.objs.size := by
    obtain ⟨o, e, _⟩ := pl.isList
    exact Heap.lt_size e
  refine kmk_tree PySem.F.kind_max PySem.F.plain_max PySem.F.entry_max (kmk_max_key _ _) ?_
  change wpAny _ X.A.in1 (Builtin.Builtins.bindParams "max" ["key", "default"] 0 ⟨[], [(Str.ofString "key", .ref f)]⟩ >>= _) _ _ s0
  refine wpAny_bind (wpAny_of_eq (show Builtin.Builtins.bindParams "max" ["key", "default"] 0 ⟨[], [(Str.ofString "key", .ref f)]⟩ = pure [some (.ref f), none] from rfl) ?_)
  refine wpAny_bind (wpAny_pure ?_)
  refine wpAny_bind (wpAny_pyIter_list pl.isList ?_)
  refine wpAny_bind (wpAny_newList ?_ (Nat.zero_le _))
  rw [nm]
  refine wpAny_pure ⟨plainId_quiet PySem.F.plain_max_loop _, ?_⟩
  obtain ⟨hA, hAe⟩ : ∃ hA, hA = s0.heap.push { cls := .type "list_iterator", data := .fields #[.ref l, .int 0 0] } := ⟨_, rfl⟩
  have zA : hA.objs.size = s0.heap.objs.size + 1 := by rw [hAe, Heap.size_push]
  have gI : (hA.push (seqObj "list" #[] 0)).get? s0.heap.objs.size = some { cls := .type "list_iterator", data := .fields #[.ref l, .int 0 0] } := Heap.get?_push_of_some _ (by rw [hAe]; exact Heap.get?_push_size _ rfl)
  have gS : (hA.push (seqObj "list" #[] 0)).get? hA.objs.size = some (seqObj "list" #[] 0) := Heap.get?_push_size _ rfl
  have kp : ∀ b o, s0.heap.get? b = some o → (hA.push (seqObj "list" #[] 0)).get? b = some o := fun b o e => Heap.get?_push_of_some _ (by rw [hAe]; exact Heap.get?_push_of_some _ e)
  rw [← hAe]
  have hI : s0.heap.objs.size ≤ s0.heap.objs.size ∧ H s0.heap.objs.size = none := ⟨Nat.le_refl _, I0.hok.fresh (Nat.le_refl _)⟩
  have hS : s0.heap.objs.size ≤ hA.objs.size ∧ H hA.objs.size = none := ⟨by omega, I0.hok.fresh (by omega)⟩
  have hIS : hA.objs.size ≠ s0.heap.objs.size := by omega
  have hlI : l ≠ s0.heap.objs.size := Nat.ne_of_lt ll
  have m0 : Mid X H s0 { s0 with heap := hA.push (seqObj "list" #[] 0), toks := s0.toks } := (Mid.refl I0).kept kp
  obtain ⟨its, rv, pl, _⟩ := (m0.inv I0).list hs
  have sz : its.toArray.size = (n0 :: r).length := by rw [List.size_toArray, ← rv.length, List.length_map]
  have W := Walks.list (prog := X.prog) (w := X.w) (A := X.A.in1) hh s0.heap.objs.size l hlI its.toArray
  refine codeAny_builtin PySem.F.entry_max_loop ?_
  rw [Around.under_plainId PySem.F.plain_max_loop _]
  change wpAny _ X.A.in1 (seqItems? (.ref _) >>= _) _ _ _
  refine wpAny_bind (wpAny_seqItems gS rfl ?_)
  change wpAny _ X.A.in1 (tryCatch (pyNext (.ref s0.heap.objs.size)) _ >>= _) _ _ _
  refine wpAny_bind (wpAny_tryCatch (W.item 0 _ _ _ (by rw [sz]; exact Nat.succ_pos _) ⟨⟨_, gI, rfl, rfl⟩, pl.isList⟩ fun v h1 t1 hv st1 k1 => ?_))
  obtain ⟨tv, rfl⟩ : ∃ tv, v = .int n0 tv := by
    obtain ⟨t, e⟩ := rv.ints.get 0 n0 rfl
    have : its[0]? = some v := by simpa using hv
    rw [this] at e
    exact ⟨t, Option.some.inj e⟩
  have m1 := m0.priv (h' := h1) (t := t1) (bs := [s0.heap.objs.size]) (fun b hb => by rw [List.mem_singleton.mp hb]; exact hI) k1
  have hS1 := k1 _ _ (by simpa using hIS) gS
  obtain ⟨oI, hoI, oIc, oId⟩ := id st1.1
  change wpAny _ X.A.in1 (tryCatch (holding [Value.int n0 tv] (call (.ref f) [Value.int n0 tv])) _ >>= _) _ _ _
  refine wpAny_bind (wpAny_tryCatch (wpAny_holding (hk.run (pins := pins) (σ := σ) m1 List.mem_cons_self (fun t2 s2 m2 w2 => ?_) (m1.inv I0))))
  have fI : s0.heap.objs.size ∉ frs X.stack := nofr I0 (Nat.le_refl _)
  have fS : hA.objs.size ∉ frs X.stack := nofr I0 (by omega)
  have hS2 := w2.un.keep _ _ hS1 hS.2 fS (by simp)
  have hI2 := w2.un.keep _ _ hoI hI.2 fI (by simp)
  have up := Heap.SameBut.update s2.heap hA.objs.size (Obj.mapSeq fun _ => #[Value.int n0 tv, .int (kf n0) t2])
  obtain ⟨c2, hc2⟩ : ∃ c2, (s2.heap.update hA.objs.size (Obj.mapSeq fun _ => #[Value.int n0 tv, .int (kf n0) t2])).get? hA.objs.size = some (seqObj "list" #[Value.int n0 tv, .int (kf n0) t2] c2) := ⟨_, get?_update_seq hS2 fun _ => #[Value.int n0 tv, .int (kf n0) t2]⟩
  change wpAny _ X.A.in1 (updateSeq hA.objs.size (fun _ => #[Value.int n0 tv, .int (kf n0) t2]) >>= _) _ _ _
  refine wpAny_bind (wpAny_updateSeq hS2 rfl ?_)
  rw [nm]
  refine wpAny_pure ⟨plainId_quiet PySem.F.plain_max_loop _, max_turns I0 hh hs hk hI hS hIS hlI fI fS (fun _ _ _ _ _ => trivial) _ 1 n0 tv t2 c2 _ rfl (by simp) (m2.priv (bs := [hA.objs.size]) (fun b hb => by rw [List.mem_singleton.mp hb]; exact hS) fun b o hb e => (up.2 b (by simpa using hb)).trans e) ⟨oI, (up.2 _ hIS.symm).trans hI2, oIc, oId⟩ hc2 fun s' t ms => q s' t ms⟩
end
end KeyL

namespace KeyL
open PySem PySem.Spec PyProof.Rows L2 LamX NdefX
/-! ### a lambda with parameters, called -/
theorem lam_call {CX : CXT} {P : Program} {w : World} {K : PySem.W.Frag} {mg : Str → Option Value} {base : Heap} {N ps fr : List Str} {F : NF} {f : Addr} {k : Nat} {body : Expr} {A : Around} {outer : List Env} {s : Shared} {H : Hp} {us : List Value} {vs : List V} {ws : List (Option V)} {Q : VK} {E : XK} {pm ctv : Value}
    (S : NScope N ps fr F.scope) (ho : s.heap.get? f = some (PySem.W.kla_obj F.name F.qual F.params body F.scope F.cl pm F.c ctv)) (hc : s.heap.CodeRec (.ref F.c) F.qual)
    (hb : bindArgs (PySem.W.kla_fn F.name F.qual F.params body F.scope F.cl pm (.ref F.c) ctv) ⟨us, []⟩ = pure (ps.zip us)) (hr : Room (k + 1) A) (e0 : Env0 P w K mg base A outer s H) (C : CellsAt F.cl fr ws s.heap H) (r : Vals vs us) (hl : vs.length = ps.length)
    (hbody : ∃ t, PE (ncx CX P w K mg base N F f A outer s H E) body t ∧ t (startF N vs ws) H Q) : codeAny (model P w) A (.call (.ref f) ⟨us, []⟩) (CR CX outer P w H s Q E) s := by
  have lim : s.heap.NoLimit := e0.mod.nolimit.keeps fun b o e => (e0.bs b o e).1
  refine PySem.W.kla_callFunE hr.depth ho rfl S.co S.gen rfl hc ?_
  rw [hb]
  refine wpAny_pure (wpAny_newFunctionEnv S.nocell (fun ⟨n, _⟩ hy => S.par n (List.of_mem_zip hy).1) (fun h1 hns hsb => ⟨lim.fresh _ hsb, ?_⟩) S.kind)
  change codeAny _ _ (.expr body (envF F f s.heap.objs.size)) _ _
  have kp : ∀ b o, s.heap.get? b = some o → h1.get? b = some o := fun b o e => hsb.extBut b o (Nat.ne_of_lt (Heap.lt_size e)) (Heap.get?_push_of_some _ e)
  obtain ⟨t, ht, hq⟩ := hbody
  have J : Inv (ncx CX P w K mg base N F f A outer s H E) [] (startF N vs ws) H { s with heap := h1, toks := s.toks + (ps.zip us).length } := inv_startN S hr.hd e0 hl r C hns kp
  refine PySem.W.kla_codeExpr (wpAny_mono (ht.run [] _ (startF N vs ws) H _ J hq) (fun v s2 h2 => ?_) fun e s2 h2 => h2)
  obtain ⟨v', H2, J2, rv, q⟩ := h2
  exact ⟨v', H2, J2.os, J2.bare, J2.base, J2.hok, rv, q⟩
def keyP (K : PySem.W.Frag) (T : List (Addr × Str)) (j : Nat) (best : (Int → Int) → Int → List Int → Int) (σ : L2.St) (Q : VK) (x : V) (H1 : Hp) : Prop := ∃ (l g : Addr) (n0 : Int) (r : List Int) (as : List V) (kf : Int → Int), x = V.ref l ∧ SqL K H1 l ((n0 :: r).map V.int) ∧
  σ[j]? = some (some (.ref g)) ∧ SqL K H1 g as ∧ (∀ n ∈ n0 :: r, atI as n = some (.int (kf n))) ∧ Tabs T H1 ∧ ∀ H2, ExtN H1 H2 → Tabs T H2 → Q (.int (best kf n0 r)) H2
def tKey (K : PySem.W.Frag) (T : List (Addr × Str)) (j : Nat) (best : (Int → Int) → Int → List Int → Int) (ta : TE) : TE := fun σ H Q => ta σ H fun x H1 => keyP K T j best σ Q x H1
theorem sqL_extN {K : PySem.W.Frag} {H H' : Hp} {a : Addr} {xs : List V} (h : SqL K H a xs) (e : ExtN H H') : SqL K H' a xs := by
  rcases h with (h | ⟨o, h⟩) | h
  · exact .inl (.inl (e _ _ h fun ps z => by cases z))
  · exact .inl (.inr ⟨o, e _ _ h fun ps z => by cases z⟩)
  · exact .inr h
theorem keyMin_go {X : L2.Cx} {T : List (Addr × Str)} {c P : Addr} {params : Arguments} {scope : Scope} {a b : Str} {j k : Nat} {p1 p2 p3 lpos kpos pos : Pos} {pins : List (Addr × Obj)} {σ : L2.St} {H1 : Hp} {s1 : Shared} {Q : VK} {l g : Addr} {n0 : Int} {r : List Int} {as : List V} {kf : Int → Int}
    (hcal : X.calm = true) (TB : TabB X.base X.mg c P) (hcode : X.env.code = .ref c) (hmT : (P, X.env.qual ++ "<lambda>") ∈ T) (hu : ∀ p ∈ T, p.1 = P → p.2 = X.env.qual ++ "<lambda>") (hr : Room (k + 3) X.A)
    (S : NScope [a, b] [a] [b] scope) (nb : ndefB X.env.scope scope [b] = true) (hj : X.N[j]? = some b) (hdef : defaultsOf params X.env = ([], []))
    (hbind : ∀ (q : Str) (cl : List (Str × Addr)) (pm cv ctv u : Value), bindArgs (PySem.W.kla_fn "<lambda>" q params (.Subscript (.Name b p1) (.Name a p2) p3) scope cl pm cv ctv) ⟨[u], []⟩ = pure [(a, u)])
    (hva : Vis scope a) (hvb : Vis scope b) (hda : (a == ("__debug__" : Str)) = false) (hca : (a == ("__classdict__" : Str)) = false) (hdb : (b == ("__debug__" : Str)) = false) (hcb : (b == ("__classdict__" : Str)) = false) (hpn : PlainIx (.Name a p2))
    (I1 : Inv X pins σ H1 s1) (hl : SqL X.K H1 l ((n0 :: r).map V.int)) (hs : σ[j]? = some (some (.ref g))) (hgs : SqL X.K H1 g as) (hix : ∀ n ∈ n0 :: r, atI as n = some (.int (kf n))) (hT : Tabs T H1) (q : ∀ H2, ExtN H1 H2 → Tabs T H2 → Q (.int (bMin kf n0 r)) H2) :
    wpAny (model X.prog X.w) X.A (evalAll ((backToKw pos (keywordEach [⟨some "key", .Lambda params (.Subscript (.Name b p1) (.Name a p2) p3) scope lpos, kpos⟩] X.env)).map (·.2))) (fun kvs s2 => wpAny (model X.prog X.w) X.A (call (.builtin "min") [.ref l] (((backToKw pos (keywordEach [⟨some "key", .Lambda params (.Subscript (.Name b p1) (.Name a p2) p3) scope lpos, kpos⟩] X.env)).filterMap (·.1)).zip kvs)) (EP X pins σ Q) X.xe s2) X.xe s1 := by
  change wpAny _ _ (evalAll ((do let v ← eval (.Lambda params (.Subscript (.Name b p1) (.Name a p2) p3) scope lpos) X.env; standAt pos; pure v) :: [])) _ _ s1
  have hfree : ∀ y ∈ scope.names, y.2 = .free → ∃ c, X.env.cells.lookup y.1 = some c := fun y hy e => (ndef_free nb y hy e).elim (fun z => I1.ok.has _ (.inl z)) fun z => I1.ok.has _ (.inr z)
  refine wpAny_evalAll_cons (wpAny_bind (lam_make2 I1 TB hcode hmT hu hT hdef hfree fun f c' pm ctv H2 s2 I2 eN T2 hf hfn hfr hco => wpAny_bind (wpAny_standAt (wpAny_pure (wpAny_evalAll_nil ?_)))))
  change wpAny _ _ (call (.builtin "min") [.ref l] [(Str.ofString "key", .ref f)]) _ _ s2
  have key : KeyAt X H2 s2 f kf (· ∈ n0 :: r) := fun s3 n t m hn => by
    have I3 := m.inv I2
    have hf3 := m.un.keep f _ hf hfn hfr (by simp)
    have cap : Caps X (cloFrom X.env.cells scope.names []) [b] [j] := Caps.made I3.ok (ndef_free nb) (ndef_fr nb) (by simp [hj])
    refine lam_call (k := k + 1) (F := ⟨"<lambda>", X.env.qual ++ "<lambda>", params, [], scope, cloFrom X.env.cells scope.names [], c'⟩) (ps := [a]) (fr := [b]) (N := [a, b]) (vs := [.int n]) S hf3 (codeO_at m.ok hco) (hbind _ _ _ _ _ _) (hr.mono (by omega) |> Room.in1) I3.env0.in1 (cells_of I3 cap) (.cons ⟨t, rfl⟩ .nil) rfl ?_
    refine ⟨_, pe_ix ix_list (pe_var (i := 1) rfl hvb hdb hcb) (pe_var (i := 0) rfl hva hda hca) hpn, ?_⟩
    refine ⟨.ref g, ?_, .int n, rfl, g, as, n, _, rfl, rfl, sqL_extN hgs eN, hix n hn, rfl, rfl⟩
    have := slotAt_of hs
    change (some (slotAt σ j)) = some (some (.ref g))
    rw [this]
  exact min_key I2 (I2.ok.hd hcal) (sqL_extN hl eN) key fun s3 t m => ⟨.int (bMin kf n0 r), H2, m.inv I2, ⟨t, rfl⟩, q H2 eN T2⟩
theorem pe_keyMin {X : L2.Cx} (K : PySem.W.Frag) {T : List (Addr × Str)} {c P : Addr} {params : Arguments} {scope : Scope} {a b : Str} {j k : Nat} {e : Expr} {ta : TE} {p p1 p2 p3 lpos kpos pos : Pos}
    (hcal : X.calm = true) (TB : TabB X.base X.mg c P) (hcode : X.env.code = .ref c) (hmT : (P, X.env.qual ++ "<lambda>") ∈ T) (hu : ∀ p ∈ T, p.1 = P → p.2 = X.env.qual ++ "<lambda>") (hr : Room (k + 3) X.A)
    (S : NScope [a, b] [a] [b] scope) (nb : ndefB X.env.scope scope [b] = true) (hj : X.N[j]? = some b) (hdef : defaultsOf params X.env = ([], []))
    (hbind : ∀ (q : Str) (cl : List (Str × Addr)) (pm cv ctv u : Value), bindArgs (PySem.W.kla_fn "<lambda>" q params (.Subscript (.Name b p1) (.Name a p2) p3) scope cl pm cv ctv) ⟨[u], []⟩ = pure [(a, u)])
    (hm : X.mg "min" = none) (ha : PE X e ta) (hva : Vis scope a) (hvb : Vis scope b) (hda : (a == ("__debug__" : Str)) = false) (hca : (a == ("__classdict__" : Str)) = false) (hdb : (b == ("__debug__" : Str)) = false) (hcb : (b == ("__classdict__" : Str)) = false) (hg : Gl X "min" := by rfl)
    (na : starEach [e] X.env = (false, eval e X.env) :: starEach [] X.env := by rfl) (hK : X.K = K := by rfl)
    (he : backTo pos (starEach [e] X.env) = (false, eval e X.env) :: backTo pos (starEach [] X.env) := by rfl) (hpl : (backTo pos (starEach [e] X.env)).any (·.1) = false := by rfl)
    (hpn : PlainIx (.Name a p2) := by exact fun _ _ => rfl) :
    PE X (.Call (.Name "min" p) [e] [⟨some "key", .Lambda params (.Subscript (.Name b p1) (.Name a p2) p3) scope lpos, kpos⟩] pos) (tKey K T j bMin ta) := by
  subst hK
  refine ⟨fun pins s σ H Q I h => ?_⟩
  refine wpAny_Call_Name_kw (ld_blt I hg hm (u := .builtin "min") (by decide +kernel) ?_)
  refine PyProof.Rows.callWith_kw (thn ((pa_cons ha pa_nil na).run pos pins s σ H (fun vs H1 => match vs with
    | [x] => keyP X.K T j bMin σ Q x H1
    | _ => False) I h) fun us s1 ⟨vs, H1, I1, r1, q1⟩ => ?_) he hpl rfl rfl
  dsimp only at q1
  split at q1
  · rename_i x
    obtain ⟨l, g, n0, r, as, kf, rfl, hl, hs, hgs, hix, hT, q⟩ := q1
    rw [Vals.ref1 r1]
    exact keyMin_go hcal TB hcode hmT hu hr S nb hj hdef hbind hva hvb hda hca hdb hcb hpn I1 hl hs hgs hix hT q
  · exact q1.elim
theorem keyMax_go {X : L2.Cx} {T : List (Addr × Str)} {c P : Addr} {params : Arguments} {scope : Scope} {a b : Str} {j k : Nat} {p1 p2 p3 lpos kpos pos : Pos} {pins : List (Addr × Obj)} {σ : L2.St} {H1 : Hp} {s1 : Shared} {Q : VK} {l g : Addr} {n0 : Int} {r : List Int} {as : List V} {kf : Int → Int}
    (hcal : X.calm = true) (TB : TabB X.base X.mg c P) (hcode : X.env.code = .ref c) (hmT : (P, X.env.qual ++ "<lambda>") ∈ T) (hu : ∀ p ∈ T, p.1 = P → p.2 = X.env.qual ++ "<lambda>") (hr : Room (k + 3) X.A)
    (S : NScope [a, b] [a] [b] scope) (nb : ndefB X.env.scope scope [b] = true) (hj : X.N[j]? = some b) (hdef : defaultsOf params X.env = ([], []))
    (hbind : ∀ (q : Str) (cl : List (Str × Addr)) (pm cv ctv u : Value), bindArgs (PySem.W.kla_fn "<lambda>" q params (.Subscript (.Name b p1) (.Name a p2) p3) scope cl pm cv ctv) ⟨[u], []⟩ = pure [(a, u)])
    (hva : Vis scope a) (hvb : Vis scope b) (hda : (a == ("__debug__" : Str)) = false) (hca : (a == ("__classdict__" : Str)) = false) (hdb : (b == ("__debug__" : Str)) = false) (hcb : (b == ("__classdict__" : Str)) = false) (hpn : PlainIx (.Name a p2))
    (I1 : Inv X pins σ H1 s1) (hl : SqL X.K H1 l ((n0 :: r).map V.int)) (hs : σ[j]? = some (some (.ref g))) (hgs : SqL X.K H1 g as) (hix : ∀ n ∈ n0 :: r, atI as n = some (.int (kf n))) (hT : Tabs T H1) (q : ∀ H2, ExtN H1 H2 → Tabs T H2 → Q (.int (bMax kf n0 r)) H2) :
    wpAny (model X.prog X.w) X.A (evalAll ((backToKw pos (keywordEach [⟨some "key", .Lambda params (.Subscript (.Name b p1) (.Name a p2) p3) scope lpos, kpos⟩] X.env)).map (·.2))) (fun kvs s2 => wpAny (model X.prog X.w) X.A (call (.builtin "max") [.ref l] (((backToKw pos (keywordEach [⟨some "key", .Lambda params (.Subscript (.Name b p1) (.Name a p2) p3) scope lpos, kpos⟩] X.env)).filterMap (·.1)).zip kvs)) (EP X pins σ Q) X.xe s2) X.xe s1 := by
  change wpAny _ _ (evalAll ((do let v ← eval (.Lambda params (.Subscript (.Name b p1) (.Name a p2) p3) scope lpos) X.env; standAt pos; pure v) :: [])) _ _ s1
  have hfree : ∀ y ∈ scope.names, y.2 = .free → ∃ c, X.env.cells.lookup y.1 = some c := fun y hy e => (ndef_free nb y hy e).elim (fun z => I1.ok.has _ (.inl z)) fun z => I1.ok.has _ (.inr z)
  refine wpAny_evalAll_cons (wpAny_bind (lam_make2 I1 TB hcode hmT hu hT hdef hfree fun f c' pm ctv H2 s2 I2 eN T2 hf hfn hfr hco => wpAny_bind (wpAny_standAt (wpAny_pure (wpAny_evalAll_nil ?_)))))
  change wpAny _ _ (call (.builtin "max") [.ref l] [(Str.ofString "key", .ref f)]) _ _ s2
  have key : KeyAt X H2 s2 f kf (· ∈ n0 :: r) := fun s3 n t m hn => by
    have I3 := m.inv I2
    have hf3 := m.un.keep f _ hf hfn hfr (by simp)
    have cap : Caps X (cloFrom X.env.cells scope.names []) [b] [j] := Caps.made I3.ok (ndef_free nb) (ndef_fr nb) (by simp [hj])
    refine lam_call (k := k + 1) (F := ⟨"<lambda>", X.env.qual ++ "<lambda>", params, [], scope, cloFrom X.env.cells scope.names [], c'⟩) (ps := [a]) (fr := [b]) (N := [a, b]) (vs := [.int n]) S hf3 (codeO_at m.ok hco) (hbind _ _ _ _ _ _) (hr.mono (by omega) |> Room.in1) I3.env0.in1 (cells_of I3 cap) (.cons ⟨t, rfl⟩ .nil) rfl ?_
    refine ⟨_, pe_ix ix_list (pe_var (i := 1) rfl hvb hdb hcb) (pe_var (i := 0) rfl hva hda hca) hpn, ?_⟩
    refine ⟨.ref g, ?_, .int n, rfl, g, as, n, _, rfl, rfl, sqL_extN hgs eN, hix n hn, rfl, rfl⟩
    have := slotAt_of hs
    change (some (slotAt σ j)) = some (some (.ref g))
    rw [this]
  exact max_key I2 (I2.ok.hd hcal) (sqL_extN hl eN) key fun s3 t m => ⟨.int (bMax kf n0 r), H2, m.inv I2, ⟨t, rfl⟩, q H2 eN T2⟩
theorem pe_keyMax {X : L2.Cx} (K : PySem.W.Frag) {T : List (Addr × Str)} {c P : Addr} {params : Arguments} {scope : Scope} {a b : Str} {j k : Nat} {e : Expr} {ta : TE} {p p1 p2 p3 lpos kpos pos : Pos}
    (hcal : X.calm = true) (TB : TabB X.base X.mg c P) (hcode : X.env.code = .ref c) (hmT : (P, X.env.qual ++ "<lambda>") ∈ T) (hu : ∀ p ∈ T, p.1 = P → p.2 = X.env.qual ++ "<lambda>") (hr : Room (k + 3) X.A)
    (S : NScope [a, b] [a] [b] scope) (nb : ndefB X.env.scope scope [b] = true) (hj : X.N[j]? = some b) (hdef : defaultsOf params X.env = ([], []))
    (hbind : ∀ (q : Str) (cl : List (Str × Addr)) (pm cv ctv u : Value), bindArgs (PySem.W.kla_fn "<lambda>" q params (.Subscript (.Name b p1) (.Name a p2) p3) scope cl pm cv ctv) ⟨[u], []⟩ = pure [(a, u)])
    (hm : X.mg "max" = none) (ha : PE X e ta) (hva : Vis scope a) (hvb : Vis scope b) (hda : (a == ("__debug__" : Str)) = false) (hca : (a == ("__classdict__" : Str)) = false) (hdb : (b == ("__debug__" : Str)) = false) (hcb : (b == ("__classdict__" : Str)) = false) (hg : Gl X "max" := by rfl)
    (na : starEach [e] X.env = (false, eval e X.env) :: starEach [] X.env := by rfl) (hK : X.K = K := by rfl)
    (he : backTo pos (starEach [e] X.env) = (false, eval e X.env) :: backTo pos (starEach [] X.env) := by rfl) (hpl : (backTo pos (starEach [e] X.env)).any (·.1) = false := by rfl)
    (hpn : PlainIx (.Name a p2) := by exact fun _ _ => rfl) :
    PE X (.Call (.Name "max" p) [e] [⟨some "key", .Lambda params (.Subscript (.Name b p1) (.Name a p2) p3) scope lpos, kpos⟩] pos) (tKey K T j bMax ta) := by
  subst hK
  refine ⟨fun pins s σ H Q I h => ?_⟩
  refine wpAny_Call_Name_kw (ld_blt I hg hm (u := .builtin "max") (by decide +kernel) ?_)
  refine PyProof.Rows.callWith_kw (thn ((pa_cons ha pa_nil na).run pos pins s σ H (fun vs H1 => match vs with
    | [x] => keyP X.K T j bMax σ Q x H1
    | _ => False) I h) fun us s1 ⟨vs, H1, I1, r1, q1⟩ => ?_) he hpl rfl rfl
  dsimp only at q1
  split at q1
  · rename_i x
    obtain ⟨l, g, n0, r, as, kf, rfl, hl, hs, hgs, hix, hT, q⟩ := q1
    rw [Vals.ref1 r1]
    exact keyMax_go hcal TB hcode hmT hu hr S nb hj hdef hbind hva hvb hda hca hdb hcb hpn I1 hl hs hgs hix hT q
  · exact q1.elim
end KeyL

namespace Mi
open PySem PySem.Spec PyProof.Rows L2 Evl My LamX
/-! ### min, max with a key that is a lambda: the key looks into a list -/
def keyF (as : List D) (n : Int) : Int := match atI as n with
  | some (.int i) => i
  | _ => 0
def keysOk (as : List D) (ns : List Int) : Prop := ∀ n ∈ ns, ∃ i, atI as n = some (.int i)
open Classical in
noncomputable def xKey (best : (Int → Int) → Int → List Int → Int) (T0 : List ((Str × Option Str) × Str)) (j : Nat) (fa : Env → Sto → R D) : Env → Sto → R D := fun env S => (fa env S).bind fun x S1 => match x, env[j]? with
  | .ref l, some (some (.ref g)) => match (rdL S1 l).bind intsOf, rdL S1 g with
    | some (n0 :: r), some as => if at_ S1 1 = some (.tbls T0) ∧ keysOk as (n0 :: r) then .ok (.int (best (keyF as) n0 r)) S1 else .bad
    | _, _ => .bad
  | _, _ => .bad
section
variable {K : PySem.W.Frag} {φ φ' : Nat → Addr} {n n' : Nat} {H H2 : Hp} {S : Sto} {W : Wc K}
theorem sqT_extN {a : Addr} {xs : List V} (h : SqT K H a xs) (e : ExtN H H2) : SqT K H2 a xs := by
  rcases h with (h | ⟨o, h⟩) | h
  · exact .inl (.inl (e _ _ h fun ps z => by cases z))
  · exact .inl (.inr ⟨o, e _ _ h fun ps z => by cases z⟩)
  · exact .inr h
theorem Fut.extN (e : ExtN H H2) : Fut K φ n H φ n H2 := ⟨Nat.le_refl _, fun _ _ => rfl, fun _ _ h => sqT_extN h e, fun _ _ h => e _ _ h fun ps z => by cases z⟩
theorem Rel.extN {T0 : List ((Str × Option Str) × Str)} (r : Rel K φ S H) (h1 : at_ S 1 = some (.tbls T0)) (e : ExtN H H2) (t : Tabs (tabsK K T0) H2) : Rel K φ S H2 := by
  refine ⟨r.inj, fun l o ho => ?_, r.tu⟩
  have q := r.ob l o ho
  have f : Fut K φ S.length H φ S.length H2 := Fut.extN e
  cases o with
  | lst xs => obtain ⟨vs, a, b⟩ := q; exact ⟨vs, e _ _ a (fun ps z => by cases z), b.fut f⟩
  | rol xs =>
    obtain ⟨vs, a, b⟩ := q
    refine ⟨vs, ?_, b.fut f⟩
    rcases a with ⟨o, a⟩ | a
    · exact .inl ⟨o, e _ _ a fun ps z => by cases z⟩
    · exact .inr a
  | dK xs => obtain ⟨vs, a, b⟩ := q; exact ⟨vs, e _ _ a (fun ps z => by cases z), b.fut f⟩
  | dT xs => obtain ⟨vs, a, b⟩ := q; exact ⟨vs, e _ _ a (fun ps z => by cases z), b.fut f⟩
  | ins C fs => obtain ⟨dx, vs, a, b⟩ := q; exact ⟨dx, vs, e _ _ a (fun ps z => by cases z), b.fut f⟩
  | set g m => exact e _ _ q fun ps z => by cases z
  | opq => trivial
  | tbls T =>
    have hl := r.tu l _ ho rfl
    subst hl
    have : T = T0 := by
      have z : S[1]? = some (.tbls T0) := h1
      rw [ho] at z
      cases z
      rfl
    subst this
    exact ⟨t, q.2⟩
theorem imp_key {best : (Int → Int) → Int → List Int → Int} {T0 : List ((Str × Option Str) × Str)} {j : Nat} {ta : TE} {fa : Env → Sto → R D} (ha : Imp K W (vr K) ta fa) : Imp K W (vr K) (KeyL.tKey K (tabsK K T0) j best ta) (xKey best T0 j fa) :=
  imp_bind (tb := fun (x : V) σ H1 (Q : VK) => KeyL.keyP K (tabsK K T0) j best σ Q x H1) ha fun φ S H env σ x v rl e hv Q p => by
    split at p
    · rename_i l g henv
      split at p
      · rename_i n0 r as h1 h2
        split at p
        · rename_i hc
          obtain ⟨xs, a1, a2⟩ := Option.bind_eq_some_iff.mp h1
          obtain ⟨_, rfl⟩ := hv.ref_inv
          obtain ⟨ws, w1, w2⟩ := rl.rd a1
          rw [intsOf_inv a2] at w2
          rw [w2.ints_inv] at w1
          obtain ⟨vs, v1, v2⟩ := rl.rd h2
          obtain ⟨u, u1, u2⟩ := e.get henv
          obtain ⟨_, rfl⟩ := u2.ref_inv
          refine ⟨φ l, φ g, n0, r, vs, keyF as, rfl, w1, u1, v1, fun n hn => ?_, (rl.ob 1 _ hc.1).1, fun H2 eN tN => p φ H2 _ (Fut.extN eN) (rl.extN hc.1 eN tN) (VR.int _)⟩
          obtain ⟨i, hi⟩ := hc.2 n hn
          obtain ⟨w, b1, b2⟩ := v2.atI hi
          rw [b1, b2.int_inv]
          have : keyF as n = i := by simp only [keyF, hi]
          rw [this]
        · exact p.elim
      · exact p.elim
    · exact p.elim
end
end Mi

namespace Mi
open PySem PySem.Spec PyProof.Rows L2 Evl My LamX
/-! ### defs whose code object has a table that is written; the head and the end with such -/
theorem okC {P : Program} {w : World} {K : PySem.W.Frag} {mg : Str → Option Value} {base : Heap} {x qual : Str} {params : Arguments} {body : List Stmt} {scope : Scope} {dvs : List V} {kws : List (Str × V)} {fd : FuncData} {p : Str × Option Str}
    {N ps : List Str} {k : Nat} {sp : Sp} (F : FunD K x qual params body scope dvs kws (He.fAd K p) fd) (S : FnScope N ps scope) (len : ∀ vs H Q E, sp vs H Q E → vs.length = ps.length)
    (hbody : ∀ (A : Around) (outer : List PySem.Env) (s : Shared) (H : Hp) (vs : List V) (Q : VK) (E : XK), Room k (A.deeper (envOfC qual scope s.heap.objs.size (He.fAd K p) (.ref (He.cT K p).1))) → sp vs H Q E →
      ∃ t, PSs (cxOf CX0 P w K mg base N qual scope (He.fAd K p) (.ref (He.cT K p).1) A outer s H E).nox body t ∧ t { nx := fun _ H' => Q .non H', rt := Q } (start N vs) H) : FnOk P w K mg base CX0 (k + 1) (He.fAd K p) fd ps sp := by
  obtain ⟨oc, od, dV, kV, doc, pm, an, cdv, ct, osl, rfl, lk, hcd, _, _⟩ := F.ex
  obtain ⟨c, rfl⟩ := He.codeIn_ref hcd
  have e : He.codeOf K p = c := He.codeOf_eq lk rfl
  refine fn_of lk hcd S len fun A outer s H vs Q E hr hsp => ?_
  have hb := hbody A outer s H vs Q E
  rw [show (He.cT K p).1 = c from e] at hb
  obtain ⟨t, h1, h2⟩ := hb hr hsp
  exact ⟨t, h1.nox, h2⟩
abbrev TabD := (Str × Option Str) × Str
theorem tabs_at {K : PySem.W.Frag} {T : List TabD} {p : Str × Option Str} {q : Str} (i : Nat) (h : T[i]? = some (p, q)) : ((He.cT K p).2, q) ∈ tabsK K T := List.mem_map.mpr ⟨_, List.mem_of_getElem? h, rfl⟩
structure TxT (fa : List He.Fa) (fn : List He.DefD) (fx : List Fx) (T0 : List TabD) (K : PySem.W.Frag) (mg : Str → Option Value) (base : Heap) : Prop where
  e : TxE fa fn fx K mg
  tb : ∀ p ∈ T0, TabB base mg (He.cT K p.1).1 (He.cT K p.1).2
  nd : ∀ p ∈ tabsK K T0, ∀ p' ∈ tabsK K T0, p.1 = p'.1 → p.2 = p'.2
theorem TxT.at {fa : List He.Fa} {fn : List He.DefD} {fx : List Fx} {T0 : List TabD} {K : PySem.W.Frag} {mg : Str → Option Value} {base : Heap} (T : TxT fa fn fx T0 K mg base) (i : Nat) {p : Str × Option Str} {q : Str} (h : T0[i]? = some (p, q)) : TabB base mg (He.cT K p).1 (He.cT K p).2 := T.tb (p, q) (List.mem_of_getElem? h)
theorem TxT.hu {fa : List He.Fa} {fn : List He.DefD} {fx : List Fx} {T0 : List TabD} {K : PySem.W.Frag} {mg : Str → Option Value} {base : Heap} (T : TxT fa fn fx T0 K mg base) (i : Nat) {p : Str × Option Str} {q : Str} (h : T0[i]? = some (p, q)) : ∀ r ∈ tabsK K T0, r.1 = (He.cT K p).2 → r.2 = q :=
  fun r hr e => T.nd r hr _ (tabs_at i h) e
/-! ### the head -/
def farT (g : Addr → Option Obj) (n : Nat) : PySem.W.Frag := He.frT g (He.asD g n ++ [cStatics])
def ndB (K : PySem.W.Frag) (T0 : List TabD) : Bool := (tabsK K T0).all fun p => (tabsK K T0).all fun p' => p.1 != p'.1 || p.2 == p'.2
def lookT (n : Nat) (fa : List He.Fa) (fn : List He.DefD) (fx : List Fx) (T0 : List TabD) (g : Addr → Option Obj) : (Bool × He.AlD) × Bool :=
  ((fx.all fun f => f.ok (farT g n), He.obsD fa fn (farT g n)), He.tabsB g (T0.map (·.1)) (farT g n) && ndB (farT g n) T0)
structure SaysTb (fa : List He.Fa) (fn : List He.DefD) (fx : List Fx) (T0 : List TabD) (h : Heap) (K : PySem.W.Frag) : Prop where
  e : (fx.all fun f => f.ok K) = true ∧ He.SaysD fa fn K
  nd : ndB K T0 = true
  hd : ∀ p ∈ T0, PySem.W.codeHdIn K (He.cT K p.1).1 (He.cT K p.1).2 = true
  out : ∀ p ∈ T0, K.lookup (He.cT K p.1).2 = none
  empty : ∀ p ∈ T0, h.get? (He.cT K p.1).2 = some { cls := .none, data := .fields #[] }
theorem saysTb_of {n : Nat} {fa : List He.Fa} {fn : List He.DefD} {fx : List Fx} {T0 : List TabD} {h : Heap} (e : lookT n fa fn fx T0 h.get? = ((true, He.valD fn), true)) : SaysTb fa fn fx T0 h (farT h.get? n) := by
  have e1 : (fx.all fun f => f.ok (farT h.get? n)) = true := congrArg (fun z : (Bool × He.AlD) × Bool => z.1.1) e
  have e2 : He.obsD fa fn (farT h.get? n) = He.valD fn := congrArg (fun z : (Bool × He.AlD) × Bool => z.1.2) e
  have e3 : (He.tabsB h.get? (T0.map (·.1)) (farT h.get? n) && ndB (farT h.get? n) T0) = true := congrArg (fun z : (Bool × He.AlD) × Bool => z.2) e
  rw [Bool.and_eq_true] at e3
  have key : ∀ p ∈ T0, PySem.W.codeHdIn (farT h.get? n) (He.cT (farT h.get? n) p.1).1 (He.cT (farT h.get? n) p.1).2 = true ∧ ∃ o, h.get? (He.cT (farT h.get? n) p.1).2 = some o ∧ He.emptyTab o = true := fun p hp => by
    have := List.all_eq_true.mp e3.1 p.1 (List.mem_map.mpr ⟨p, hp, rfl⟩)
    rw [Bool.and_eq_true] at this
    refine ⟨this.1, ?_⟩
    have h4 := this.2
    cases q : h.get? (He.cT (farT h.get? n) p.1).2 with
    | none => rw [q] at h4; cases h4
    | some o => rw [q] at h4; exact ⟨o, rfl, h4⟩
  exact ⟨⟨e1, e2⟩, e3.2, fun p hp => (key p hp).1, fun p hp => by
    obtain ⟨_, o, q, z⟩ := key p hp
    exact He.frT_none q z, fun p hp => by
    obtain ⟨_, o, q, z⟩ := key p hp
    rw [q, He.emptyTab_eq z]⟩
def hookT (n : Nat) (fa : List He.Fa) (fn : List He.DefD) (fx : List Fx) (T0 : List TabD) : PySem.W.Hook where
  α := (Bool × He.AlD) × Bool
  obs := fun s => lookT n fa fn fx T0 s.heap.get?
  val := fun _ => ((true, He.valD fn), true)
  says := fun _ h => ∃ K : PySem.W.Frag, K.In h ∧ SaysTb fa fn fx T0 h K
  of := fun _ _ e => ⟨_, He.frT_in, saysTb_of e⟩
  keeps := fun _ _ _ ⟨K, hK, c⟩ k => ⟨K, PySem.W.Frag.In.keeps hK k, ⟨c.e, c.nd, c.hd, c.out, fun p hp => k _ _ (c.empty p hp)⟩⟩
theorem lookT_eq {n : Nat} {fa : List He.Fa} {fn : List He.DefD} {fx : List Fx} {T0 : List TabD} {g : Addr → Option Obj} {s : Shared} (h : ∀ a, g a = s.heap.get? a) : lookT n fa fn fx T0 g = (hookT n fa fn fx T0).obs s := by
  have e : g = s.heap.get? := funext h
  subst e
  rfl
theorem ndB_ok {K : PySem.W.Frag} {T0 : List TabD} (h : ndB K T0 = true) : ∀ p ∈ tabsK K T0, ∀ p' ∈ tabsK K T0, p.1 = p'.1 → p.2 = p'.2 := fun p hp p' hp' e => by
  have := List.all_eq_true.mp (List.all_eq_true.mp h p hp) p' hp'
  rw [Bool.or_eq_true] at this
  rcases this with z | z
  · rw [e] at z
    simp at z
  · exact eq_of_beq z
theorem TxT.of {fa : List He.Fa} {fn : List He.DefD} {fx : List Fx} {T0 : List TabD} {K : PySem.W.Frag} {h h0 base : Heap} {mg : Str → Option Value} (X : K.In h) (G : h.Ns mainGlobals mg) (c : SaysTb fa fn fx T0 h0 K) (tb : ∀ p ∈ T0, TabB base mg (He.cT K p.1).1 (He.cT K p.1).2) : TxT fa fn fx T0 K mg base :=
  ⟨TxE.of X G c.e, tb, ndB_ok c.nd⟩
/-! ### the end -/
theorem walk_ofET {l : PySem.W.OpenLaw} {n k : Nat} {q : Program} {loose : List Str} {XP : (Str → Option Value) → Heap → Prop} {YP : World → Heap → Prop} {d : DefRec} {CX : CXT} {x : Str}
    (hn : l.most = some n) (hn2 : n ≤ sizeLine) (hdf : d.params.defaults = []) (hr : Room k callerA)
    (F : ∀ (w : World) (mg : Str → Option Value) (fa : Addr) (h : Heap), YP w h → h.Ns mainGlobals mg → mg d.name = some (.ref fa) → ∃ K : PySem.W.Frag, K.In h ∧ LawAtS l w K CX k n x mg fa h)
    (hCX : ∀ (H : Hp) (s : Shared) (e : Value) (s' : Shared), CX [] H s (fun _ _ _ => False) e s' → False) : PySem.W.WalkO q loose XP YP l.row.toRowW d [] (fun f vs => PySem.call f vs) := by
  refine Att.attach_callB hn hdf fun w s0 s1 mg mb fa o pm cd doc a vs ns G Y ho hd hcd hmg hobj hints hlen hbits hg => ?_
  obtain ⟨K, KX, fd, cs, sp, hT, nT, C, hb, hsp, hF⟩ := F w mg fa _ Y G.T.g hmg
  exact law_callTs KX G.T.g G.T.b G.T.builtins G.T.nolimit hg hT nT C G.T.bmain hobj hints (Nat.le_trans hlen hn2) hr hF hb (fun H hH hS => hsp H a ns hlen hbits hH hS) fun H e s' => hCX H s1 e s'
def spLawT (K : PySem.W.Frag) (T0 : List TabD) : Sp := fun vs H Q _ => ∃ (a : Addr) (ns : List Int), vs = [.ref a] ∧ SqL K H a (ns.map V.int) ∧ ns.length ≤ 63 ∧ Tabs (tabsK K T0) H ∧ (∀ p ∈ tabsK K T0, ∀ p' ∈ tabsK K T0, p.1 = p'.1 → p.2 = p'.2) ∧ ∀ H', Q (.bl true) H'
theorem law_inT {K : PySem.W.Frag} {T0 : List TabD} {f : List D → Sto → R D} (h : ∀ (o : O) (ns : List Int), (o = .lst (ns.map .int) ∨ o = .rol (ns.map .int)) → ns.length ≤ 63 → ∃ S', f [.ref 0] [o, .tbls T0] = .ok (.bl true) S') : ∀ vs H Q E, spLawT K T0 vs H Q E → spF K f vs H Q E := fun vs H Q E ⟨a, ns, hv, hS, hl, hT, nd, q⟩ => by
  subst hv
  have go : ∀ o : O, (o = .lst (ns.map .int) ∨ o = .rol (ns.map .int)) → OR K (fun _ => a) 2 H a o → spF K f [.ref a] H Q E := fun o ho hO => by
    obtain ⟨S', hf⟩ := h o ns ho hl
    have two : ∀ {l : Nat} {u : O}, ([o, O.tbls T0] : Sto)[l]? = some u → (l = 0 ∧ u = o) ∨ (l = 1 ∧ u = .tbls T0) := fun {l u} e => by
      rcases l with _ | _ | l
      · cases e; exact .inl ⟨rfl, rfl⟩
      · cases e; exact .inr ⟨rfl, rfl⟩
      · cases e
    refine ⟨fun _ => a, [o, .tbls T0], [.ref 0], ⟨fun i j oi oj hi hj mi mj _ => ?_, fun l oo hl => ?_, fun l oo hl tt => ?_⟩, .cons (.ref (l := 0) (by simp)) .nil, ?_⟩
    · rcases two hi with ⟨rfl, rfl⟩ | ⟨rfl, rfl⟩
      · rcases two hj with ⟨rfl, rfl⟩ | ⟨rfl, rfl⟩
        · rfl
        · cases mj
      · cases mi
    · rcases two hl with ⟨rfl, rfl⟩ | ⟨rfl, rfl⟩
      · exact hO
      · exact ⟨hT, nd⟩
    · rcases two hl with ⟨rfl, rfl⟩ | ⟨rfl, rfl⟩
      · rcases ho with rfl | rfl <;> cases tt
      · rfl
    · rw [hf]
      intro φ' H' v _ _ hv
      cases hv
      exact q H'
  rcases hS with (hS | ⟨o, hS⟩) | hS
  · exact go (.lst (ns.map .int)) (.inl rfl) ⟨_, hS, VRs.ints ns⟩
  · exact go (.rol (ns.map .int)) (.inr rfl) ⟨_, .inl ⟨o, hS⟩, VRs.ints ns⟩
  · exact go (.rol (ns.map .int)) (.inr rfl) ⟨_, .inr fun H' => .inr hS, VRs.ints ns⟩
end Mi

namespace Mi
open PySem PySem.Spec PyProof.Rows L2 Evl My
/-! ### list.index, flat items -/
section
variable {K : PySem.W.Frag} {S : Sto}
def mIndex : D → List D → Sto → R D := fun x ds S => match x, ds with
  | .ref l, [y] => match (rdL S l).bind scVs, scV y with
    | some ws, some u => match ws.findIdx? fun w => eqV w u with
      | some j => .ok (.int (j : Nat)) S
      | none => .bad
    | _, _ => .bad
  | _, _ => .bad
theorem mti_index : MtI K (rIndex K) mIndex := by
  intro φ S H x v ds vs X r hx hd Q p
  unfold mIndex at p
  split at p
  · rename_i l y
    split at p
    · rename_i ws u h1 h2
      split at p
      · rename_i j hj
        obtain ⟨xs, h3, h4⟩ := Option.bind_eq_some_iff.mp h1
        obtain ⟨_, rfl⟩ := hx.ref_inv
        obtain ⟨vs', q1, q2⟩ := r.rd h3
        obtain ⟨e1, e2⟩ := scVs_eq h4 q2
        subst e1
        obtain ⟨w, rfl, hw⟩ := hd.one_inv
        have e3 := scV_eq h2 hw
        subst e3
        obtain ⟨hlt, hp, hno⟩ := List.findIdx?_eq_some_iff_getElem.mp hj
        refine ⟨_, _, _, j, vs'[j], rfl, rfl, q1, flat_of h2, e2, List.getElem?_eq_getElem hlt, hp, fun m z' hm hz => ?_, p.here r (VR.int _)⟩
        obtain ⟨h5, h6⟩ := List.getElem?_eq_some_iff.mp hz
        have := hno m hm
        rw [h6] at this
        cases h : eqV z' w with
        | true => exact absurd h this
        | false => rfl
      · exact p.elim
    · exact p.elim
  · exact p.elim
/-! ### list * int -/
def oRep : D → D → Sto → R D := fun x y S => match x, y with
  | .ref l, .int k => match at_ S l with
    | some (.lst xs) => if -1000000 ≤ k ∧ k ≤ 1000000 ∧ xs.length * k.toNat ≤ 100000 then .ok (.ref S.length) (S ++ [.lst (List.replicate k.toNat xs).flatten]) else .bad
    | _ => .bad
  | _, _ => .bad
theorem vrs_rep {φ : Nat → Addr} {n : Nat} {H : Hp} {xs : List D} {vs : List V} (h : VRs K φ n H xs vs) : ∀ k : Nat, VRs K φ n H (List.replicate k xs).flatten (List.replicate k vs).flatten
  | 0 => .nil
  | k + 1 => by
    rw [List.replicate_succ, List.replicate_succ, List.flatten_cons, List.flatten_cons]
    exact h.app (vrs_rep h k)
theorem opi_rep : OpI K rRep oRep := by
  intro φ S H x y v w X r hx hy Q p
  unfold oRep at p
  split at p
  · split at p
    · rename_i xs h1
      split at p
      · rename_i hl
        cases hx; cases hy
        obtain ⟨vs, a1, a2⟩ := r.ob _ _ h1
        exact ⟨_, _, vs, rfl, rfl, a1, by omega, by omega, sz_of (by rw [a2.len]; exact hl.2.2), fun a ha => p.new r ha (or_lst ha (vrs_rep a2 _))⟩
      · exact p.elim
    · exact p.elim
  · exact p.elim
end
end Mi

namespace Law
open PySem PySem.Spec PyProof.Rows L2 Evl My
def top (i : Nat) : Stmt := PySem.Challenge.pw_lentpages_k23_page_ins.main.body.getD i (.Pass ⟨0, 0, 0, 0⟩)
abbrev s_zeros : Stmt := top 1
abbrev s_Chooser___init__ : Stmt := inClass (top 3) 0
abbrev s_Chooser_filled : Stmt := inClass (top 3) 1
abbrev s_Chooser_touched : Stmt := inClass (top 3) 2
abbrev s_Chooser_emptied : Stmt := inClass (top 3) 3
abbrev s_Chooser_choose : Stmt := inClass (top 3) 4
abbrev s_Chooser_turn_pointer : Stmt := inClass (top 3) 5
abbrev s_page_ins : Stmt := top 5
abbrev s_l_number : Stmt := top 7
abbrev s_l_is_whole : Stmt := top 8
abbrev s_l_same : Stmt := top 9
abbrev s_l_chooser_new : Stmt := top 10
abbrev s_l_chooser_tell : Stmt := top 11
abbrev s_l_chooser_pick : Stmt := top 12
abbrev s_l_names : Stmt := top 13
abbrev s_l_trace : Stmt := top 14
abbrev s_l_page_ins : Stmt := top 15
abbrev s_law : Stmt := top 16
def dd_zeros : He.DefD := ⟨("zeros", none), "zeros", "zeros", defArgs s_zeros, defBody s_zeros, defScope s_zeros, [], []⟩
def dd_Chooser___init__ : He.DefD := ⟨("Chooser", some "__init__"), "__init__", "Chooser.__init__", defArgs s_Chooser___init__, defBody s_Chooser___init__, defScope s_Chooser___init__, [], []⟩
def dd_Chooser_filled : He.DefD := ⟨("Chooser", some "filled"), "filled", "Chooser.filled", defArgs s_Chooser_filled, defBody s_Chooser_filled, defScope s_Chooser_filled, [], []⟩
def dd_Chooser_touched : He.DefD := ⟨("Chooser", some "touched"), "touched", "Chooser.touched", defArgs s_Chooser_touched, defBody s_Chooser_touched, defScope s_Chooser_touched, [], []⟩
def dd_Chooser_emptied : He.DefD := ⟨("Chooser", some "emptied"), "emptied", "Chooser.emptied", defArgs s_Chooser_emptied, defBody s_Chooser_emptied, defScope s_Chooser_emptied, [], []⟩
def dd_Chooser_choose : He.DefD := ⟨("Chooser", some "choose"), "choose", "Chooser.choose", defArgs s_Chooser_choose, defBody s_Chooser_choose, defScope s_Chooser_choose, [], []⟩
def dd_Chooser_turn_pointer : He.DefD := ⟨("Chooser", some "turn_pointer"), "turn_pointer", "Chooser.turn_pointer", defArgs s_Chooser_turn_pointer, defBody s_Chooser_turn_pointer, defScope s_Chooser_turn_pointer, [], []⟩
def dd_page_ins : He.DefD := ⟨("page_ins", none), "page_ins", "page_ins", defArgs s_page_ins, defBody s_page_ins, defScope s_page_ins, [], []⟩
def dd_l_number : He.DefD := ⟨("_law_number", none), "_law_number", "_law_number", defArgs s_l_number, defBody s_l_number, defScope s_l_number, [], []⟩
def dd_l_is_whole : He.DefD := ⟨("_law_is_whole", none), "_law_is_whole", "_law_is_whole", defArgs s_l_is_whole, defBody s_l_is_whole, defScope s_l_is_whole, [], []⟩
def dd_l_same : He.DefD := ⟨("_law_same", none), "_law_same", "_law_same", defArgs s_l_same, defBody s_l_same, defScope s_l_same, [], []⟩
def dd_l_chooser_new : He.DefD := ⟨("_law_chooser_new", none), "_law_chooser_new", "_law_chooser_new", defArgs s_l_chooser_new, defBody s_l_chooser_new, defScope s_l_chooser_new, [], []⟩
def dd_l_chooser_tell : He.DefD := ⟨("_law_chooser_tell", none), "_law_chooser_tell", "_law_chooser_tell", defArgs s_l_chooser_tell, defBody s_l_chooser_tell, defScope s_l_chooser_tell, [], []⟩
def dd_l_chooser_pick : He.DefD := ⟨("_law_chooser_pick", none), "_law_chooser_pick", "_law_chooser_pick", defArgs s_l_chooser_pick, defBody s_l_chooser_pick, defScope s_l_chooser_pick, [], []⟩
def dd_l_names : He.DefD := ⟨("_law_names", none), "_law_names", "_law_names", defArgs s_l_names, defBody s_l_names, defScope s_l_names, [], []⟩
def dd_l_trace : He.DefD := ⟨("_law_trace", none), "_law_trace", "_law_trace", defArgs s_l_trace, defBody s_l_trace, defScope s_l_trace, [], []⟩
def dd_l_page_ins : He.DefD := ⟨("_law_page_ins", none), "_law_page_ins", "_law_page_ins", defArgs s_l_page_ins, defBody s_l_page_ins, defScope s_l_page_ins, [], []⟩
def dd_law : He.DefD := ⟨("law", none), "law", "law", defArgs s_law, defBody s_law, defScope s_law, [], []⟩
def fns : List He.DefD := [dd_zeros, dd_Chooser___init__, dd_Chooser_filled, dd_Chooser_touched, dd_Chooser_emptied, dd_Chooser_choose, dd_Chooser_turn_pointer, dd_page_ins, dd_l_number, dd_l_is_whole, dd_l_same, dd_l_chooser_new, dd_l_chooser_tell, dd_l_chooser_pick, dd_l_names, dd_l_trace, dd_l_page_ins, dd_law]
def fas : List He.Fa := [.free "range", .free "min", .free "max", .free "set", .free "len", .free "enumerate", .free "list", .free "abs", .free "int", .free "isinstance", .free "bool", .free "str", .free "tuple", .glo "zeros", .glo "page_ins", .glo "_law_number", .glo "_law_is_whole", .glo "_law_same", .glo "_law_chooser_new", .glo "_law_chooser_tell", .glo "_law_chooser_pick", .glo "_law_names", .glo "_law_trace", .glo "_law_page_ins", .glo "law", .glo "Chooser", .cls "Chooser", .mkr "Chooser", .meth "Chooser" "filled", .meth "Chooser" "touched", .meth "Chooser" "emptied", .meth "Chooser" "choose", .meth "Chooser" "turn_pointer", .noat "Chooser" "kind", .noat "Chooser" "time", .noat "Chooser" "filled_at", .noat "Chooser" "used_at", .noat "Chooser" "bits", .noat "Chooser" "pointer"]
def fxs : List Fx := []
def tabs0 : List Mi.TabD := [(("Chooser", some "choose"), (("Chooser.choose" : Str) ++ ".<locals>.") ++ "<lambda>")]
abbrev TX (K : PySem.W.Frag) (mg : Str → Option Value) (base : Heap) : Prop := Mi.TxT fas fns fxs tabs0 K mg base
section
variable {K : PySem.W.Frag} {mg : Str → Option Value} {base : Heap}
theorem glE_law (T : My.TxE fas fns fxs K mg) : mg "law" = some (.ref (He.ga K "law")) := T.tx.glo "law" (T.tx.says.fact 24 rfl)
theorem fdE_law (T : My.TxE fas fns fxs K mg) : ∃ fd, FunD K "law" "law" (defArgs s_law) (defBody s_law) (defScope s_law) [] [] (He.ga K "law") fd := T.tx.says.def_ 17 (d := dd_law) rfl
theorem fr_range (T : TX K mg base) : mg "range" = none := T.e.tx.fre "range" (T.e.tx.says.fact 0 rfl)
theorem fr_min (T : TX K mg base) : mg "min" = none := T.e.tx.fre "min" (T.e.tx.says.fact 1 rfl)
theorem fr_max (T : TX K mg base) : mg "max" = none := T.e.tx.fre "max" (T.e.tx.says.fact 2 rfl)
theorem fr_set (T : TX K mg base) : mg "set" = none := T.e.tx.fre "set" (T.e.tx.says.fact 3 rfl)
theorem fr_len (T : TX K mg base) : mg "len" = none := T.e.tx.fre "len" (T.e.tx.says.fact 4 rfl)
theorem fr_enumerate (T : TX K mg base) : mg "enumerate" = none := T.e.tx.fre "enumerate" (T.e.tx.says.fact 5 rfl)
theorem fr_list (T : TX K mg base) : mg "list" = none := T.e.tx.fre "list" (T.e.tx.says.fact 6 rfl)
theorem fr_abs (T : TX K mg base) : mg "abs" = none := T.e.tx.fre "abs" (T.e.tx.says.fact 7 rfl)
theorem fr_int (T : TX K mg base) : mg "int" = none := T.e.tx.fre "int" (T.e.tx.says.fact 8 rfl)
theorem fr_isinstance (T : TX K mg base) : mg "isinstance" = none := T.e.tx.fre "isinstance" (T.e.tx.says.fact 9 rfl)
theorem fr_bool (T : TX K mg base) : mg "bool" = none := T.e.tx.fre "bool" (T.e.tx.says.fact 10 rfl)
theorem fr_str (T : TX K mg base) : mg "str" = none := T.e.tx.fre "str" (T.e.tx.says.fact 11 rfl)
theorem fr_tuple (T : TX K mg base) : mg "tuple" = none := T.e.tx.fre "tuple" (T.e.tx.says.fact 12 rfl)
theorem gl_zeros (T : TX K mg base) : mg "zeros" = some (.ref (He.ga K "zeros")) := T.e.tx.glo "zeros" (T.e.tx.says.fact 13 rfl)
theorem gl_page_ins (T : TX K mg base) : mg "page_ins" = some (.ref (He.ga K "page_ins")) := T.e.tx.glo "page_ins" (T.e.tx.says.fact 14 rfl)
theorem gl_l_number (T : TX K mg base) : mg "_law_number" = some (.ref (He.ga K "_law_number")) := T.e.tx.glo "_law_number" (T.e.tx.says.fact 15 rfl)
theorem gl_l_is_whole (T : TX K mg base) : mg "_law_is_whole" = some (.ref (He.ga K "_law_is_whole")) := T.e.tx.glo "_law_is_whole" (T.e.tx.says.fact 16 rfl)
theorem gl_l_same (T : TX K mg base) : mg "_law_same" = some (.ref (He.ga K "_law_same")) := T.e.tx.glo "_law_same" (T.e.tx.says.fact 17 rfl)
theorem gl_l_chooser_new (T : TX K mg base) : mg "_law_chooser_new" = some (.ref (He.ga K "_law_chooser_new")) := T.e.tx.glo "_law_chooser_new" (T.e.tx.says.fact 18 rfl)
theorem gl_l_chooser_tell (T : TX K mg base) : mg "_law_chooser_tell" = some (.ref (He.ga K "_law_chooser_tell")) := T.e.tx.glo "_law_chooser_tell" (T.e.tx.says.fact 19 rfl)
theorem gl_l_chooser_pick (T : TX K mg base) : mg "_law_chooser_pick" = some (.ref (He.ga K "_law_chooser_pick")) := T.e.tx.glo "_law_chooser_pick" (T.e.tx.says.fact 20 rfl)
theorem gl_l_names (T : TX K mg base) : mg "_law_names" = some (.ref (He.ga K "_law_names")) := T.e.tx.glo "_law_names" (T.e.tx.says.fact 21 rfl)
theorem gl_l_trace (T : TX K mg base) : mg "_law_trace" = some (.ref (He.ga K "_law_trace")) := T.e.tx.glo "_law_trace" (T.e.tx.says.fact 22 rfl)
theorem gl_l_page_ins (T : TX K mg base) : mg "_law_page_ins" = some (.ref (He.ga K "_law_page_ins")) := T.e.tx.glo "_law_page_ins" (T.e.tx.says.fact 23 rfl)
theorem gl_law (T : TX K mg base) : mg "law" = some (.ref (He.ga K "law")) := T.e.tx.glo "law" (T.e.tx.says.fact 24 rfl)
theorem gl_Chooser (T : TX K mg base) : mg "Chooser" = some (.ref (He.ga K "Chooser")) := T.e.tx.glo "Chooser" (T.e.tx.says.fact 25 rfl)
theorem cls_Chooser (T : TX K mg base) : Cls K (He.ga K "Chooser") := He.cls_ok (T.e.tx.says.fact 26 rfl)
theorem mkr_Chooser (T : TX K mg base) : Mk K (He.ga K "Chooser") (He.ma K (He.ga K "Chooser") "__init__") := He.mkr_ok (T.e.tx.says.fact 27 rfl)
theorem meth_Chooser_filled (T : TX K mg base) : Meth K (He.ga K "Chooser") "filled" (He.ma K (He.ga K "Chooser") "filled") := He.meth_ok (T.e.tx.says.fact 28 rfl)
theorem meth_Chooser_touched (T : TX K mg base) : Meth K (He.ga K "Chooser") "touched" (He.ma K (He.ga K "Chooser") "touched") := He.meth_ok (T.e.tx.says.fact 29 rfl)
theorem meth_Chooser_emptied (T : TX K mg base) : Meth K (He.ga K "Chooser") "emptied" (He.ma K (He.ga K "Chooser") "emptied") := He.meth_ok (T.e.tx.says.fact 30 rfl)
theorem meth_Chooser_choose (T : TX K mg base) : Meth K (He.ga K "Chooser") "choose" (He.ma K (He.ga K "Chooser") "choose") := He.meth_ok (T.e.tx.says.fact 31 rfl)
theorem meth_Chooser_turn_pointer (T : TX K mg base) : Meth K (He.ga K "Chooser") "turn_pointer" (He.ma K (He.ga K "Chooser") "turn_pointer") := He.meth_ok (T.e.tx.says.fact 32 rfl)
theorem na_Chooser_kind (T : TX K mg base) : NoAttr K (He.ga K "Chooser") "kind" := He.noat_ok (T.e.tx.says.fact 33 rfl)
theorem na_Chooser_time (T : TX K mg base) : NoAttr K (He.ga K "Chooser") "time" := He.noat_ok (T.e.tx.says.fact 34 rfl)
theorem na_Chooser_filled_at (T : TX K mg base) : NoAttr K (He.ga K "Chooser") "filled_at" := He.noat_ok (T.e.tx.says.fact 35 rfl)
theorem na_Chooser_used_at (T : TX K mg base) : NoAttr K (He.ga K "Chooser") "used_at" := He.noat_ok (T.e.tx.says.fact 36 rfl)
theorem na_Chooser_bits (T : TX K mg base) : NoAttr K (He.ga K "Chooser") "bits" := He.noat_ok (T.e.tx.says.fact 37 rfl)
theorem na_Chooser_pointer (T : TX K mg base) : NoAttr K (He.ga K "Chooser") "pointer" := He.noat_ok (T.e.tx.says.fact 38 rfl)
theorem fd_zeros (T : TX K mg base) : ∃ fd, FunD K "zeros" "zeros" (defArgs s_zeros) (defBody s_zeros) (defScope s_zeros) [] [] (He.ga K "zeros") fd := T.e.tx.says.def_ 0 (d := dd_zeros) rfl
theorem fd_Chooser___init__ (T : TX K mg base) : ∃ fd, FunD K "__init__" "Chooser.__init__" (defArgs s_Chooser___init__) (defBody s_Chooser___init__) (defScope s_Chooser___init__) [] [] (He.ma K (He.ga K "Chooser") "__init__") fd := T.e.tx.says.def_ 1 (d := dd_Chooser___init__) rfl
theorem fd_Chooser_filled (T : TX K mg base) : ∃ fd, FunD K "filled" "Chooser.filled" (defArgs s_Chooser_filled) (defBody s_Chooser_filled) (defScope s_Chooser_filled) [] [] (He.ma K (He.ga K "Chooser") "filled") fd := T.e.tx.says.def_ 2 (d := dd_Chooser_filled) rfl
theorem fd_Chooser_touched (T : TX K mg base) : ∃ fd, FunD K "touched" "Chooser.touched" (defArgs s_Chooser_touched) (defBody s_Chooser_touched) (defScope s_Chooser_touched) [] [] (He.ma K (He.ga K "Chooser") "touched") fd := T.e.tx.says.def_ 3 (d := dd_Chooser_touched) rfl
theorem fd_Chooser_emptied (T : TX K mg base) : ∃ fd, FunD K "emptied" "Chooser.emptied" (defArgs s_Chooser_emptied) (defBody s_Chooser_emptied) (defScope s_Chooser_emptied) [] [] (He.ma K (He.ga K "Chooser") "emptied") fd := T.e.tx.says.def_ 4 (d := dd_Chooser_emptied) rfl
theorem fd_Chooser_choose (T : TX K mg base) : ∃ fd, FunD K "choose" "Chooser.choose" (defArgs s_Chooser_choose) (defBody s_Chooser_choose) (defScope s_Chooser_choose) [] [] (He.ma K (He.ga K "Chooser") "choose") fd := T.e.tx.says.def_ 5 (d := dd_Chooser_choose) rfl
theorem fd_Chooser_turn_pointer (T : TX K mg base) : ∃ fd, FunD K "turn_pointer" "Chooser.turn_pointer" (defArgs s_Chooser_turn_pointer) (defBody s_Chooser_turn_pointer) (defScope s_Chooser_turn_pointer) [] [] (He.ma K (He.ga K "Chooser") "turn_pointer") fd := T.e.tx.says.def_ 6 (d := dd_Chooser_turn_pointer) rfl
theorem fd_page_ins (T : TX K mg base) : ∃ fd, FunD K "page_ins" "page_ins" (defArgs s_page_ins) (defBody s_page_ins) (defScope s_page_ins) [] [] (He.ga K "page_ins") fd := T.e.tx.says.def_ 7 (d := dd_page_ins) rfl
theorem fd_l_number (T : TX K mg base) : ∃ fd, FunD K "_law_number" "_law_number" (defArgs s_l_number) (defBody s_l_number) (defScope s_l_number) [] [] (He.ga K "_law_number") fd := T.e.tx.says.def_ 8 (d := dd_l_number) rfl
theorem fd_l_is_whole (T : TX K mg base) : ∃ fd, FunD K "_law_is_whole" "_law_is_whole" (defArgs s_l_is_whole) (defBody s_l_is_whole) (defScope s_l_is_whole) [] [] (He.ga K "_law_is_whole") fd := T.e.tx.says.def_ 9 (d := dd_l_is_whole) rfl
theorem fd_l_same (T : TX K mg base) : ∃ fd, FunD K "_law_same" "_law_same" (defArgs s_l_same) (defBody s_l_same) (defScope s_l_same) [] [] (He.ga K "_law_same") fd := T.e.tx.says.def_ 10 (d := dd_l_same) rfl
theorem fd_l_chooser_new (T : TX K mg base) : ∃ fd, FunD K "_law_chooser_new" "_law_chooser_new" (defArgs s_l_chooser_new) (defBody s_l_chooser_new) (defScope s_l_chooser_new) [] [] (He.ga K "_law_chooser_new") fd := T.e.tx.says.def_ 11 (d := dd_l_chooser_new) rfl
theorem fd_l_chooser_tell (T : TX K mg base) : ∃ fd, FunD K "_law_chooser_tell" "_law_chooser_tell" (defArgs s_l_chooser_tell) (defBody s_l_chooser_tell) (defScope s_l_chooser_tell) [] [] (He.ga K "_law_chooser_tell") fd := T.e.tx.says.def_ 12 (d := dd_l_chooser_tell) rfl
theorem fd_l_chooser_pick (T : TX K mg base) : ∃ fd, FunD K "_law_chooser_pick" "_law_chooser_pick" (defArgs s_l_chooser_pick) (defBody s_l_chooser_pick) (defScope s_l_chooser_pick) [] [] (He.ga K "_law_chooser_pick") fd := T.e.tx.says.def_ 13 (d := dd_l_chooser_pick) rfl
theorem fd_l_names (T : TX K mg base) : ∃ fd, FunD K "_law_names" "_law_names" (defArgs s_l_names) (defBody s_l_names) (defScope s_l_names) [] [] (He.ga K "_law_names") fd := T.e.tx.says.def_ 14 (d := dd_l_names) rfl
theorem fd_l_trace (T : TX K mg base) : ∃ fd, FunD K "_law_trace" "_law_trace" (defArgs s_l_trace) (defBody s_l_trace) (defScope s_l_trace) [] [] (He.ga K "_law_trace") fd := T.e.tx.says.def_ 15 (d := dd_l_trace) rfl
theorem fd_l_page_ins (T : TX K mg base) : ∃ fd, FunD K "_law_page_ins" "_law_page_ins" (defArgs s_l_page_ins) (defBody s_l_page_ins) (defScope s_l_page_ins) [] [] (He.ga K "_law_page_ins") fd := T.e.tx.says.def_ 16 (d := dd_l_page_ins) rfl
theorem fd_law (T : TX K mg base) : ∃ fd, FunD K "law" "law" (defArgs s_law) (defBody s_law) (defScope s_law) [] [] (He.ga K "law") fd := T.e.tx.says.def_ 17 (d := dd_law) rfl
end
/-! ### _law_number -/
def lnIt : Nat → Int → Int
  | 0, r => r
  | n + 1, r => lnIt n r / 1000
theorem lnIt_zero {n : Nat} {r : Int} (h : lnIt n r = 0) : ∀ m, n ≤ m → lnIt m r = 0 := fun m l => by
  induction l with
  | refl => exact h
  | step _ ih =>
    show lnIt _ r / 1000 = 0
    rw [ih]
    rfl
theorem lnIt_nn {r : Int} (h : 0 ≤ r) : ∀ n, 0 ≤ lnIt n r
  | 0 => h
  | n + 1 => by
    have := lnIt_nn h n
    show 0 ≤ lnIt n r / 1000
    omega
def lnAbs (i : Int) : Int := if i < 0 then -i else i
def lnCell (ns : List Int) (a : Int) : Int := if ns.length = 0 then 0 else lnAbs (ns.getD (a % (ns.length : Int)).toNat 0)
def lnTurn (ns : List Int) (a : Int) : Int := if ns.length = 0 then a else a / (ns.length : Int)
def lnEnd (m p sz : Int) : Int :=
  let m1 := (m + 7919 * p + 13) % 2147483647
  let m2 := (m1 * (m1 + 48271)) % 2147483629
  let m3 := (m2 * (m2 + 69621) + 31 * p) % 2147483647
  (m3 / 9) % sz
@[irreducible] def lawNum (ns : List Int) (a k sz : Int) : Int :=
  if 10 ^ 18 ≤ lnCell ns a ∧ 0 < lnIt (k + 16 * lnTurn ns a).toNat (lnCell ns a / 10 ^ 18) then (lnIt (k + 16 * lnTurn ns a).toNat (lnCell ns a / 10 ^ 18) % 1000) % sz
  else lnEnd (lnCell ns a) (k + 16 * lnTurn ns a) sz
theorem lawNum_nn (ns : List Int) (a k sz : Int) (h : 0 < sz) : 0 ≤ lawNum ns a k sz := by
  unfold lawNum lnEnd
  split <;> exact Int.emod_nonneg _ (by omega)
theorem lawNum_lt (ns : List Int) (a k sz : Int) (h : 0 < sz) : lawNum ns a k sz < sz := by
  unfold lawNum lnEnd
  split <;> exact Int.emod_lt_of_pos _ h
def NumOk (a k sz : Int) : Prop := -1000000 ≤ a ∧ a ≤ 1000000 ∧ -1000000 ≤ k ∧ k ≤ 1000000 ∧ 0 < sz
def spNum (K : PySem.W.Frag) : Sp := fun vs H Q _ => ∃ (s : Addr) (ns : List Int) (a k sz : Int), vs = [.ref s, .int a, .int k, .int sz] ∧ SqL K H s (ns.map V.int) ∧ ns.length ≤ 63 ∧ NumOk a k sz ∧ RetV (.int (lawNum ns a k sz)) H Q
theorem sv_num {K : PySem.W.Frag} {H : Hp} {s : Addr} {ns : List Int} {a k sz : Int} (h : SqL K H s (ns.map V.int)) (hl : ns.length ≤ 63) (ok : NumOk a k sz) : SpV (spNum K) [.ref s, .int a, .int k, .int sz] H (.int (lawNum ns a k sz)) :=
  fun H1 e Q q E => ⟨s, ns, a, k, sz, rfl, ex_l e h, hl, ok, q⟩
section
variable {P : Program} {w : World} {K : PySem.W.Frag} {mg : Str → Option Value} {base : Heap}
theorem ev_cellAt {ns : List Int} {s : Addr} {σ : L2.St} {H : Hp} {ta tb : TE} {i : Int} (ha : Ev ta σ H (.ref s)) (hb : Ev tb σ H (.int i)) (h : SqL K H s (ns.map V.int)) (h0 : 0 ≤ i) (h1 : i < (ns.length : Int)) : Ev (tOp (rIxL K) ta tb) σ H (.int (ns.getD i.toNat 0)) := by
  have e : ((i.toNat : Nat) : Int) = i := Int.toNat_of_nonneg h0
  have l : i.toNat < ns.length := by omega
  refine ev_op ha hb (rv_ixL h ?_)
  rw [← e]
  refine atI_nat ?_
  rw [Int.toNat_natCast, List.getElem?_map, List.getElem?_eq_getElem l, List.getD_eq_getElem?_getD, List.getElem?_eq_getElem l]
  rfl
theorem sc_l_number : FnScope ["_law_script", "_law_at", "_law_k", "_law_size", "_law_cell", "_law_turn", "_law_pick", "_law_rest", "_law_step", "_law_mixed"] ["_law_script", "_law_at", "_law_k", "_law_size"] (defScope s_l_number) := ⟨rfl, rfl, rfl, by decide +kernel, rfl, by decide +kernel, by decide +kernel⟩
theorem fn_l_number (T : TX K mg base) : ∃ fd, FunD K "_law_number" "_law_number" (defArgs s_l_number) (defBody s_l_number) (defScope s_l_number) [] [] (He.ga K "_law_number") fd ∧ FnOk P w K mg base CX0 (1) (He.ga K "_law_number") fd ["_law_script", "_law_at", "_law_k", "_law_size"] (spNum K) := by
  obtain ⟨fd, F⟩ := fd_l_number T
  refine ⟨fd, F, My.FunD.ok0 F sc_l_number (fun vs H Q E h => ?_) (fun cdv A outer s0 H vs Q E hr h => ?_)⟩
  · obtain ⟨s, ns, a, k, sz, rfl, hS, hl, ok, hQ⟩ := h
    rfl
  obtain ⟨s, ns, a, k, sz, rfl, hS, hl, ok, hQ⟩ := h
  have hu := hu_of hr
  refine ⟨_, (pss_cons (ps_set (i := 4) sc_l_number.nd rfl (Or.inl rfl) pe_int)
      (pss_cons (ps_set (i := 5) sc_l_number.nd rfl (Or.inl rfl) (pv 1))
      (pss_cut (ps_if (pt_cmpR op_gt (pe_callB (lenQ K) (by rfl) (fr_len T) PySem.boot_len (pa_cons (pv 0) pa_nil)) pe_int (nomark _)) (pss_cons (ps_set (i := 4) sc_l_number.nd rfl (Or.inl rfl) (pe_callB call_abs (by rfl) (fr_abs T) (by decide +kernel) (pa_cons (pe_ix (ixL K) (pv 0) (pe_op op_mod (pe_callTy call_int1 (by rfl) (fr_int T) (by decide +kernel) (pa_cons (pv 1) pa_nil)) (pe_callB (lenQ K) (by rfl) (fr_len T) PySem.boot_len (pa_cons (pv 0) pa_nil))) (fun _ _ => rfl)) pa_nil)))
      (pss_one (ps_set (i := 5) sc_l_number.nd rfl (Or.inl rfl) (pe_op op_fdiv (pv 1) (pe_callB (lenQ K) (by rfl) (fr_len T) PySem.boot_len (pa_cons (pv 0) pa_nil)))))) pss_nil)
      (pss_cons (ps_set (i := 6) sc_l_number.nd rfl (Or.inl rfl) (pe_op op_add (pv 2) (pe_op op_mul pe_int (pv 5))))
      (pss_cut (ps_if (pt_cmpR op_ge (pv 4) (pe_op op_pow pe_int pe_int) (nomark _)) (pss_cons (ps_set (i := 7) sc_l_number.nd rfl (Or.inl rfl) (pe_op op_fdivW (pv 4) (pe_op op_pow pe_int pe_int)))
      (pss_cut (ps_for PassesOwn.never rfl (pi_range1 rfl (fr_range T) (pa_cons (pv 6) pa_nil)) (pg_name (i := 8) sc_l_number.nd rfl (Or.inl rfl)) (pss_cons (ps_if (pt_cmpR op_eq (pv 7) pe_int (nomark _)) (pss_one ps_break) pss_nil)
      (pss_one (ps_set (i := 7) sc_l_number.nd rfl (Or.inl rfl) (pe_op op_fdiv (pv 7) pe_int)))))
      (pss_one (ps_if (pt_cmpR op_gt (pv 7) pe_int (nomark _)) (pss_one (ps_ret (pe_op op_mod (pe_callTy call_int1 (by rfl) (fr_int T) (by decide +kernel) (pa_cons (pe_op op_mod (pe_callTy call_int1 (by rfl) (fr_int T) (by decide +kernel) (pa_cons (pv 7) pa_nil)) pe_int) pa_nil)) (pv 3)))) pss_nil)))) pss_nil)
      (pss_cons (ps_set (i := 9) sc_l_number.nd rfl (Or.inl rfl) (pe_op op_mod (pe_callTy call_int1 (by rfl) (fr_int T) (by decide +kernel) (pa_cons (pe_op op_add (pe_op op_add (pv 4) (pe_op op_mul pe_int (pv 6))) pe_int) pa_nil)) pe_int))
      (pss_cons (ps_set (i := 9) sc_l_number.nd rfl (Or.inl rfl) (pe_op op_mod (pe_callTy call_int1 (by rfl) (fr_int T) (by decide +kernel) (pa_cons (pe_op op_mul (pv 9) (pe_op op_add (pv 9) pe_int)) pa_nil)) pe_int))
      (pss_cons (ps_set (i := 9) sc_l_number.nd rfl (Or.inl rfl) (pe_op op_mod (pe_callTy call_int1 (by rfl) (fr_int T) (by decide +kernel) (pa_cons (pe_op op_add (pe_op op_mul (pv 9) (pe_op op_add (pv 9) pe_int)) (pe_op op_mul pe_int (pv 6))) pa_nil)) pe_int))
      (pss_one (ps_ret (pe_op op_mod (pe_callTy call_int1 (by rfl) (fr_int T) (by decide +kernel) (pa_cons (pe_op op_fdiv (pv 9) pe_int) pa_nil)) (pv 3)))))))))))), ?_⟩
  unfold NumOk at ok
  have hL : ((ns.map V.int).length : Int) = (ns.length : Int) := by rw [List.length_map]
  refine q_asg ev_c fun H1 e1 => ?_
  refine q_asg (ev_var rfl) fun H2 e2 => ?_
  have E2 := e1.trans e2
  -- if len(script) > 0
  refine q_cut (M := fun σ' H' => Ex H H' ∧ σ' = [some (.ref s), some (.int a), some (.int k), some (.int sz), some (.int (lnCell ns a)), some (.int (lnTurn ns a)), none, none, none, none])
    (s_if (et_test (ev_op (ev_cb (ea_cons (ev_var rfl) ea_nil) (rc_lenL (ex_l E2 hS))) ev_c rv_I0)) (fun hb H3 e3 => ?_) (fun hb H3 e3 => ?_)) (fun σ4 H4 hM => ?_)
  · have hp : (0 : Int) < (ns.length : Int) := by
      have := of_decide_eq_true hb
      rw [hL] at this
      exact this
    have E3 := E2.trans e3
    have hS3 := ex_l E3 hS
    have em := Int.emod_nonneg a (show (ns.length : Int) ≠ 0 by omega)
    have el := Int.emod_lt_of_pos a hp
    have nz : ¬ ns.length = 0 := by omega
    refine q_asg (ev_cb (ea_cons (ev_cellAt (ns := ns) (i := a % (ns.length : Int)) (ev_var rfl) (ev_is (ev_op (ev_cb (ea_cons (ev_var rfl) ea_nil) rc_int) (ev_cb (ea_cons (ev_var rfl) ea_nil) (rc_lenL hS3)) (rv_I (by rw [hL]; exact hp))) (by rw [hL])) hS3 em el) ea_nil) rc_abs) fun H4 e4 => ?_
    have hS4 := ex_l e4 hS3
    refine s_asg (ev_op (ev_var rfl) (ev_cb (ea_cons (ev_var rfl) ea_nil) (rc_lenL hS4)) (rv_I (by rw [hL]; exact ⟨hp, by omega⟩))) fun H5 e5 => ?_
    refine ⟨(E3.trans e4).trans e5, ?_⟩
    unfold lnCell lnTurn lnAbs
    rw [if_neg nz, if_neg nz, hL]
    rfl
  · have hp : ns.length = 0 := by
      have := of_decide_eq_false hb
      rw [hL] at this
      omega
    refine ⟨E2.trans e3, ?_⟩
    unfold lnCell lnTurn
    rw [if_pos hp, if_pos hp]
    rfl
  obtain ⟨E4, rfl⟩ := hM
  have hturn : -1000000 ≤ lnTurn ns a ∧ lnTurn ns a ≤ 1000000 := by
    unfold lnTurn
    split
    · omega
    · have hp : (0 : Int) < (ns.length : Int) := by omega
      refine ⟨?_, ?_⟩
      · rw [Int.le_ediv_iff_mul_le hp]
        omega
      · have h2 : a / (ns.length : Int) < 1000000 + 1 := by
          rw [Int.ediv_lt_iff_lt_mul hp]
          omega
        omega
  have hcell : 0 ≤ lnCell ns a := by
    unfold lnCell lnAbs
    split
    · exact Int.le_refl _
    · split <;> omega
  have hnum : lawNum ns a k sz = if 10 ^ 18 ≤ lnCell ns a ∧ 0 < lnIt (k + 16 * lnTurn ns a).toNat (lnCell ns a / 10 ^ 18) then (lnIt (k + 16 * lnTurn ns a).toNat (lnCell ns a / 10 ^ 18) % 1000) % sz
      else lnEnd (lnCell ns a) (k + 16 * lnTurn ns a) sz := by unfold lawNum; rfl
  rw [hnum] at hQ
  clear hnum
  generalize lnCell ns a = c at *
  generalize lnTurn ns a = tn at *
  refine q_asg (ev_op (ev_var rfl) (ev_op ev_c (ev_var rfl) (rv_I (Or.inl (by decide)))) rv_I0) fun H5 e5 => ?_
  have E5 := E4.trans e5
  have d18 : CPow 10 18 := by unfold CPow; decide
  have n18 : ((10 : Int) ^ (18 : Int).toNat) = 10 ^ 18 := rfl
  generalize hp : k + 16 * tn = p at *
  refine q_cut (M := fun σ' H' => Ex H H' ∧ (∃ o1 o2, σ' = [some (.ref s), some (.int a), some (.int k), some (.int sz), some (.int c), some (.int tn), some (.int p), o1, o2, none]) ∧ ¬ (10 ^ 18 ≤ c ∧ 0 < lnIt p.toNat (c / 10 ^ 18)))
    (s_if (et_test (ev_op (ev_var rfl) (ev_op ev_c ev_c (rv_I d18)) rv_I0)) (fun hb H6 e6 => ?_) (fun hb H6 e6 => ?_)) (fun σ7 H7 hM => ?_)
  · have hb' : (10 : Int) ^ 18 ≤ c := of_decide_eq_true hb
    have dw : CDivW c (10 ^ 18) := wide_div (b := 60) (by decide) (by decide) (by decide) (by decide)
    refine q_asg (ev_op (ev_var rfl) (ev_op ev_c ev_c (rv_I d18)) (rv_I dw)) fun H7 e7 => ?_
    have E7 := (E5.trans e6).trans e7
    refine q_forR1' (n := p) (ea_cons (ev_var rfl) ea_nil) (by omega) (fun i σ' H' => Ex H H' ∧ ∃ o, σ' = [some (.ref s), some (.int a), some (.int k), some (.int sz), some (.int c), some (.int tn), some (.int p), some (.int (lnIt i (c / 10 ^ 18))), o, none])
      (fun σ' H' => Ex H H' ∧ ∃ o, σ' = [some (.ref s), some (.int a), some (.int k), some (.int sz), some (.int c), some (.int tn), some (.int p), some (.int (lnIt p.toNat (c / 10 ^ 18))), o, none]) ?_ ?_ ?_ ?_
    · exact fun H8 e8 => ⟨E7.trans e8, _, rfl⟩
    · rintro i σ' H' hi ⟨E8, o, rfl⟩
      refine q_when (et_test (ev_op (ev_var rfl) ev_c (rv_eq rfl))) (fun hb H9 e9 => ?_) (fun hb H9 e9 => ?_)
      · refine ⟨E8.trans e9, some (.int (i : Int)), ?_⟩
        have hz : lnIt i (c / 10 ^ 18) = 0 := by
          have := of_decide_eq_true hb
          injection this
        rw [hz, lnIt_zero hz p.toNat (by omega)]
        rfl
      · exact s_asg (ev_op (ev_var rfl) ev_c (rv_I (by unfold CDiv; decide))) fun H10 e10 => ⟨(E8.trans e9).trans e10, _, rfl⟩
    · rintro σ' H' ⟨E8, o, rfl⟩
      exact ⟨E8, _, rfl⟩
    · rintro σ' H' ⟨E8, o, rfl⟩
      refine s_when (et_test (ev_op (ev_var rfl) ev_c rv_I0)) (fun hb H9 e9 => ?_) (fun hb H9 e9 => ?_)
      · have hr0 : (0 : Int) < lnIt p.toNat (c / 10 ^ 18) := of_decide_eq_true hb
        rw [if_pos ⟨hb', hr0⟩] at hQ
        refine s_ret (ev_op (ev_cb (ea_cons (ev_op (ev_cb (ea_cons (ev_var rfl) ea_nil) rc_int) ev_c (rv_I (by decide))) ea_nil) rc_int) (ev_var rfl) (rv_I ok.2.2.2.2)) fun H10 e10 => ?_
        exact hQ H10 ((E8.trans e9).trans e10)
      · have hr0 : ¬ (0 : Int) < lnIt p.toNat (c / 10 ^ 18) := of_decide_eq_false hb
        exact ⟨E8.trans e9, ⟨_, _, rfl⟩, fun z => hr0 z.2⟩
  · have hb' : ¬ (10 : Int) ^ 18 ≤ c := of_decide_eq_false hb
    exact ⟨E5.trans e6, ⟨_, _, rfl⟩, fun z => hb' z.1⟩
  obtain ⟨E7, ⟨o1, o2, rfl⟩, hn⟩ := hM
  rw [if_neg hn] at hQ
  unfold lnEnd at hQ
  dsimp only at hQ
  have a1 := Int.emod_nonneg (c + 7919 * p + 13) (show (2147483647 : Int) ≠ 0 by decide)
  have b1 := Int.emod_lt_of_pos (c + 7919 * p + 13) (show (0 : Int) < 2147483647 by decide)
  refine q_asg (ev_op (ev_cb (ea_cons (ev_op (ev_op (ev_var rfl) (ev_op ev_c (ev_var rfl) (rv_I (Or.inl (by decide)))) rv_I0) ev_c rv_I0) ea_nil) rc_int) ev_c (rv_I (by decide))) fun H8 e8 => ?_
  generalize (c + 7919 * p + 13) % 2147483647 = m1 at *
  have a2 := Int.emod_nonneg (m1 * (m1 + 48271)) (show (2147483629 : Int) ≠ 0 by decide)
  have b2 := Int.emod_lt_of_pos (m1 * (m1 + 48271)) (show (0 : Int) < 2147483629 by decide)
  refine q_asg (ev_op (ev_cb (ea_cons (ev_op (ev_var rfl) (ev_op (ev_var rfl) ev_c rv_I0) (rv_I (Or.inl (by constructor <;> omega)))) ea_nil) rc_int) ev_c (rv_I (by decide))) fun H9 e9 => ?_
  generalize (m1 * (m1 + 48271)) % 2147483629 = m2 at *
  refine q_asg (ev_op (ev_cb (ea_cons (ev_op (ev_op (ev_var rfl) (ev_op (ev_var rfl) ev_c rv_I0) (rv_I (Or.inl (by constructor <;> omega)))) (ev_op ev_c (ev_var rfl) (rv_I (Or.inl (by decide)))) rv_I0) ea_nil) rc_int) ev_c (rv_I (by decide))) fun H10 e10 => ?_
  refine s_ret (ev_op (ev_cb (ea_cons (ev_op (ev_var rfl) ev_c (rv_I (by unfold CDiv; decide))) ea_nil) rc_int) (ev_var rfl) (rv_I ok.2.2.2.2)) fun H11 e11 => ?_
  exact hQ H11 (((E7.trans e8).trans e9).trans (e10.trans e11))
theorem ok_l_number (T : TX K mg base) : DefOk P w K mg base (1) "_law_number" ["_law_script", "_law_at", "_law_k", "_law_size"] [] (spNum K) := by
  obtain ⟨fd, F, h⟩ := fn_l_number (P := P) (w := w) (base := base) T
  exact DefOk.of F (gl_l_number T) (F.bindsN fun _ _ _ _ _ _ us hl => match us, hl with | [_, _, _, _], _ => rfl) h
/-! ### _law_is_whole, _law_same -/
def isInt (d : PyData) : Bool := isB "int" (tyN d) && !isB "bool" (tyN d)
def spWhole (K : PySem.W.Frag) : Sp := fun vs H Q _ => ∃ (v : V) (d : PyData), vs = [v] ∧ Dp K H v d ∧ RetV (.bl (isInt d)) H Q
theorem sv_whole {K : PySem.W.Frag} {H : Hp} {v : V} {d : PyData} (h : Dp K H v d) : SpV (spWhole K) [v] H (.bl (isInt d)) := fun H1 e Q q E => ⟨v, d, rfl, dp_ex e h, q⟩
theorem sc_l_is_whole : FnScope ["_law_told"] ["_law_told"] (defScope s_l_is_whole) := ⟨rfl, rfl, rfl, by decide +kernel, rfl, by decide +kernel, by decide +kernel⟩
theorem fn_l_is_whole (T : TX K mg base) : ∃ fd, FunD K "_law_is_whole" "_law_is_whole" (defArgs s_l_is_whole) (defBody s_l_is_whole) (defScope s_l_is_whole) [] [] (He.ga K "_law_is_whole") fd ∧ FnOk P w K mg base CX0 (1) (He.ga K "_law_is_whole") fd ["_law_told"] (spWhole K) := by
  obtain ⟨fd, F⟩ := fd_l_is_whole T
  refine ⟨fd, F, My.FunD.ok0 F sc_l_is_whole (fun vs H Q E h => ?_) (fun cdv A outer s0 H vs Q E hr h => ?_)⟩
  · obtain ⟨v, d, rfl, hd, hQ⟩ := h
    rfl
  obtain ⟨v, d, rfl, hd, hQ⟩ := h
  have hu := hu_of hr
  refine ⟨_, (pss_one (ps_ret (pe_and (pe_callB (isiK K) (by rfl) (fr_isinstance T) (by decide +kernel) (pa_cons (pv 0) (pa_cons (pe_bltn (v := .ty "int") (by rfl) (fr_int T) (by decide +kernel) rfl) pa_nil))) (pe_one (pe_not (pe_callB (isiK K) (by rfl) (fr_isinstance T) (by decide +kernel) (pa_cons (pv 0) (pa_cons (pe_bltn (v := .ty "bool") (by rfl) (fr_bool T) (by decide +kernel) rfl) pa_nil)))))))), ?_⟩
  exact s_ret (ev_andV (ev_isiD (ev_var rfl) hd rfl) fun _ => ev_notV (ev_isiD (ev_var rfl) hd rfl)) hQ
theorem ok_l_is_whole (T : TX K mg base) : DefOk P w K mg base (1) "_law_is_whole" ["_law_told"] [] (spWhole K) := by
  obtain ⟨fd, F, h⟩ := fn_l_is_whole (P := P) (w := w) (base := base) T
  exact DefOk.of F (gl_l_is_whole T) (F.bindsN fun _ _ _ _ _ _ us hl => match us, hl with | [_], _ => rfl) h
/-- _law_same: equal through and through, told of data nested at most n deep -/
def spSame (K : PySem.W.Frag) (n : Nat) : Sp := fun vs H Q _ => ∃ (v u : V) (d e : PyData), vs = [v, u] ∧ Dp K H v d ∧ Dp K H u e ∧ Dn n d ∧ Dn n e ∧ ∀ b : Bool, (b = true ↔ d = e) → RetV (.bl b) H Q
def spIn (K : PySem.W.Frag) : Nat → Sp
  | 0 => fun _ _ _ _ => False
  | n + 1 => spSame K n
theorem sc_l_same : FnScope ["_law_told", "_law_due", "_law_k"] ["_law_told", "_law_due"] (defScope s_l_same) := ⟨rfl, rfl, rfl, by decide +kernel, rfl, by decide +kernel, by decide +kernel⟩
theorem body_same {n : Nat} (T : TX K mg base) {f : Addr} {cdv : Value} {A : Around} {outer : List Env} {s0 : Shared} {H : Hp} {E : XK} {Q : VK} {v u : V} {d e : PyData}
    (hr : Room (n + 1) (A.deeper (envOfC "_law_same" (defScope s_l_same) s0.heap.objs.size f cdv))) (hd : Dp K H v d) (he : Dp K H u e) (hn : Dn n d) (hm : Dn n e) (hQ : ∀ b : Bool, (b = true ↔ d = e) → RetV (.bl b) H Q)
    (rec : DefOk P w K mg base (n + 1) "_law_same" ["_law_told", "_law_due"] [] (spIn K n)) :
    ∃ t, PSs (cxOf CX0 P w K mg base ["_law_told", "_law_due", "_law_k"] "_law_same" (defScope s_l_same) f cdv A outer s0 H E).nox (defBody s_l_same) t ∧ t { nx := fun _ H' => Q .non H', rt := Q } (start ["_law_told", "_law_due", "_law_k"] [v, u]) H := by
  refine ⟨_, (pss_cons (ps_if (pt_val (pe_callB (isiTK K) (by rfl) (fr_isinstance T) (by decide +kernel) (pa_cons (pv 1) (pa_cons (pe_tup (pa_cons (pe_bltn (v := .ty "list") (by rfl) (fr_list T) (by decide +kernel) rfl) (pa_cons (pe_bltn (v := .ty "tuple") (by rfl) (fr_tuple T) (by decide +kernel) rfl) pa_nil))) pa_nil)))) (pss_cons (ps_if (PW.pt (pw_or (pt_not (pt_val (pe_callB (isiTK K) (by rfl) (fr_isinstance T) (by decide +kernel) (pa_cons (pv 0) (pa_cons (pe_tup (pa_cons (pe_bltn (v := .ty "list") (by rfl) (fr_list T) (by decide +kernel) rfl) (pa_cons (pe_bltn (v := .ty "tuple") (by rfl) (fr_tuple T) (by decide +kernel) rfl) pa_nil))) pa_nil))))) (pw_or1 (pt_cmpR op_ne (pe_callB (isiK K) (by rfl) (fr_isinstance T) (by decide +kernel) (pa_cons (pv 0) (pa_cons (pe_bltn (v := .ty "list") (by rfl) (fr_list T) (by decide +kernel) rfl) pa_nil))) (pe_callB (isiK K) (by rfl) (fr_isinstance T) (by decide +kernel) (pa_cons (pv 1) (pa_cons (pe_bltn (v := .ty "list") (by rfl) (fr_list T) (by decide +kernel) rfl) pa_nil))) (nomark _))))) (pss_one (ps_ret pe_bl)) pss_nil)
      (pss_cons (ps_if (pt_cmpR op_ne (pe_callB (lenQ K) (by rfl) (fr_len T) PySem.boot_len (pa_cons (pv 0) pa_nil)) (pe_callB (lenQ K) (by rfl) (fr_len T) PySem.boot_len (pa_cons (pv 1) pa_nil)) (nomark _)) (pss_one (ps_ret pe_bl)) pss_nil)
      (pss_one (ps_ret (pe_cmpR op_eq (pe_callB (lenQ K) (by rfl) (fr_len T) PySem.boot_len (pa_cons (pe_lc (own := [("_law_k", 2)]) rfl sc_l_same.nd (pi_range1 rfl (fr_range T) (pa_cons (pe_callB (lenQ K) (by rfl) (fr_len T) PySem.boot_len (pa_cons (pv 1) pa_nil)) pa_nil)) (blkOk_by (own := [("_law_k", 2)]) (N := ["_law_told", "_law_due", "_law_k"]) (sc := defScope s_l_same) (by decide +kernel)) (fun _ _ _ _ _ => (pg_name (i := 2) sc_l_same.nd rfl (Or.inl rfl))) (fun _ _ _ _ _ => (pts_one (pt_not (pt_val (pe_callN rec hr (pa_cons (pe_ix (ixQ K) (pv 0) (pv 2) (fun _ _ => rfl)) (pa_cons (pe_ix (ixQ K) (pv 1) (pv 2) (fun _ _ => rfl)) pa_nil)) (hk := Nat.le_refl _)))))) (fun _ _ _ _ _ => (pv 2))) pa_nil)) pe_int (nomark _)))))) pss_nil)
      (pss_cons (ps_if (pt_val (pe_callB (isiK K) (by rfl) (fr_isinstance T) (by decide +kernel) (pa_cons (pv 1) (pa_cons (pe_bltn (v := .ty "bool") (by rfl) (fr_bool T) (by decide +kernel) rfl) pa_nil)))) (pss_one (ps_ret (pe_and (pe_callB (isiK K) (by rfl) (fr_isinstance T) (by decide +kernel) (pa_cons (pv 0) (pa_cons (pe_bltn (v := .ty "bool") (by rfl) (fr_bool T) (by decide +kernel) rfl) pa_nil))) (pe_one (pe_cmpR op_eq (pv 0) (pv 1) (nomark _)))))) pss_nil)
      (pss_cons (ps_if (pt_val (pe_callB (isiK K) (by rfl) (fr_isinstance T) (by decide +kernel) (pa_cons (pv 1) (pa_cons (pe_bltn (v := .ty "int") (by rfl) (fr_int T) (by decide +kernel) rfl) pa_nil)))) (pss_one (ps_ret (pe_and (pe_callN (ok_l_is_whole (P := P) (w := w) (base := base) T) hr (pa_cons (pv 0) pa_nil) (hk := by omega)) (pe_one (pe_cmpR op_eq (pv 0) (pv 1) (nomark _)))))) pss_nil)
      (pss_cons (ps_if (pt_val (pe_callB (isiK K) (by rfl) (fr_isinstance T) (by decide +kernel) (pa_cons (pv 1) (pa_cons (pe_bltn (v := .ty "str") (by rfl) (fr_str T) (by decide +kernel) rfl) pa_nil)))) (pss_one (ps_ret (pe_and (pe_callB (isiK K) (by rfl) (fr_isinstance T) (by decide +kernel) (pa_cons (pv 0) (pa_cons (pe_bltn (v := .ty "str") (by rfl) (fr_str T) (by decide +kernel) rfl) pa_nil))) (pe_one (pe_cmpR op_eq (pv 0) (pv 1) (nomark _)))))) pss_nil)
      (pss_one (ps_ret (pe_and (pe_cmp (pc_isN (pv 0))) (pe_one (pe_cmp (pc_isN (pv 1))))))))))), ?_⟩
  have skip2 : ∀ {tz : TS} {D : Ends} {H1 : Hp} {tu : TS}, isB "list" (tyN e) = false → isB "tuple" (tyN e) = false → Ex H H1 → (∀ H2, Ex H H2 → tz D [some v, some u, none] H2) →
      tSeq (tIfS (tB (tCB (rIsiT K) (tCons (tVar 1) (tCons (tTup (tCons (tC (.ty "list")) (tCons (tC (.ty "tuple")) tNil))) tNil)))) tu tNext) tz D [some v, some u, none] H1 := fun {tz D H1 tu} h1 h2 e1 k =>
    q_when (b := false) (et_B (ev_is (ev_isiD2 (ev_var rfl) (dp_ex e1 he) (by rfl) (by rfl)) (by rw [h1, h2]; rfl))) (fun h => nomatch h) fun _ H2 e2 => k H2 (e1.trans e2)
  have skip1 : ∀ {tz : TS} {D : Ends} {H1 : Hp} {tu : TS} {c : String}, isB c (tyN e) = false → askd c = true → Ex H H1 → (∀ H2, Ex H H2 → tz D [some v, some u, none] H2) →
      tSeq (tIfS (tB (tCB (rIsi K) (tCons (tVar 1) (tCons (tC (.ty c)) tNil)))) tu tNext) tz D [some v, some u, none] H1 := fun {tz D H1 tu c} h1 h2 e1 k =>
    q_when (b := false) (et_B (ev_is (ev_isiD (ev_var rfl) (dp_ex e1 he) h2) (by rw [h1]))) (fun h => nomatch h) fun _ H2 e2 => k H2 (e1.trans e2)
  have take1 : ∀ {tz : TS} {D : Ends} {H1 : Hp} {tu : TS} {c : String}, isB c (tyN e) = true → askd c = true → Ex H H1 → (∀ H2, Ex H H2 → tu { D with nx := tz D } [some v, some u, none] H2) →
      tSeq (tIfS (tB (tCB (rIsi K) (tCons (tVar 1) (tCons (tC (.ty c)) tNil)))) tu tNext) tz D [some v, some u, none] H1 := fun {tz D H1 tu c} h1 h2 e1 k =>
    q_when (b := true) (et_B (ev_is (ev_isiD (ev_var rfl) (dp_ex e1 he) h2) (by rw [h1]))) (fun _ H2 e2 => k H2 (e1.trans e2)) (fun h => nomatch h)
  by_cases hsq : ∃ (b : Bool) (es : List PyData), e = seqD b es
  · obtain ⟨b, es, rfl⟩ := hsq
    obtain ⟨a, us, rfl, hs, hu'⟩ := dp_seq he
    obtain ⟨m, rfl, hlen, hmm⟩ := dn_seq hm
    refine q_when (b := true) (et_B (ev_is (ev_isiD2 (ev_var rfl) he (by rfl) (by rfl)) (by cases b <;> simp [seqD, tyN, isB_tab]))) (fun _ H1 e1 => ?_) (fun h => nomatch h)
    refine q_when (et_or (et_not (et_B (ev_isiD2 (ev_var rfl) (dp_ex e1 hd) (by rfl) (by rfl)))) fun _ => et_test (ev_op (ev_isiD (ev_var rfl) (dp_ex e1 hd) (by rfl)) (ev_isiD (ev_var rfl) (dp_ex e1 he) (by rfl)) (rv_ne rfl))) (fun hb H2 e2 => ?_) (fun hb H2 e2 => ?_)
    · refine s_ret ev_c fun H3 e3 => hQ false ?_ H3 (e1.trans (e2.trans e3))
      refine ⟨(fun z => nomatch z), fun z => ?_⟩
      subst z
      cases b <;> simp [seqD, tyN, isB_tab] at hb
    have hd1 : ∃ ds, d = seqD b ds := by
      cases b <;> cases hd <;> simp [seqD, tyN, isB_tab] at hb ⊢
    obtain ⟨ds, rfl⟩ := hd1
    obtain ⟨a2, vs, rfl, hs2, hv'⟩ := dp_seq hd
    obtain ⟨m', hm', hlen2, hmm2⟩ := dn_seq hn
    obtain rfl : m = m' := by omega
    have E2 := e1.trans e2
    have lu := dpa_len hu'
    have lv := dpa_len hv'
    refine q_when (et_test (ev_op (ev_cb (ea_cons (ev_var rfl) ea_nil) (rc_lenB (hs2.ex E2))) (ev_cb (ea_cons (ev_var rfl) ea_nil) (rc_lenB (hs.ex E2))) (rv_ne rfl))) (fun hz H3 e3 => ?_) (fun hz H3 e3 => ?_)
    · refine s_ret ev_c fun H4 e4 => hQ false ?_ H4 (E2.trans (e3.trans e4))
      refine ⟨(fun z => nomatch z), fun z => ?_⟩
      rw [seqD_inj] at z
      subst z
      rw [lu, lv] at hz
      simp at hz
    have ll : ds.length = es.length := by
      rw [lu, lv] at hz
      simp at hz
      omega
    classical
    have E3 := E2.trans e3
    have hs3 := hs.ex E3
    have hs23 := hs2.ex E3
    refine s_ret (ev_op (ev_lenN' (el_lcR1 (n := (us.length : Int)) (fun i => !decide (ds[i]? = es[i]?)) (fun i => .int (i : Int)) (ea_cons (ev_cb (ea_cons (ev_var rfl) ea_nil) (rc_lenB hs3)) ea_nil) (by omega) (fun _ => rfl) (fun i H4 e4 hi => ?_) (fun i H4 e4 hi _ => ev_var rfl))) ev_c (rv_eq rfl)) fun H5 e5 => hQ _ ?_ H5 (E3.trans e5)
    · have hi1 : i < es.length := by omega
      have hi2 : i < ds.length := by omega
      obtain ⟨x1, hx1, hx2⟩ := dpa_at hu' hi1
      obtain ⟨y1, hy1, hy2⟩ := dpa_at hv' hi2
      refine et_not (et_B (ev_call (ea_cons (ev_op (ev_var rfl) (ev_var rfl) (rv_ixB (hs23.ex e4) (atI_nat hy1))) (ea_cons (ev_op (ev_var rfl) (ev_var rfl) (rv_ixB (hs3.ex e4) (atI_nat hx1))) ea_nil)) ?_))
      intro H6 e6 Q' q' E'
      have E6 := (E3.trans e4).trans e6
      refine ⟨y1, x1, ds[i], es[i], rfl, dp_ex E6 hy2, dp_ex E6 hx2, hmm2 _ (List.getElem_mem _), hmm _ (List.getElem_mem _), fun b' hb' => ?_⟩
      have eb : b' = decide (ds[i]? = es[i]?) := by
        rw [List.getElem?_eq_getElem hi1, List.getElem?_eq_getElem hi2, Bool.eq_iff_iff, hb', decide_eq_true_iff]
        simp
      rw [eb]
      exact q'
    · rw [seqD_inj, decide_eq_true_iff]
      have e1' : (V.int (((given (us.length : Int).toNat (fun i => !decide (ds[i]? = es[i]?)) (fun i => .int (i : Int))).length : Nat) : Int) = V.int 0) ↔ (given (us.length : Int).toNat (fun i => !decide (ds[i]? = es[i]?)) (fun i => .int (i : Int))).length = 0 := by
        constructor
        · intro h
          injection h with h
          omega
        · intro h
          rw [h]
          rfl
      rw [e1', given_none]
      constructor
      · intro h
        refine List.ext_getElem? fun i => ?_
        by_cases hi : i < es.length
        · have := h i (by omega)
          simpa using this
        · rw [List.getElem?_eq_none (by omega), List.getElem?_eq_none (by omega)]
      · intro h i hi
        rw [h]
        simp
  cases e with
  | none =>
    cases he with
    | non =>
    refine skip2 (by simp [tyN, isB_tab]) (by simp [tyN, isB_tab]) (Ex.refl H) fun H1 e1 => ?_
    refine skip1 (by simp [tyN, isB_tab]) (by rfl) e1 fun H2 e2 => ?_
    refine skip1 (by simp [tyN, isB_tab]) (by rfl) e2 fun H3 e3 => ?_
    refine skip1 (by simp [tyN, isB_tab]) (by rfl) e3 fun H4 e4 => ?_
    refine s_ret (ev_andV (ev_isN (ev_var rfl)) fun _ => ev_isN (ev_var rfl)) fun H5 e5 => ?_
    refine hQ _ ?_ H5 (e4.trans e5)
    cases hd <;> simp
  | bool b =>
    cases he with
    | bl =>
    refine skip2 (by simp [tyN, isB_tab]) (by simp [tyN, isB_tab]) (Ex.refl H) fun H1 e1 => ?_
    refine take1 (by simp [tyN, isB_tab]) (by rfl) e1 fun H2 e2 => ?_
    refine s_ret (ev_andV (ev_isiD (ev_var rfl) (dp_ex e2 hd) (by rfl)) fun hc => ev_op (ev_var rfl) (ev_var rfl) (rv_eq (by cases hd <;> first | rfl | (simp [tyN, isB_tab] at hc)))) fun H5 e5 => hQ _ ?_ H5 (e2.trans e5)
    cases hd <;> simp [tyN, isB_tab]
  | int b =>
    cases he with
    | int =>
    refine skip2 (by simp [tyN, isB_tab]) (by simp [tyN, isB_tab]) (Ex.refl H) fun H1 e1 => ?_
    refine skip1 (by simp [tyN, isB_tab]) (by rfl) e1 fun H2 e2 => ?_
    refine take1 (by simp [tyN, isB_tab]) (by rfl) e2 fun H3 e3 => ?_
    refine s_ret (ev_andV (ev_call (ea_cons (ev_var rfl) ea_nil) (sv_whole (dp_ex e3 hd))) fun hc => ev_op (ev_var rfl) (ev_var rfl) (rv_eq (by cases hd <;> first | rfl | (simp [isInt, tyN, isB_tab] at hc)))) fun H5 e5 => hQ _ ?_ H5 (e3.trans e5)
    cases hd <;> simp [isInt, tyN, isB_tab]
  | str b =>
    cases he with
    | str =>
    refine skip2 (by simp [tyN, isB_tab]) (by simp [tyN, isB_tab]) (Ex.refl H) fun H1 e1 => ?_
    refine skip1 (by simp [tyN, isB_tab]) (by rfl) e1 fun H2 e2 => ?_
    refine skip1 (by simp [tyN, isB_tab]) (by rfl) e2 fun H3 e3 => ?_
    refine take1 (by simp [tyN, isB_tab]) (by rfl) e3 fun H4 e4 => ?_
    refine s_ret (ev_andV (ev_isiD (ev_var rfl) (dp_ex e4 hd) (by rfl)) fun hc => ev_op (ev_var rfl) (ev_var rfl) (rv_eq (by cases hd <;> first | rfl | (simp [tyN, isB_tab] at hc)))) fun H5 e5 => hQ _ ?_ H5 (e4.trans e5)
    cases hd <;> simp [tyN, isB_tab]
  | list es => exact absurd ⟨true, es, rfl⟩ hsq
  | tuple es => exact absurd ⟨false, es, rfl⟩ hsq
  | dict es => cases he
theorem fn_l_same (T : TX K mg base) : ∀ n : Nat, ∃ fd, FunD K "_law_same" "_law_same" (defArgs s_l_same) (defBody s_l_same) (defScope s_l_same) [] [] (He.ga K "_law_same") fd ∧ FnOk P w K mg base CX0 (n + 2) (He.ga K "_law_same") fd ["_law_told", "_law_due"] (spSame K n) := fun n => by
  obtain ⟨fd, F⟩ := fd_l_same T
  have b : Binds K fd ["_law_told", "_law_due"] [] := F.bindsN fun _ _ _ _ _ _ us hl => match us, hl with | [_, _], _ => rfl
  refine ⟨fd, F, ?_⟩
  induction n with
  | zero =>
    refine My.FunD.ok0 F sc_l_same (fun vs H Q E h => ?_) (fun cdv A outer s0 H vs Q E hr h => ?_)
    · obtain ⟨_, _, _, _, rfl, _⟩ := h
      rfl
    obtain ⟨v, u, d, e, rfl, hd, he, hn, hm, hQ⟩ := h
    exact body_same T hr hd he hn hm hQ (DefOk.of F (gl_l_same T) b ⟨fun _ _ _ _ h => h.elim, fun _ _ _ _ _ _ _ _ _ _ _ _ _ h => h.elim⟩)
  | succ n ih =>
    refine My.FunD.ok0 F sc_l_same (fun vs H Q E h => ?_) (fun cdv A outer s0 H vs Q E hr h => ?_)
    · obtain ⟨_, _, _, _, rfl, _⟩ := h
      rfl
    obtain ⟨v, u, d, e, rfl, hd, he, hn, hm, hQ⟩ := h
    exact body_same T hr hd he hn hm hQ (DefOk.of F (gl_l_same T) b ih)
theorem ok_l_same (T : TX K mg base) (n : Nat) : DefOk P w K mg base (n + 2) "_law_same" ["_law_told", "_law_due"] [] (spSame K n) := by
  obtain ⟨fd, F, h⟩ := fn_l_same (P := P) (w := w) T (base := base) n
  exact DefOk.of F (gl_l_same T) (F.bindsN fun _ _ _ _ _ _ us hl => match us, hl with | [_, _], _ => rfl) h
theorem sv_same {K : PySem.W.Frag} {H : Hp} {v u : V} {d e : PyData} {n : Nat} {b : Bool} (hd : Dp K H v d) (he : Dp K H u e) (hn : Dn n d) (hm : Dn n e) (hb : b = true ↔ d = e) : SpV (spSame K n) [v, u] H (.bl b) := fun H1 x Q q E =>
  ⟨v, u, d, e, rfl, dp_ex x hd, dp_ex x he, hn, hm, fun b' h' => by
    have : b' = b := by rw [Bool.eq_iff_iff, h', hb]
    rw [this]
    exact q⟩
end

/-! ### the common defs, as functions of a store -/
section
open Mi
noncomputable def fNumber : List D → Sto → R D := fun ds S => match ds with
  | [.ref l, .int a, .int k, .int sz] => match (rdL S l).bind intsOf with
    | some ns => open Classical in if ns.length ≤ 63 ∧ NumOk a k sz then .ok (.int (lawNum ns a k sz)) S else .bad
    | none => .bad
  | _ => .bad
theorem fNumber_eq {S : Sto} {l : Nat} {ns : List Int} {a k sz : Int} (h : rdL S l = some (ns.map D.int)) (hl : ns.length ≤ 63) (ok : NumOk a k sz) : fNumber [.ref l, .int a, .int k, .int sz] S = .ok (.int (lawNum ns a k sz)) S := by
  simp [fNumber, h, intsOf_map, hl, ok]
noncomputable def fWhole : List D → Sto → R D := fun ds S => match ds with
  | [x] => match dataOf S x with
    | some p => .ok (.bl (isInt p)) S
    | none => .bad
  | _ => .bad
theorem fWhole_eq {S : Sto} {x : D} {p : PyData} (h : DD S x p) : fWhole [x] S = .ok (.bl (isInt p)) S := by simp [fWhole, dataOf_eq h]
theorem fWhole_int {S : Sto} {i : Int} : fWhole [.int i] S = .ok (.bl true) S := by
  rw [fWhole_eq (.int i)]
  simp [isInt, tyN, isB_tab]
open Classical in
noncomputable def fSame (n : Nat) : List D → Sto → R D := fun ds S => match ds with
  | [x, y] => match dataOf S x, dataOf S y with
    | some p, some q => if Dn n p ∧ Dn n q then .ok (.bl (decide (p = q))) S else .bad
    | _, _ => .bad
  | _ => .bad
open Classical in
theorem fSame_eq {S : Sto} {n : Nat} {x y : D} {p q : PyData} (hx : DD S x p) (hy : DD S y q) (h1 : Dn n p) (h2 : Dn n q) : fSame n [x, y] S = .ok (.bl (decide (p = q))) S := by simp [fSame, dataOf_eq hx, dataOf_eq hy, h1, h2]
theorem fSame_refl {S : Sto} {n : Nat} {x y : D} {p : PyData} (hx : DD S x p) (hy : DD S y p) (h1 : Dn n p) : fSame n [x, y] S = .ok (.bl true) S := by simp [fSame, dataOf_eq hx, dataOf_eq hy, h1]
theorem defok_imp {P : Program} {w : World} {K : PySem.W.Frag} {mg : Str → Option Value} {base : Heap} {k : Nat} {x : Str} {ps : List Str} {dvs : List V} {sp sp' : Sp} (h : DefOk P w K mg base k x ps dvs sp) (i : ∀ vs H Q E, sp' vs H Q E → sp vs H Q E) : DefOk P w K mg base k x ps dvs sp' := by
  obtain ⟨f, fd, ds, h1, h2, h3, h4, h5⟩ := h.ex
  exact ⟨f, fd, ds, h1, h2, h3, h4, h5.imp i⟩
variable {P : Program} {w : World} {K : PySem.W.Frag} {mg : Str → Option Value} {base : Heap}
theorem okm_l_number (T : TX K mg base) : DefOk P w K mg base 1 "_law_number" ["_law_script", "_law_at", "_law_k", "_law_size"] [] (spF K fNumber) := by
  refine defok_imp (ok_l_number (P := P) (w := w) (base := base) T) fun vs H Q E ⟨φ, S, ds, r, hv, p⟩ => ?_
  unfold fNumber at p
  split at p
  · split at p
    · rename_i l a k sz _ ns e
      obtain ⟨xs, h1, h2⟩ := Option.bind_eq_some_iff.mp e
      cases hv with
      | cons q1 hv =>
        cases hv with
        | cons q2 hv =>
          obtain ⟨v3, v4, rfl, q3, q4⟩ := hv.two_inv
          obtain ⟨_, rfl⟩ := q1.ref_inv
          cases q2; cases q3; cases q4
          obtain ⟨ws, w1, w2⟩ := r.rd h1
          rw [intsOf_inv h2] at w2
          rw [w2.ints_inv] at w1
          split at p
          · rename_i ok
            exact ⟨_, ns, a, k, sz, rfl, w1, ok.1, ok.2, fun H' e' => p.ex r e' (VR.int _)⟩
          · exact p.elim
    · exact p.elim
  · exact p.elim
theorem okm_l_is_whole (T : TX K mg base) : DefOk P w K mg base 1 "_law_is_whole" ["_law_told"] [] (spF K fWhole) := by
  refine defok_imp (ok_l_is_whole (P := P) (w := w) (base := base) T) fun vs H Q E ⟨φ, S, ds, r, hv, p⟩ => ?_
  unfold fWhole at p
  split at p
  · split at p
    · rename_i x _ d e
      obtain ⟨v, rfl, hz⟩ := hv.one_inv
      exact ⟨v, d, rfl, (dataOf_some e).dp r hz, fun H' e' => p.ex r e' (VR.bl _)⟩
    · exact p.elim
  · exact p.elim
open Classical in
theorem okm_l_same (T : TX K mg base) (n : Nat) : DefOk P w K mg base (n + 2) "_law_same" ["_law_told", "_law_due"] [] (spF K (fSame n)) := by
  refine defok_imp (ok_l_same (P := P) (w := w) (base := base) T n) fun vs H Q E ⟨φ, S, ds, r, hv, p⟩ => ?_
  unfold fSame at p
  split at p
  · split at p
    · rename_i x y _ _ d e h1 h2
      obtain ⟨v, u, rfl, hx, hy⟩ := hv.two_inv
      split at p
      · rename_i hd
        refine ⟨v, u, d, e, rfl, (dataOf_some h1).dp r hx, (dataOf_some h2).dp r hy, hd.1, hd.2, fun b hb H' e' => ?_⟩
        have : b = decide (d = e) := by
          rw [Bool.eq_iff_iff, hb, decide_eq_true_iff]
        rw [this]
        exact p.ex r e' (VR.bl _)
      · exact p.elim
    · exact p.elim
  · exact p.elim
end

section
open Mi
theorem num_ok {S : Sto} {l0 : Nat} {ns : List Int} {a k sz : Int} (h : rdL S l0 = some (ns.map .int)) (hl : ns.length ≤ 63) (ok : NumOk a k sz) : Ok (fNumber [.ref l0, .int a, .int k, .int sz] S) fun v S' => S' = S ∧ ∃ q : Int, v = .int q ∧ 0 ≤ q ∧ q < sz := by
  refine Ok.of ⟨.int (lawNum ns a k sz), S, fNumber_eq h hl ok, rfl, _, rfl, lawNum_nn _ _ _ _ ?_, lawNum_lt _ _ _ _ ?_⟩ <;> (unfold NumOk at ok; omega)
theorem same_ints {S : Sto} {l m : Nat} {as : List Int} (h : rdL S l = some (as.map .int)) (g : rdL S m = some (as.map .int)) (hz : as.length ≤ 40000) : fSame 3 [.ref l, .ref m] S = .ok (.bl true) S :=
  fSame_refl (.lst h (DDs.ints as)) (.lst g (DDs.ints as)) ((dn_ints hz).le (by decide))
end

section
open Mi
theorem Hs.mid {A B C : List Asn} {S : Sto} (h : Hs (A ++ (B ++ C)) S) : Hs (B ++ (A ++ C)) S := by
  have h1 : Hs (bun A :: (B ++ C)) S := Hs.bun.mpr h
  have h2 : Hs ((B ++ C) ++ [bun A]) S := Hs.swap (As := [bun A]) h1
  rw [List.append_assoc] at h2
  have h3 : Hs ((bun B :: C) ++ [bun A]) S := Hs.bun.mpr h2
  have h4 : Hs (bun A :: bun B :: C) S := h3.swap
  have h5 : Hs (B ++ (bun A :: C)) S := Hs.bun.mp (h4.up 1)
  have h6 : Hs (bun A :: (C ++ B)) S := h5.swap
  have h7 := Hs.bun.mp h6
  rw [← List.append_assoc] at h7
  exact h7.swap
theorem Rd.right {As Bs : List Asn} {l : Nat} {xs : List D} (h : Mi.Rd Bs l xs) : Mi.Rd (As ++ Bs) l xs := fun S q => h S q.swap.left
def Tb (As : List Asn) : Prop := ∀ S, Hs As S → at_ S 1 = some (.tbls tabs0)
theorem Tb.right {As Bs : List Asn} (h : Tb Bs) : Tb (As ++ Bs) := fun S q => h S q.swap.left
end

section
open Mi
variable {P : Program} {w : World} {K : PySem.W.Frag} {mg : Str → Option Value} {base : Heap}
theorem sc_zeros : FnScope ["count", "_"] ["count"] (defScope s_zeros) := ⟨rfl, rfl, rfl, by decide +kernel, rfl, by decide +kernel, by decide +kernel⟩
noncomputable def f_zeros_c1 : Mi.Env → Mi.Sto → Mi.R Mi.D := (xLc (iR1 (xCons (xVar 0) xNil)) (gNameX 1) xYes (xC (.int 0)) [1])
@[irreducible] noncomputable def f_zeros : List Mi.D → Mi.Sto → Mi.R Mi.D := Mi.defX 1 1 (xRet f_zeros_c1)
theorem f_zeros_eq : f_zeros = Mi.defX 1 1 (xRet f_zeros_c1) := by with_unfolding_all rfl
theorem fn_zeros (T : TX K mg base) : ∃ fd, FunD K "zeros" "zeros" (defArgs s_zeros) (defBody s_zeros) (defScope s_zeros) [] [] (He.ga K "zeros") fd ∧ FnOk P w K mg base CX0 (1) (He.ga K "zeros") fd ["count"] (Mi.spF K f_zeros) := by
  rw [f_zeros_eq]
  obtain ⟨fd, F⟩ := fd_zeros T
  refine ⟨fd, F, My.FunD.ok0 F sc_zeros (Mi.spF_len rfl) (fun cdv A outer s0 H vs Q E hr h => ?_)⟩
  have hu := hu_of hr
  exact ⟨_, (pss_one (ps_ret (pe_lc (own := [("_", 1)]) rfl sc_zeros.nd (pi_range1 rfl (fr_range T) (pa_cons (pv 0) pa_nil)) (blkOk_by (own := [("_", 1)]) (N := ["count", "_"]) (sc := defScope s_zeros) (by decide +kernel)) (fun _ _ _ _ _ => (pg_name (i := 1) sc_zeros.nd rfl (Or.inl rfl))) (fun _ _ _ _ _ => pts_nil) (fun _ _ _ _ _ => pe_int)))),
    Mi.body_of (K := K) (E := E) (m := 1) (k := 1) (N := ["count", "_"]) rfl h (imp_ret (imp_lc (imp_iR1 (imp_cons imp_var imp_nil)) (impg_name) imp_yes imp_int (by decide)))⟩
theorem ok_zeros (T : TX K mg base) : DefOk P w K mg base (1) "zeros" ["count"] [] (Mi.spF K f_zeros) := by
  obtain ⟨fd, F, h⟩ := fn_zeros (P := P) (w := w) (base := base) T
  exact DefOk.of F (gl_zeros T) (F.bindsN fun _ _ _ _ _ _ us hl => match us, hl with | [_], _ => rfl) h
theorem sc_Chooser___init__ : FnScope ["self", "kind", "frames"] ["self", "kind", "frames"] (defScope s_Chooser___init__) := ⟨rfl, rfl, rfl, by decide +kernel, rfl, by decide +kernel, by decide +kernel⟩
@[irreducible] noncomputable def f_Chooser___init__ : List Mi.D → Mi.Sto → Mi.R Mi.D := Mi.defX 3 0 (xSeq (xSetF "Chooser" "kind" (xVar 0) (xVar 1))
      (xSeq (xSetF "Chooser" "time" (xVar 0) (xC (.int 0)))
      (xSeq (xSetF "Chooser" "filled_at" (xVar 0) (xCall f_zeros (xCons (xVar 2) xNil)))
      (xSeq (xSetF "Chooser" "used_at" (xVar 0) (xCall f_zeros (xCons (xVar 2) xNil)))
      (xSeq (xSetF "Chooser" "bits" (xVar 0) (xCall f_zeros (xCons (xVar 2) xNil)))
      (xSetF "Chooser" "pointer" (xVar 0) (xC (.int 0))))))))
theorem f_Chooser___init___eq : f_Chooser___init__ = Mi.defX 3 0 (xSeq (xSetF "Chooser" "kind" (xVar 0) (xVar 1))
      (xSeq (xSetF "Chooser" "time" (xVar 0) (xC (.int 0)))
      (xSeq (xSetF "Chooser" "filled_at" (xVar 0) (xCall f_zeros (xCons (xVar 2) xNil)))
      (xSeq (xSetF "Chooser" "used_at" (xVar 0) (xCall f_zeros (xCons (xVar 2) xNil)))
      (xSeq (xSetF "Chooser" "bits" (xVar 0) (xCall f_zeros (xCons (xVar 2) xNil)))
      (xSetF "Chooser" "pointer" (xVar 0) (xC (.int 0)))))))) := by with_unfolding_all rfl
theorem fn_Chooser___init__ (T : TX K mg base) : ∃ fd, FunD K "__init__" "Chooser.__init__" (defArgs s_Chooser___init__) (defBody s_Chooser___init__) (defScope s_Chooser___init__) [] [] (He.ma K (He.ga K "Chooser") "__init__") fd ∧ FnOk P w K mg base CX0 (2) (He.ma K (He.ga K "Chooser") "__init__") fd ["self", "kind", "frames"] (Mi.spF K f_Chooser___init__) := by
  rw [f_Chooser___init___eq]
  obtain ⟨fd, F⟩ := fd_Chooser___init__ T
  refine ⟨fd, F, My.FunD.ok0 F sc_Chooser___init__ (Mi.spF_len rfl) (fun cdv A outer s0 H vs Q E hr h => ?_)⟩
  have hu := hu_of hr
  exact ⟨_, (pss_cons (ps_fld (pv 0) (pv 1) rfl)
      (pss_cons (ps_fld (pv 0) pe_int rfl)
      (pss_cons (ps_fld (pv 0) (pe_callN (ok_zeros (P := P) (w := w) (base := base) T) hr (pa_cons (pv 2) pa_nil)) rfl)
      (pss_cons (ps_fld (pv 0) (pe_callN (ok_zeros (P := P) (w := w) (base := base) T) hr (pa_cons (pv 2) pa_nil)) rfl)
      (pss_cons (ps_fld (pv 0) (pe_callN (ok_zeros (P := P) (w := w) (base := base) T) hr (pa_cons (pv 2) pa_nil)) rfl)
      (pss_one (ps_fld (pv 0) pe_int rfl))))))),
    Mi.body_of (K := K) (E := E) (m := 3) (k := 0) (N := ["self", "kind", "frames"]) rfl h (imp_seq (imp_setF (cls_Chooser T) (na_Chooser_kind T) imp_var imp_var) (imp_seq (imp_setF (cls_Chooser T) (na_Chooser_time T) imp_var imp_int) (imp_seq (imp_setF (cls_Chooser T) (na_Chooser_filled_at T) imp_var (imp_call (imp_cons imp_var imp_nil))) (imp_seq (imp_setF (cls_Chooser T) (na_Chooser_used_at T) imp_var (imp_call (imp_cons imp_var imp_nil))) (imp_seq (imp_setF (cls_Chooser T) (na_Chooser_bits T) imp_var (imp_call (imp_cons imp_var imp_nil))) (imp_setF (cls_Chooser T) (na_Chooser_pointer T) imp_var imp_int))))))⟩
theorem mk_Chooser (T : TX K mg base) : MkOk P w K mg base (2) "Chooser" (He.ga K "Chooser") ["self", "kind", "frames"] [] (Mi.spF K f_Chooser___init__) := by
  obtain ⟨fd, F, h⟩ := fn_Chooser___init__ (P := P) (w := w) (base := base) T
  exact ⟨_, fd, [], gl_Chooser T, mkr_Chooser T, (F.bindsN fun _ _ _ _ _ _ us hl => match us, hl with | [_, _, _], _ => rfl), .nil, h⟩
theorem sc_Chooser_touched : FnScope ["self", "frame"] ["self", "frame"] (defScope s_Chooser_touched) := ⟨rfl, rfl, rfl, by decide +kernel, rfl, by decide +kernel, by decide +kernel⟩
@[irreducible] noncomputable def f_Chooser_touched : List Mi.D → Mi.Sto → Mi.R Mi.D := Mi.defX 2 0 (xSeq (xAugF "Chooser" "time" (xVar 0) (xC (.int 1)) (oI fun i j => .int (i + j)))
      (xSeq (xAsg (xFld "Chooser" "time" (xVar 0)) (gSubX (xFld "Chooser" "used_at" (xVar 0)) (xVar 1)))
      (xAsg (xC (.int 1)) (gSubX (xFld "Chooser" "bits" (xVar 0)) (xVar 1)))))
theorem f_Chooser_touched_eq : f_Chooser_touched = Mi.defX 2 0 (xSeq (xAugF "Chooser" "time" (xVar 0) (xC (.int 1)) (oI fun i j => .int (i + j)))
      (xSeq (xAsg (xFld "Chooser" "time" (xVar 0)) (gSubX (xFld "Chooser" "used_at" (xVar 0)) (xVar 1)))
      (xAsg (xC (.int 1)) (gSubX (xFld "Chooser" "bits" (xVar 0)) (xVar 1))))) := by with_unfolding_all rfl
theorem fn_Chooser_touched (T : TX K mg base) : ∃ fd, FunD K "touched" "Chooser.touched" (defArgs s_Chooser_touched) (defBody s_Chooser_touched) (defScope s_Chooser_touched) [] [] (He.ma K (He.ga K "Chooser") "touched") fd ∧ FnOk P w K mg base CX0 (1) (He.ma K (He.ga K "Chooser") "touched") fd ["self", "frame"] (Mi.spF K f_Chooser_touched) := by
  rw [f_Chooser_touched_eq]
  obtain ⟨fd, F⟩ := fd_Chooser_touched T
  refine ⟨fd, F, My.FunD.ok0 F sc_Chooser_touched (Mi.spF_len rfl) (fun cdv A outer s0 H vs Q E hr h => ?_)⟩
  have hu := hu_of hr
  exact ⟨_, (pss_cons (ps_fldaug (pv 0) pe_int in_add)
      (pss_cons (ps_asg (pe_fldK K (pv 0) rfl) (pg_sub (pe_fldK K (pv 0) rfl) (pv 1) set_list))
      (pss_one (ps_asg pe_int (pg_sub (pe_fldK K (pv 0) rfl) (pv 1) set_list))))),
    Mi.body_of (K := K) (E := E) (m := 2) (k := 0) (N := ["self", "frame"]) rfl h (imp_seq (imp_augF_add (cls_Chooser T) (na_Chooser_time T) imp_var imp_int) (imp_seq (imp_asg (imp_fld (cls_Chooser T) (na_Chooser_time T) imp_var) (impg_sub (imp_fld (cls_Chooser T) (na_Chooser_used_at T) imp_var) imp_var)) (imp_asg imp_int (impg_sub (imp_fld (cls_Chooser T) (na_Chooser_bits T) imp_var) imp_var))))⟩
theorem ok_Chooser_touched (T : TX K mg base) : MethOk P w K mg base CX0 (1) (He.ga K "Chooser") "touched" ["self", "frame"] [] (Mi.spF K f_Chooser_touched) := by
  obtain ⟨fd, F, h⟩ := fn_Chooser_touched (P := P) (w := w) (base := base) T
  exact MethOk.of F (cls_Chooser T) (meth_Chooser_touched T) (F.bindsN fun _ _ _ _ _ _ us hl => match us, hl with | [_, _], _ => rfl) h
theorem sc_Chooser_filled : FnScope ["self", "frame"] ["self", "frame"] (defScope s_Chooser_filled) := ⟨rfl, rfl, rfl, by decide +kernel, rfl, by decide +kernel, by decide +kernel⟩
@[irreducible] noncomputable def f_Chooser_filled : List Mi.D → Mi.Sto → Mi.R Mi.D := Mi.defX 2 0 (xSeq (xDrop (xMeth "Chooser" "touched" f_Chooser_touched (xVar 0) (xCons (xVar 1) xNil)))
      (xAsg (xFld "Chooser" "time" (xVar 0)) (gSubX (xFld "Chooser" "filled_at" (xVar 0)) (xVar 1))))
theorem f_Chooser_filled_eq : f_Chooser_filled = Mi.defX 2 0 (xSeq (xDrop (xMeth "Chooser" "touched" f_Chooser_touched (xVar 0) (xCons (xVar 1) xNil)))
      (xAsg (xFld "Chooser" "time" (xVar 0)) (gSubX (xFld "Chooser" "filled_at" (xVar 0)) (xVar 1)))) := by with_unfolding_all rfl
theorem fn_Chooser_filled (T : TX K mg base) : ∃ fd, FunD K "filled" "Chooser.filled" (defArgs s_Chooser_filled) (defBody s_Chooser_filled) (defScope s_Chooser_filled) [] [] (He.ma K (He.ga K "Chooser") "filled") fd ∧ FnOk P w K mg base CX0 (2) (He.ma K (He.ga K "Chooser") "filled") fd ["self", "frame"] (Mi.spF K f_Chooser_filled) := by
  rw [f_Chooser_filled_eq]
  obtain ⟨fd, F⟩ := fd_Chooser_filled T
  refine ⟨fd, F, My.FunD.ok0 F sc_Chooser_filled (Mi.spF_len rfl) (fun cdv A outer s0 H vs Q E hr h => ?_)⟩
  have hu := hu_of hr
  exact ⟨_, (pss_cons (ps_expr (pe_methN (ok_Chooser_touched (P := P) (w := w) (base := base) T) (pv 0) hr (pa_cons (pv 1) pa_nil)))
      (pss_one (ps_asg (pe_fldK K (pv 0) rfl) (pg_sub (pe_fldK K (pv 0) rfl) (pv 1) set_list)))),
    Mi.body_of (K := K) (E := E) (m := 2) (k := 0) (N := ["self", "frame"]) rfl h (imp_seq (imp_drop (imp_meth imp_var (imp_cons imp_var imp_nil))) (imp_asg (imp_fld (cls_Chooser T) (na_Chooser_time T) imp_var) (impg_sub (imp_fld (cls_Chooser T) (na_Chooser_filled_at T) imp_var) imp_var)))⟩
theorem ok_Chooser_filled (T : TX K mg base) : MethOk P w K mg base CX0 (2) (He.ga K "Chooser") "filled" ["self", "frame"] [] (Mi.spF K f_Chooser_filled) := by
  obtain ⟨fd, F, h⟩ := fn_Chooser_filled (P := P) (w := w) (base := base) T
  exact MethOk.of F (cls_Chooser T) (meth_Chooser_filled T) (F.bindsN fun _ _ _ _ _ _ us hl => match us, hl with | [_, _], _ => rfl) h
theorem sc_Chooser_emptied : FnScope ["self", "frame"] ["self", "frame"] (defScope s_Chooser_emptied) := ⟨rfl, rfl, rfl, by decide +kernel, rfl, by decide +kernel, by decide +kernel⟩
@[irreducible] noncomputable def f_Chooser_emptied : List Mi.D → Mi.Sto → Mi.R Mi.D := Mi.defX 2 0 (xAsg (xC (.int 0)) (gSubX (xFld "Chooser" "bits" (xVar 0)) (xVar 1)))
theorem f_Chooser_emptied_eq : f_Chooser_emptied = Mi.defX 2 0 (xAsg (xC (.int 0)) (gSubX (xFld "Chooser" "bits" (xVar 0)) (xVar 1))) := by with_unfolding_all rfl
theorem fn_Chooser_emptied (T : TX K mg base) : ∃ fd, FunD K "emptied" "Chooser.emptied" (defArgs s_Chooser_emptied) (defBody s_Chooser_emptied) (defScope s_Chooser_emptied) [] [] (He.ma K (He.ga K "Chooser") "emptied") fd ∧ FnOk P w K mg base CX0 (1) (He.ma K (He.ga K "Chooser") "emptied") fd ["self", "frame"] (Mi.spF K f_Chooser_emptied) := by
  rw [f_Chooser_emptied_eq]
  obtain ⟨fd, F⟩ := fd_Chooser_emptied T
  refine ⟨fd, F, My.FunD.ok0 F sc_Chooser_emptied (Mi.spF_len rfl) (fun cdv A outer s0 H vs Q E hr h => ?_)⟩
  have hu := hu_of hr
  exact ⟨_, (pss_one (ps_asg pe_int (pg_sub (pe_fldK K (pv 0) rfl) (pv 1) set_list))),
    Mi.body_of (K := K) (E := E) (m := 2) (k := 0) (N := ["self", "frame"]) rfl h (imp_asg imp_int (impg_sub (imp_fld (cls_Chooser T) (na_Chooser_bits T) imp_var) imp_var))⟩
theorem ok_Chooser_emptied (T : TX K mg base) : MethOk P w K mg base CX0 (1) (He.ga K "Chooser") "emptied" ["self", "frame"] [] (Mi.spF K f_Chooser_emptied) := by
  obtain ⟨fd, F, h⟩ := fn_Chooser_emptied (P := P) (w := w) (base := base) T
  exact MethOk.of F (cls_Chooser T) (meth_Chooser_emptied T) (F.bindsN fun _ _ _ _ _ _ us hl => match us, hl with | [_, _], _ => rfl) h
theorem sc_Chooser_turn_pointer : FnScope ["self", "allowed", "candidates", "frame"] ["self", "allowed"] (defScope s_Chooser_turn_pointer) := ⟨rfl, rfl, rfl, by decide +kernel, rfl, by decide +kernel, by decide +kernel⟩
noncomputable def f_Chooser_turn_pointer_b1 : Mi.Env → Mi.Sto → Mi.RS := (xSeq (xAsg (xFld "Chooser" "pointer" (xVar 0)) (gNameX 3))
      (xSeq (xSetF "Chooser" "pointer" (xVar 0) (xOp (oIC (fun _ j => 0 < j) fun i j => .int (i % j)) (xOp (oI fun i j => .int (i + j)) (xVar 3) (xC (.int 1))) (xCB bLen (xCons (xFld "Chooser" "bits" (xVar 0)) xNil))))
      (xIfS (xB (xOp (oInSet false) (xVar 3) (xVar 2))) (xSeq (xIfS (xB (xOp oEqS (xOp oIxL (xFld "Chooser" "bits" (xVar 0)) (xVar 3)) (xC (.int 0)))) (xRet (xVar 3)) xNext)
      (xAsg (xC (.int 0)) (gSubX (xFld "Chooser" "bits" (xVar 0)) (xVar 3)))) xNext)))
noncomputable def f_Chooser_turn_pointer_l1 : Mi.Env → Mi.Sto → Mi.RS := (xWhile (xB (xC (.bl true))) f_Chooser_turn_pointer_b1)
@[irreducible] noncomputable def f_Chooser_turn_pointer : List Mi.D → Mi.Sto → Mi.R Mi.D := Mi.defX 2 2 (xSeq (xAsg (xCB bSet (xCons (xVar 1) xNil)) (gNameX 2))
      f_Chooser_turn_pointer_l1)
theorem f_Chooser_turn_pointer_eq : f_Chooser_turn_pointer = Mi.defX 2 2 (xSeq (xAsg (xCB bSet (xCons (xVar 1) xNil)) (gNameX 2))
      f_Chooser_turn_pointer_l1) := by with_unfolding_all rfl
theorem fn_Chooser_turn_pointer (T : TX K mg base) : ∃ fd, FunD K "turn_pointer" "Chooser.turn_pointer" (defArgs s_Chooser_turn_pointer) (defBody s_Chooser_turn_pointer) (defScope s_Chooser_turn_pointer) [] [] (He.ma K (He.ga K "Chooser") "turn_pointer") fd ∧ FnOk P w K mg base CX0 (1) (He.ma K (He.ga K "Chooser") "turn_pointer") fd ["self", "allowed"] (Mi.spF K f_Chooser_turn_pointer) := by
  rw [f_Chooser_turn_pointer_eq]
  obtain ⟨fd, F⟩ := fd_Chooser_turn_pointer T
  refine ⟨fd, F, My.FunD.ok0 F sc_Chooser_turn_pointer (Mi.spF_len rfl) (fun cdv A outer s0 H vs Q E hr h => ?_)⟩
  have hu := hu_of hr
  exact ⟨_, (pss_cons (ps_set (i := 2) sc_Chooser_turn_pointer.nd rfl (Or.inl rfl) (pe_callTy (cr_setI K rfl) (by rfl) (fr_set T) (by decide +kernel) (pa_cons (pv 1) pa_nil)))
      (pss_one (ps_while PassesOwn.never (pt_val pe_bl) (pss_cons (ps_set (i := 3) sc_Chooser_turn_pointer.nd rfl (Or.inl rfl) (pe_fldK K (pv 0) rfl))
      (pss_cons (ps_fld (pv 0) (pe_op op_mod (pe_op op_add (pv 3) pe_int) (pe_callB (lenQ K) (by rfl) (fr_len T) PySem.boot_len (pa_cons (pe_fldK K (pv 0) rfl) pa_nil))) rfl)
      (pss_one (ps_if (pt_cmpR or_setIn (pv 3) (pv 2) rfl) (pss_cons (ps_if (pt_cmpR op_eq (pe_ix (ixL K) (pe_fldK K (pv 0) rfl) (pv 3) (fun _ _ => rfl)) pe_int (nomark _)) (pss_one (ps_ret (pv 3))) pss_nil)
      (pss_one (ps_asg pe_int (pg_sub (pe_fldK K (pv 0) rfl) (pv 3) set_list)))) pss_nil))))))),
    Mi.body_of (K := K) (E := E) (m := 2) (k := 2) (N := ["self", "allowed", "candidates", "frame"]) rfl h (imp_seq (imp_asg (imp_cb cbi_set (imp_cons imp_var imp_nil)) impg_name) (imp_while (imp_tB imp_bl) (imp_seq (imp_asg (imp_fld (cls_Chooser T) (na_Chooser_pointer T) imp_var) impg_name) (imp_seq (imp_setF (cls_Chooser T) (na_Chooser_pointer T) imp_var (imp_op opi_mod (imp_op opi_add imp_var imp_int) (imp_cb cbi_len (imp_cons (imp_fld (cls_Chooser T) (na_Chooser_bits T) imp_var) imp_nil)))) (imp_ifS (imp_test (imp_op opi_inSet imp_var imp_var)) (imp_seq (imp_ifS (imp_test (imp_op opi_eqS (imp_op opi_ixL (imp_fld (cls_Chooser T) (na_Chooser_bits T) imp_var) imp_var) imp_int)) (imp_ret imp_var) imp_next) (imp_asg imp_int (impg_sub (imp_fld (cls_Chooser T) (na_Chooser_bits T) imp_var) imp_var))) imp_next)))))⟩
theorem ok_Chooser_turn_pointer (T : TX K mg base) : MethOk P w K mg base CX0 (1) (He.ga K "Chooser") "turn_pointer" ["self", "allowed"] [] (Mi.spF K f_Chooser_turn_pointer) := by
  obtain ⟨fd, F, h⟩ := fn_Chooser_turn_pointer (P := P) (w := w) (base := base) T
  exact MethOk.of F (cls_Chooser T) (meth_Chooser_turn_pointer T) (F.bindsN fun _ _ _ _ _ _ us hl => match us, hl with | [_, _], _ => rfl) h
theorem sc_Chooser_choose : FnScope ["self", "allowed", "ages"] ["self", "allowed"] (defScope s_Chooser_choose) := ⟨rfl, rfl, rfl, by decide +kernel, rfl, by decide +kernel, by decide +kernel⟩
@[irreducible] noncomputable def f_Chooser_choose : List Mi.D → Mi.Sto → Mi.R Mi.D := Mi.defX 2 1 (xSeq (xIfS (xB (xOp oEqS (xFld "Chooser" "kind" (xVar 0)) (xC (.str "clock")))) (xRet (xMeth "Chooser" "turn_pointer" f_Chooser_turn_pointer (xVar 0) (xCons (xVar 1) xNil))) xNext)
      (xSeq (xAsg (xIf (xB (xOp oEqS (xFld "Chooser" "kind" (xVar 0)) (xC (.str "lru")))) (xFld "Chooser" "used_at" (xVar 0)) (xFld "Chooser" "filled_at" (xVar 0))) (gNameX 2))
      (xSeq (xIfS (xB (xOp oEqS (xFld "Chooser" "kind" (xVar 0)) (xC (.str "newest")))) (xRet (xKey KeyL.bMax tabs0 2 (xVar 1))) xNext)
      (xRet (xKey KeyL.bMin tabs0 2 (xVar 1))))))
theorem f_Chooser_choose_eq : f_Chooser_choose = Mi.defX 2 1 (xSeq (xIfS (xB (xOp oEqS (xFld "Chooser" "kind" (xVar 0)) (xC (.str "clock")))) (xRet (xMeth "Chooser" "turn_pointer" f_Chooser_turn_pointer (xVar 0) (xCons (xVar 1) xNil))) xNext)
      (xSeq (xAsg (xIf (xB (xOp oEqS (xFld "Chooser" "kind" (xVar 0)) (xC (.str "lru")))) (xFld "Chooser" "used_at" (xVar 0)) (xFld "Chooser" "filled_at" (xVar 0))) (gNameX 2))
      (xSeq (xIfS (xB (xOp oEqS (xFld "Chooser" "kind" (xVar 0)) (xC (.str "newest")))) (xRet (xKey KeyL.bMax tabs0 2 (xVar 1))) xNext)
      (xRet (xKey KeyL.bMin tabs0 2 (xVar 1)))))) := by with_unfolding_all rfl
theorem fn_Chooser_choose (T : TX K mg base) : ∃ fd, FunD K "choose" "Chooser.choose" (defArgs s_Chooser_choose) (defBody s_Chooser_choose) (defScope s_Chooser_choose) [] [] (He.ma K (He.ga K "Chooser") "choose") fd ∧ FnOk P w K mg base CX0 (4) (He.ma K (He.ga K "Chooser") "choose") fd ["self", "allowed"] (Mi.spF K f_Chooser_choose) := by
  rw [f_Chooser_choose_eq]
  obtain ⟨fd, F⟩ := fd_Chooser_choose T
  refine ⟨fd, F, Mi.okC (p := ("Chooser", some "choose")) F sc_Chooser_choose (Mi.spF_len rfl) (fun A outer s0 H vs Q E hr h => ?_)⟩
  have hu := hu_of hr
  exact ⟨_, (pss_cons (ps_if (pt_cmpR op_eq (pe_fldK K (pv 0) rfl) pe_str (nomark _)) (pss_one (ps_ret (pe_methN (ok_Chooser_turn_pointer (P := P) (w := w) (base := base) T) (pv 0) hr (pa_cons (pv 1) pa_nil)))) pss_nil)
      (pss_cons (ps_set (i := 2) sc_Chooser_choose.nd rfl (Or.inr rfl) (pe_ifExp (pt_cmpR op_eq (pe_fldK K (pv 0) rfl) pe_str (nomark _)) (pe_fldK K (pv 0) rfl) (pe_fldK K (pv 0) rfl)))
      (pss_cons (ps_if (pt_cmpR op_eq (pe_fldK K (pv 0) rfl) pe_str (nomark _)) (pss_one (ps_ret (KeyL.pe_keyMax (T := Mi.tabsK K tabs0) (P := (He.cT K ("Chooser", some "choose")).2) (c := (He.cT K ("Chooser", some "choose")).1) (j := 2) (k := 0) K rfl (T.at 0 rfl) rfl (Mi.tabs_at 0 rfl) (T.hu 0 rfl) (hr.mono (by decide)) (NdefX.nscope_by (by decide +kernel)) (show NdefX.ndefB (defScope s_Chooser_choose) _ _ = true by decide +kernel) rfl rfl (fun _ _ _ _ _ _ => rfl) (fr_max T) (pv 1) (Or.inl rfl) (Or.inr (Or.inr rfl)) (by decide) (by decide) (by decide) (by decide)))) pss_nil)
      (pss_one (ps_ret (KeyL.pe_keyMin (T := Mi.tabsK K tabs0) (P := (He.cT K ("Chooser", some "choose")).2) (c := (He.cT K ("Chooser", some "choose")).1) (j := 2) (k := 0) K rfl (T.at 0 rfl) rfl (Mi.tabs_at 0 rfl) (T.hu 0 rfl) (hr.mono (by decide)) (NdefX.nscope_by (by decide +kernel)) (show NdefX.ndefB (defScope s_Chooser_choose) _ _ = true by decide +kernel) rfl rfl (fun _ _ _ _ _ _ => rfl) (fr_min T) (pv 1) (Or.inl rfl) (Or.inr (Or.inr rfl)) (by decide) (by decide) (by decide) (by decide))))))),
    Mi.body_of (K := K) (E := E) (m := 2) (k := 1) (N := ["self", "allowed", "ages"]) rfl h (imp_seq (imp_ifS (imp_test (imp_op opi_eqS (imp_fld (cls_Chooser T) (na_Chooser_kind T) imp_var) imp_str)) (imp_ret (imp_meth imp_var (imp_cons imp_var imp_nil))) imp_next) (imp_seq (imp_asg (imp_if (imp_test (imp_op opi_eqS (imp_fld (cls_Chooser T) (na_Chooser_kind T) imp_var) imp_str)) (imp_fld (cls_Chooser T) (na_Chooser_used_at T) imp_var) (imp_fld (cls_Chooser T) (na_Chooser_filled_at T) imp_var)) impg_name) (imp_seq (imp_ifS (imp_test (imp_op opi_eqS (imp_fld (cls_Chooser T) (na_Chooser_kind T) imp_var) imp_str)) (imp_ret (imp_key imp_var)) imp_next) (imp_ret (imp_key imp_var)))))⟩
theorem ok_Chooser_choose (T : TX K mg base) : MethOk P w K mg base CX0 (4) (He.ga K "Chooser") "choose" ["self", "allowed"] [] (Mi.spF K f_Chooser_choose) := by
  obtain ⟨fd, F, h⟩ := fn_Chooser_choose (P := P) (w := w) (base := base) T
  exact MethOk.of F (cls_Chooser T) (meth_Chooser_choose T) (F.bindsN fun _ _ _ _ _ _ us hl => match us, hl with | [_, _], _ => rfl) h
end

section
open Mi
variable {P : Program} {w : World} {K : PySem.W.Frag} {mg : Str → Option Value} {base : Heap}
theorem sc_l_chooser_new : FnScope ["_law_kind", "_law_many", "_law_k"] ["_law_kind", "_law_many"] (defScope s_l_chooser_new) := ⟨rfl, rfl, rfl, by decide +kernel, rfl, by decide +kernel, by decide +kernel⟩
noncomputable def f_l_chooser_new_c1 : Mi.Env → Mi.Sto → Mi.R Mi.D := (xLc (iR1 (xCons (xVar 1) xNil)) (gNameX 2) xYes (xC (.bl false)) [2])
noncomputable def f_l_chooser_new_c2 : Mi.Env → Mi.Sto → Mi.R Mi.D := (xLc (iR1 (xCons (xVar 1) xNil)) (gNameX 2) xYes (xC (.int 0)) [2])
noncomputable def f_l_chooser_new_c3 : Mi.Env → Mi.Sto → Mi.R Mi.D := (xLc (iR1 (xCons (xVar 1) xNil)) (gNameX 2) xYes (xC (.int 0)) [2])
noncomputable def f_l_chooser_new_c4 : Mi.Env → Mi.Sto → Mi.R Mi.D := (xLc (iR1 (xCons (xVar 1) xNil)) (gNameX 2) xYes (xC (.int 0)) [2])
@[irreducible] noncomputable def f_l_chooser_new : List Mi.D → Mi.Sto → Mi.R Mi.D := Mi.defX 2 1 (xRet (xDisp (xPCons (xC (.str "kind")) (xVar 0) (xPCons (xC (.str "time")) (xC (.int 0)) (xPCons (xC (.str "under")) (xC (.int 0)) (xPCons (xC (.str "filled")) f_l_chooser_new_c4 (xPCons (xC (.str "used")) f_l_chooser_new_c3 (xPCons (xC (.str "bits")) f_l_chooser_new_c2 (xPCons (xC (.str "full")) f_l_chooser_new_c1 xPNil)))))))))
theorem f_l_chooser_new_eq : f_l_chooser_new = Mi.defX 2 1 (xRet (xDisp (xPCons (xC (.str "kind")) (xVar 0) (xPCons (xC (.str "time")) (xC (.int 0)) (xPCons (xC (.str "under")) (xC (.int 0)) (xPCons (xC (.str "filled")) f_l_chooser_new_c4 (xPCons (xC (.str "used")) f_l_chooser_new_c3 (xPCons (xC (.str "bits")) f_l_chooser_new_c2 (xPCons (xC (.str "full")) f_l_chooser_new_c1 xPNil))))))))) := by with_unfolding_all rfl
theorem fn_l_chooser_new (T : TX K mg base) : ∃ fd, FunD K "_law_chooser_new" "_law_chooser_new" (defArgs s_l_chooser_new) (defBody s_l_chooser_new) (defScope s_l_chooser_new) [] [] (He.ga K "_law_chooser_new") fd ∧ FnOk P w K mg base CX0 (1) (He.ga K "_law_chooser_new") fd ["_law_kind", "_law_many"] (Mi.spF K f_l_chooser_new) := by
  rw [f_l_chooser_new_eq]
  obtain ⟨fd, F⟩ := fd_l_chooser_new T
  refine ⟨fd, F, My.FunD.ok0 F sc_l_chooser_new (Mi.spF_len rfl) (fun cdv A outer s0 H vs Q E hr h => ?_)⟩
  have hu := hu_of hr
  exact ⟨_, (pss_one (ps_ret (pe_disp (pps_cons pe_str (pv 0) (pps_cons pe_str pe_int (pps_cons pe_str pe_int (pps_cons pe_str (pe_lc (own := [("_law_k", 2)]) rfl sc_l_chooser_new.nd (pi_range1 rfl (fr_range T) (pa_cons (pv 1) pa_nil)) (blkOk_by (own := [("_law_k", 2)]) (N := ["_law_kind", "_law_many", "_law_k"]) (sc := defScope s_l_chooser_new) (by decide +kernel)) (fun _ _ _ _ _ => (pg_name (i := 2) sc_l_chooser_new.nd rfl (Or.inl rfl))) (fun _ _ _ _ _ => pts_nil) (fun _ _ _ _ _ => pe_int)) (pps_cons pe_str (pe_lc (own := [("_law_k", 2)]) rfl sc_l_chooser_new.nd (pi_range1 rfl (fr_range T) (pa_cons (pv 1) pa_nil)) (blkOk_by (own := [("_law_k", 2)]) (N := ["_law_kind", "_law_many", "_law_k"]) (sc := defScope s_l_chooser_new) (by decide +kernel)) (fun _ _ _ _ _ => (pg_name (i := 2) sc_l_chooser_new.nd rfl (Or.inl rfl))) (fun _ _ _ _ _ => pts_nil) (fun _ _ _ _ _ => pe_int)) (pps_cons pe_str (pe_lc (own := [("_law_k", 2)]) rfl sc_l_chooser_new.nd (pi_range1 rfl (fr_range T) (pa_cons (pv 1) pa_nil)) (blkOk_by (own := [("_law_k", 2)]) (N := ["_law_kind", "_law_many", "_law_k"]) (sc := defScope s_l_chooser_new) (by decide +kernel)) (fun _ _ _ _ _ => (pg_name (i := 2) sc_l_chooser_new.nd rfl (Or.inl rfl))) (fun _ _ _ _ _ => pts_nil) (fun _ _ _ _ _ => pe_int)) (pps_cons pe_str (pe_lc (own := [("_law_k", 2)]) rfl sc_l_chooser_new.nd (pi_range1 rfl (fr_range T) (pa_cons (pv 1) pa_nil)) (blkOk_by (own := [("_law_k", 2)]) (N := ["_law_kind", "_law_many", "_law_k"]) (sc := defScope s_l_chooser_new) (by decide +kernel)) (fun _ _ _ _ _ => (pg_name (i := 2) sc_l_chooser_new.nd rfl (Or.inl rfl))) (fun _ _ _ _ _ => pts_nil) (fun _ _ _ _ _ => pe_bl)) pps_nil))))))) (by rfl) (by rfl) (fun z => by cases z) (by decide)))),
    Mi.body_of (K := K) (E := E) (m := 2) (k := 1) (N := ["_law_kind", "_law_many", "_law_k"]) rfl h (imp_ret (imp_disp (impp_cons imp_str imp_var (impp_cons imp_str imp_int (impp_cons imp_str imp_int (impp_cons imp_str (imp_lc (imp_iR1 (imp_cons imp_var imp_nil)) (impg_name) imp_yes imp_int (by decide)) (impp_cons imp_str (imp_lc (imp_iR1 (imp_cons imp_var imp_nil)) (impg_name) imp_yes imp_int (by decide)) (impp_cons imp_str (imp_lc (imp_iR1 (imp_cons imp_var imp_nil)) (impg_name) imp_yes imp_int (by decide)) (impp_cons imp_str (imp_lc (imp_iR1 (imp_cons imp_var imp_nil)) (impg_name) imp_yes imp_bl (by decide)) impp_nil)))))))))⟩
theorem ok_l_chooser_new (T : TX K mg base) : DefOk P w K mg base (1) "_law_chooser_new" ["_law_kind", "_law_many"] [] (Mi.spF K f_l_chooser_new) := by
  obtain ⟨fd, F, h⟩ := fn_l_chooser_new (P := P) (w := w) (base := base) T
  exact DefOk.of F (gl_l_chooser_new T) (F.bindsN fun _ _ _ _ _ _ us hl => match us, hl with | [_, _], _ => rfl) h
theorem sc_l_chooser_tell : FnScope ["_law_plain", "_law_what", "_law_frame"] ["_law_plain", "_law_what", "_law_frame"] (defScope s_l_chooser_tell) := ⟨rfl, rfl, rfl, by decide +kernel, rfl, by decide +kernel, by decide +kernel⟩
@[irreducible] noncomputable def f_l_chooser_tell : List Mi.D → Mi.Sto → Mi.R Mi.D := Mi.defX 3 0 (xSeq (xDPut (xVar 0) (xC (.str "time")) (xOp (oI fun i j => .int (i + j)) (xDGet (xVar 0) (xC (.str "time"))) (xC (.int 1))))
      (xSeq (xAsg (xOp oNeS (xVar 1) (xC (.str "emptied"))) (gSubX (xDGet (xVar 0) (xC (.str "full"))) (xVar 2)))
      (xSeq (xAsg (xCB bInt (xCons (xOp oNeS (xVar 1) (xC (.str "emptied"))) xNil)) (gSubX (xDGet (xVar 0) (xC (.str "bits"))) (xVar 2)))
      (xSeq (xIfS (xB (xOp oNeS (xVar 1) (xC (.str "emptied")))) (xAsg (xDGet (xVar 0) (xC (.str "time"))) (gSubX (xDGet (xVar 0) (xC (.str "used"))) (xVar 2))) xNext)
      (xIfS (xB (xOp oEqS (xVar 1) (xC (.str "filled")))) (xAsg (xDGet (xVar 0) (xC (.str "time"))) (gSubX (xDGet (xVar 0) (xC (.str "filled"))) (xVar 2))) xNext)))))
theorem f_l_chooser_tell_eq : f_l_chooser_tell = Mi.defX 3 0 (xSeq (xDPut (xVar 0) (xC (.str "time")) (xOp (oI fun i j => .int (i + j)) (xDGet (xVar 0) (xC (.str "time"))) (xC (.int 1))))
      (xSeq (xAsg (xOp oNeS (xVar 1) (xC (.str "emptied"))) (gSubX (xDGet (xVar 0) (xC (.str "full"))) (xVar 2)))
      (xSeq (xAsg (xCB bInt (xCons (xOp oNeS (xVar 1) (xC (.str "emptied"))) xNil)) (gSubX (xDGet (xVar 0) (xC (.str "bits"))) (xVar 2)))
      (xSeq (xIfS (xB (xOp oNeS (xVar 1) (xC (.str "emptied")))) (xAsg (xDGet (xVar 0) (xC (.str "time"))) (gSubX (xDGet (xVar 0) (xC (.str "used"))) (xVar 2))) xNext)
      (xIfS (xB (xOp oEqS (xVar 1) (xC (.str "filled")))) (xAsg (xDGet (xVar 0) (xC (.str "time"))) (gSubX (xDGet (xVar 0) (xC (.str "filled"))) (xVar 2))) xNext))))) := by with_unfolding_all rfl
theorem fn_l_chooser_tell (T : TX K mg base) : ∃ fd, FunD K "_law_chooser_tell" "_law_chooser_tell" (defArgs s_l_chooser_tell) (defBody s_l_chooser_tell) (defScope s_l_chooser_tell) [] [] (He.ga K "_law_chooser_tell") fd ∧ FnOk P w K mg base CX0 (1) (He.ga K "_law_chooser_tell") fd ["_law_plain", "_law_what", "_law_frame"] (Mi.spF K f_l_chooser_tell) := by
  rw [f_l_chooser_tell_eq]
  obtain ⟨fd, F⟩ := fd_l_chooser_tell T
  refine ⟨fd, F, My.FunD.ok0 F sc_l_chooser_tell (Mi.spF_len rfl) (fun cdv A outer s0 H vs Q E hr h => ?_)⟩
  have hu := hu_of hr
  exact ⟨_, (pss_cons (ps_dput hu (pv 0) pe_str (pe_op op_add (pe_dget hu (pv 0) pe_str (fun _ _ => rfl)) pe_int) rfl)
      (pss_cons (ps_asg (pe_cmpR op_ne (pv 1) pe_str (nomark _)) (pg_sub (pe_dget hu (pv 0) pe_str (fun _ _ => rfl)) (pv 2) set_list))
      (pss_cons (ps_asg (pe_callTy call_int1 (by rfl) (fr_int T) (by decide +kernel) (pa_cons (pe_cmpR op_ne (pv 1) pe_str (nomark _)) pa_nil)) (pg_sub (pe_dget hu (pv 0) pe_str (fun _ _ => rfl)) (pv 2) set_list))
      (pss_cons (ps_if (pt_cmpR op_ne (pv 1) pe_str (nomark _)) (pss_one (ps_asg (pe_dget hu (pv 0) pe_str (fun _ _ => rfl)) (pg_sub (pe_dget hu (pv 0) pe_str (fun _ _ => rfl)) (pv 2) set_list))) pss_nil)
      (pss_one (ps_if (pt_cmpR op_eq (pv 1) pe_str (nomark _)) (pss_one (ps_asg (pe_dget hu (pv 0) pe_str (fun _ _ => rfl)) (pg_sub (pe_dget hu (pv 0) pe_str (fun _ _ => rfl)) (pv 2) set_list))) pss_nil)))))),
    Mi.body_of (K := K) (E := E) (m := 3) (k := 0) (N := ["_law_plain", "_law_what", "_law_frame"]) rfl h (imp_seq (imp_dput imp_var imp_str (imp_op opi_add (imp_dget imp_var imp_str) imp_int)) (imp_seq (imp_asg (imp_op opi_neS imp_var imp_str) (impg_sub (imp_dget imp_var imp_str) imp_var)) (imp_seq (imp_asg (imp_cb cbi_int (imp_cons (imp_op opi_neS imp_var imp_str) imp_nil)) (impg_sub (imp_dget imp_var imp_str) imp_var)) (imp_seq (imp_ifS (imp_test (imp_op opi_neS imp_var imp_str)) (imp_asg (imp_dget imp_var imp_str) (impg_sub (imp_dget imp_var imp_str) imp_var)) imp_next) (imp_ifS (imp_test (imp_op opi_eqS imp_var imp_str)) (imp_asg (imp_dget imp_var imp_str) (impg_sub (imp_dget imp_var imp_str) imp_var)) imp_next)))))⟩
theorem ok_l_chooser_tell (T : TX K mg base) : DefOk P w K mg base (1) "_law_chooser_tell" ["_law_plain", "_law_what", "_law_frame"] [] (Mi.spF K f_l_chooser_tell) := by
  obtain ⟨fd, F, h⟩ := fn_l_chooser_tell (P := P) (w := w) (base := base) T
  exact DefOk.of F (gl_l_chooser_tell T) (F.bindsN fun _ _ _ _ _ _ us hl => match us, hl with | [_, _, _], _ => rfl) h
theorem sc_l_chooser_pick : FnScope ["_law_plain", "_law_allowed", "_law_step", "_law_frame", "_law_ages", "_law_best"] ["_law_plain", "_law_allowed"] (defScope s_l_chooser_pick) := ⟨rfl, rfl, rfl, by decide +kernel, rfl, by decide +kernel, by decide +kernel⟩
noncomputable def f_l_chooser_pick_t1 : Mi.Env → Mi.Sto → Mi.R Bool := (xAnd (xB (xOp (oIn false) (xVar 3) (xVar 1))) (xB (xOp oEqS (xOp oIxL (xDGet (xVar 0) (xC (.str "bits"))) (xVar 3)) (xC (.int 0)))))
noncomputable def f_l_chooser_pick_b1 : Mi.Env → Mi.Sto → Mi.RS := (xSeq (xAsg (xDGet (xVar 0) (xC (.str "under"))) (gNameX 3))
      (xSeq (xDPut (xVar 0) (xC (.str "under")) (xOp (oIC (fun _ j => 0 < j) fun i j => .int (i % j)) (xCB bInt (xCons (xOp (oI fun i j => .int (i + j)) (xVar 3) (xC (.int 1))) xNil)) (xCB bLen (xCons (xDGet (xVar 0) (xC (.str "bits"))) xNil))))
      (xSeq (xIfS f_l_chooser_pick_t1 (xRet (xVar 3)) xNext)
      (xIfS (xB (xOp (oIn false) (xVar 3) (xVar 1))) (xAsg (xC (.int 0)) (gSubX (xDGet (xVar 0) (xC (.str "bits"))) (xVar 3))) xNext))))
noncomputable def f_l_chooser_pick_l1 : Mi.Env → Mi.Sto → Mi.RS := (xFor (iR1 (xCons (xOp (oIC CMul fun i j => .int (i * j)) (xC (.int 2)) (xCB bLen (xCons (xDGet (xVar 0) (xC (.str "bits"))) xNil))) xNil)) (gNameX 2) f_l_chooser_pick_b1)
noncomputable def f_l_chooser_pick_t2 : Mi.Env → Mi.Sto → Mi.R Bool := (xAnd (xB (xOp oEqS (xDGet (xVar 0) (xC (.str "kind"))) (xC (.str "newest")))) (xB (xOp (oI fun i j => .bl (decide (j < i))) (xOp oIxL (xVar 4) (xVar 3)) (xOp oIxL (xVar 4) (xVar 5)))))
noncomputable def f_l_chooser_pick_t3 : Mi.Env → Mi.Sto → Mi.R Bool := (xAnd (xB (xOp oNeS (xDGet (xVar 0) (xC (.str "kind"))) (xC (.str "newest")))) (xB (xOp (oI fun i j => .bl (decide (i < j))) (xOp oIxL (xVar 4) (xVar 3)) (xOp oIxL (xVar 4) (xVar 5)))))
noncomputable def f_l_chooser_pick_b2 : Mi.Env → Mi.Sto → Mi.RS := (xSeq (xIfS f_l_chooser_pick_t2 (xAsg (xVar 3) (gNameX 5)) xNext)
      (xIfS f_l_chooser_pick_t3 (xAsg (xVar 3) (gNameX 5)) xNext))
noncomputable def f_l_chooser_pick_l2 : Mi.Env → Mi.Sto → Mi.RS := (xFor (iL (xVar 1)) (gNameX 3) f_l_chooser_pick_b2)
@[irreducible] noncomputable def f_l_chooser_pick : List Mi.D → Mi.Sto → Mi.R Mi.D := Mi.defX 2 4 (xSeq (xIfS (xB (xOp oEqS (xDGet (xVar 0) (xC (.str "kind"))) (xC (.str "clock")))) f_l_chooser_pick_l1 xNext)
      (xSeq (xAsg (xDGet (xVar 0) (xC (.str "filled"))) (gNameX 4))
      (xSeq (xIfS (xB (xOp oEqS (xDGet (xVar 0) (xC (.str "kind"))) (xC (.str "lru")))) (xAsg (xDGet (xVar 0) (xC (.str "used"))) (gNameX 4)) xNext)
      (xSeq (xAsg (xOp oIxL (xVar 1) (xC (.int 0))) (gNameX 5))
      (xSeq f_l_chooser_pick_l2
      (xRet (xVar 5)))))))
theorem f_l_chooser_pick_eq : f_l_chooser_pick = Mi.defX 2 4 (xSeq (xIfS (xB (xOp oEqS (xDGet (xVar 0) (xC (.str "kind"))) (xC (.str "clock")))) f_l_chooser_pick_l1 xNext)
      (xSeq (xAsg (xDGet (xVar 0) (xC (.str "filled"))) (gNameX 4))
      (xSeq (xIfS (xB (xOp oEqS (xDGet (xVar 0) (xC (.str "kind"))) (xC (.str "lru")))) (xAsg (xDGet (xVar 0) (xC (.str "used"))) (gNameX 4)) xNext)
      (xSeq (xAsg (xOp oIxL (xVar 1) (xC (.int 0))) (gNameX 5))
      (xSeq f_l_chooser_pick_l2
      (xRet (xVar 5))))))) := by with_unfolding_all rfl
theorem fn_l_chooser_pick (T : TX K mg base) : ∃ fd, FunD K "_law_chooser_pick" "_law_chooser_pick" (defArgs s_l_chooser_pick) (defBody s_l_chooser_pick) (defScope s_l_chooser_pick) [] [] (He.ga K "_law_chooser_pick") fd ∧ FnOk P w K mg base CX0 (1) (He.ga K "_law_chooser_pick") fd ["_law_plain", "_law_allowed"] (Mi.spF K f_l_chooser_pick) := by
  rw [f_l_chooser_pick_eq]
  obtain ⟨fd, F⟩ := fd_l_chooser_pick T
  refine ⟨fd, F, My.FunD.ok0 F sc_l_chooser_pick (Mi.spF_len rfl) (fun cdv A outer s0 H vs Q E hr h => ?_)⟩
  have hu := hu_of hr
  exact ⟨_, (pss_cons (ps_if (pt_cmpR op_eq (pe_dget hu (pv 0) pe_str (fun _ _ => rfl)) pe_str (nomark _)) (pss_one (ps_for PassesOwn.never rfl (pi_range1 rfl (fr_range T) (pa_cons (pe_op op_mul pe_int (pe_callB (lenQ K) (by rfl) (fr_len T) PySem.boot_len (pa_cons (pe_dget hu (pv 0) pe_str (fun _ _ => rfl)) pa_nil))) pa_nil)) (pg_name (i := 2) sc_l_chooser_pick.nd rfl (Or.inl rfl)) (pss_cons (ps_set (i := 3) sc_l_chooser_pick.nd rfl (Or.inl rfl) (pe_dget hu (pv 0) pe_str (fun _ _ => rfl)))
      (pss_cons (ps_dput hu (pv 0) pe_str (pe_op op_mod (pe_callTy call_int1 (by rfl) (fr_int T) (by decide +kernel) (pa_cons (pe_op op_add (pv 3) pe_int) pa_nil)) (pe_callB (lenQ K) (by rfl) (fr_len T) PySem.boot_len (pa_cons (pe_dget hu (pv 0) pe_str (fun _ _ => rfl)) pa_nil))) rfl)
      (pss_cons (ps_if (PW.pt (pw_and (pt_cmpR (inQ K) (pv 3) (pv 1) rfl) (pw_and1 (pt_cmpR op_eq (pe_ix (ixL K) (pe_dget hu (pv 0) pe_str (fun _ _ => rfl)) (pv 3) (fun _ _ => rfl)) pe_int (nomark _))))) (pss_one (ps_ret (pv 3))) pss_nil)
      (pss_one (ps_if (pt_cmpR (inQ K) (pv 3) (pv 1) rfl) (pss_one (ps_asg pe_int (pg_sub (pe_dget hu (pv 0) pe_str (fun _ _ => rfl)) (pv 3) set_list))) pss_nil))))))) pss_nil)
      (pss_cons (ps_set (i := 4) sc_l_chooser_pick.nd rfl (Or.inl rfl) (pe_dget hu (pv 0) pe_str (fun _ _ => rfl)))
      (pss_cons (ps_if (pt_cmpR op_eq (pe_dget hu (pv 0) pe_str (fun _ _ => rfl)) pe_str (nomark _)) (pss_one (ps_set (i := 4) sc_l_chooser_pick.nd rfl (Or.inl rfl) (pe_dget hu (pv 0) pe_str (fun _ _ => rfl)))) pss_nil)
      (pss_cons (ps_set (i := 5) sc_l_chooser_pick.nd rfl (Or.inl rfl) (pe_ix (ixL K) (pv 1) pe_int (fun _ _ => rfl)))
      (pss_cons (ps_for PassesOwn.never rfl (pi_list (pv 1)) (pg_name (i := 3) sc_l_chooser_pick.nd rfl (Or.inl rfl)) (pss_cons (ps_if (PW.pt (pw_and (pt_cmpR op_eq (pe_dget hu (pv 0) pe_str (fun _ _ => rfl)) pe_str (nomark _)) (pw_and1 (pt_cmpR op_gt (pe_ix (ixL K) (pv 4) (pv 3) (fun _ _ => rfl)) (pe_ix (ixL K) (pv 4) (pv 5) (fun _ _ => rfl)) (nomark _))))) (pss_one (ps_set (i := 5) sc_l_chooser_pick.nd rfl (Or.inl rfl) (pv 3))) pss_nil)
      (pss_one (ps_if (PW.pt (pw_and (pt_cmpR op_ne (pe_dget hu (pv 0) pe_str (fun _ _ => rfl)) pe_str (nomark _)) (pw_and1 (pt_cmpR op_lt (pe_ix (ixL K) (pv 4) (pv 3) (fun _ _ => rfl)) (pe_ix (ixL K) (pv 4) (pv 5) (fun _ _ => rfl)) (nomark _))))) (pss_one (ps_set (i := 5) sc_l_chooser_pick.nd rfl (Or.inl rfl) (pv 3))) pss_nil))))
      (pss_one (ps_ret (pv 5)))))))),
    Mi.body_of (K := K) (E := E) (m := 2) (k := 4) (N := ["_law_plain", "_law_allowed", "_law_step", "_law_frame", "_law_ages", "_law_best"]) rfl h (imp_seq (imp_ifS (imp_test (imp_op opi_eqS (imp_dget imp_var imp_str) imp_str)) (imp_for (imp_iR1 (imp_cons (imp_op opi_mul imp_int (imp_cb cbi_len (imp_cons (imp_dget imp_var imp_str) imp_nil))) imp_nil)) (impg_name) (imp_seq (imp_asg (imp_dget imp_var imp_str) impg_name) (imp_seq (imp_dput imp_var imp_str (imp_op opi_mod (imp_cb cbi_int (imp_cons (imp_op opi_add imp_var imp_int) imp_nil)) (imp_cb cbi_len (imp_cons (imp_dget imp_var imp_str) imp_nil)))) (imp_seq (imp_ifS (imp_and (imp_test (imp_op opi_in imp_var imp_var)) (imp_test (imp_op opi_eqS (imp_op opi_ixL (imp_dget imp_var imp_str) imp_var) imp_int))) (imp_ret imp_var) imp_next) (imp_ifS (imp_test (imp_op opi_in imp_var imp_var)) (imp_asg imp_int (impg_sub (imp_dget imp_var imp_str) imp_var)) imp_next))))) imp_next) (imp_seq (imp_asg (imp_dget imp_var imp_str) impg_name) (imp_seq (imp_ifS (imp_test (imp_op opi_eqS (imp_dget imp_var imp_str) imp_str)) (imp_asg (imp_dget imp_var imp_str) impg_name) imp_next) (imp_seq (imp_asg (imp_op opi_ixL imp_var imp_int) impg_name) (imp_seq (imp_for (imp_iL imp_var) (impg_name) (imp_seq (imp_ifS (imp_and (imp_test (imp_op opi_eqS (imp_dget imp_var imp_str) imp_str)) (imp_test (imp_op opi_gt (imp_op opi_ixL imp_var imp_var) (imp_op opi_ixL imp_var imp_var)))) (imp_asg imp_var impg_name) imp_next) (imp_ifS (imp_and (imp_test (imp_op opi_neS (imp_dget imp_var imp_str) imp_str)) (imp_test (imp_op opi_lt (imp_op opi_ixL imp_var imp_var) (imp_op opi_ixL imp_var imp_var)))) (imp_asg imp_var impg_name) imp_next))) (imp_ret imp_var))))))⟩
theorem ok_l_chooser_pick (T : TX K mg base) : DefOk P w K mg base (1) "_law_chooser_pick" ["_law_plain", "_law_allowed"] [] (Mi.spF K f_l_chooser_pick) := by
  obtain ⟨fd, F, h⟩ := fn_l_chooser_pick (P := P) (w := w) (base := base) T
  exact DefOk.of F (gl_l_chooser_pick T) (F.bindsN fun _ _ _ _ _ _ us hl => match us, hl with | [_, _], _ => rfl) h
end

section
open Mi
variable {P : Program} {w : World} {K : PySem.W.Frag} {mg : Str → Option Value} {base : Heap}
theorem sc_page_ins : FnScope ["trace", "frames", "kind", "chooser", "pages", "_", "positions", "position", "page", "frame"] ["trace", "frames", "kind"] (defScope s_page_ins) := ⟨rfl, rfl, rfl, by decide +kernel, rfl, by decide +kernel, by decide +kernel⟩
noncomputable def f_page_ins_c1 : Mi.Env → Mi.Sto → Mi.R Mi.D := (xLc (iR1 (xCons (xVar 1) xNil)) (gNameX 5) xYes (xC .non) [5])
noncomputable def f_page_ins_b1 : Mi.Env → Mi.Sto → Mi.RS := (xSeq (xIfS (xB (xOp (oIn false) (xVar 8) (xVar 4))) (xSeq (xDrop (xMeth "Chooser" "touched" f_Chooser_touched (xVar 3) (xCons (xBM mIndex (xVar 4) (xCons (xVar 8) xNil)) xNil)))
      xCont) xNext)
      (xSeq (xIfS (xB (xOp (oIn false) (xC .non) (xVar 4))) (xAsg (xBM mIndex (xVar 4) (xCons (xC .non) xNil)) (gNameX 9)) (xSeq (xAsg (xMeth "Chooser" "choose" f_Chooser_choose (xVar 3) (xCons (xLRg1 (xVar 1)) xNil)) (gNameX 9))
      (xDrop (xMeth "Chooser" "emptied" f_Chooser_emptied (xVar 3) (xCons (xVar 9) xNil)))))
      (xSeq (xAsg (xVar 8) (gSubX (xVar 4) (xVar 9)))
      (xSeq (xDrop (xMeth "Chooser" "filled" f_Chooser_filled (xVar 3) (xCons (xVar 9) xNil)))
      (xDrop (xBM (mL gAppend) (xVar 6) (xCons (xVar 7) xNil)))))))
noncomputable def f_page_ins_l1 : Mi.Env → Mi.Sto → Mi.RS := (xFor (iE (xCons (xVar 0) xNil)) (gTupX 2 (gConsX (gNameX 7) (gConsX (gNameX 8) gNilX))) f_page_ins_b1)
@[irreducible] noncomputable def f_page_ins : List Mi.D → Mi.Sto → Mi.R Mi.D := Mi.defX 3 7 (xSeq (xAsg (xMake "Chooser" f_Chooser___init__ (xCons (xVar 2) (xCons (xVar 1) xNil))) (gNameX 3))
      (xSeq (xAsg f_page_ins_c1 (gNameX 4))
      (xSeq (xAsg (xLst xNil) (gNameX 6))
      (xSeq f_page_ins_l1
      (xRet (xVar 6))))))
theorem f_page_ins_eq : f_page_ins = Mi.defX 3 7 (xSeq (xAsg (xMake "Chooser" f_Chooser___init__ (xCons (xVar 2) (xCons (xVar 1) xNil))) (gNameX 3))
      (xSeq (xAsg f_page_ins_c1 (gNameX 4))
      (xSeq (xAsg (xLst xNil) (gNameX 6))
      (xSeq f_page_ins_l1
      (xRet (xVar 6)))))) := by with_unfolding_all rfl
theorem fn_page_ins (T : TX K mg base) : ∃ fd, FunD K "page_ins" "page_ins" (defArgs s_page_ins) (defBody s_page_ins) (defScope s_page_ins) [] [] (He.ga K "page_ins") fd ∧ FnOk P w K mg base CX0 (6) (He.ga K "page_ins") fd ["trace", "frames", "kind"] (Mi.spF K f_page_ins) := by
  rw [f_page_ins_eq]
  obtain ⟨fd, F⟩ := fd_page_ins T
  refine ⟨fd, F, My.FunD.ok0 F sc_page_ins (Mi.spF_len rfl) (fun cdv A outer s0 H vs Q E hr h => ?_)⟩
  have hu := hu_of hr
  exact ⟨_, (pss_cons (ps_set (i := 3) sc_page_ins.nd rfl (Or.inl rfl) (pe_makeN (mk_Chooser (P := P) (w := w) (base := base) T) hr (pa_cons (pv 2) (pa_cons (pv 1) pa_nil))))
      (pss_cons (ps_setLc (i := 4) (own := [("_", 5)]) rfl sc_page_ins.nd rfl rfl (sw_true rfl rfl rfl (by decide +kernel)) (pi_range1 rfl (fr_range T) (pa_cons (pv 1) pa_nil)) (blkOk_by (own := [("_", 5)]) (N := ["trace", "frames", "kind", "chooser", "pages", "_", "positions", "position", "page", "frame"]) (sc := defScope s_page_ins) (by decide +kernel)) (fun _ _ _ _ _ => (pg_name (i := 5) sc_page_ins.nd rfl (Or.inl rfl))) (fun _ _ _ _ _ => pts_nil) (fun _ _ _ _ _ => pe_non))
      (pss_cons (ps_set (i := 6) sc_page_ins.nd rfl (Or.inl rfl) (pe_lst pa_nil))
      (pss_cons (ps_for PassesOwn.never rfl (pi_enum (by rfl) (fr_enumerate T) (pa_cons (pv 0) pa_nil)) (pg_tupK (n := 2) K rfl (pgs_cons (pg_name (i := 7) sc_page_ins.nd rfl (Or.inl rfl)) (pgs_cons (pg_name (i := 8) sc_page_ins.nd rfl (Or.inl rfl)) pgs_nil))) (pss_cons (ps_if (pt_cmpR (inQ K) (pv 8) (pv 4) rfl) (pss_cons (ps_expr (pe_methN (ok_Chooser_touched (P := P) (w := w) (base := base) T) (pv 3) hr (pa_cons (pe_bm PySem.F.plainAttrs_list PySem.F.slot_list_index PySem.F.type_list_index mt_index (pv 4) (pa_cons (pv 8) pa_nil)) pa_nil)))
      (pss_one ps_continue)) pss_nil)
      (pss_cons (ps_if (pt_cmpR (inQ K) pe_non (pv 4) rfl) (pss_one (ps_set (i := 9) sc_page_ins.nd rfl (Or.inl rfl) (pe_bm PySem.F.plainAttrs_list PySem.F.slot_list_index PySem.F.type_list_index mt_index (pv 4) (pa_cons pe_non pa_nil)))) (pss_cons (ps_set (i := 9) sc_page_ins.nd rfl (Or.inl rfl) (pe_methN (ok_Chooser_choose (P := P) (w := w) (base := base) T) (pv 3) hr (pa_cons (pe_listRg rfl (by rfl) (fr_list T) (prg_1 (by rfl) (fr_range T) (pv 1))) pa_nil)))
      (pss_one (ps_expr (pe_methN (ok_Chooser_emptied (P := P) (w := w) (base := base) T) (pv 3) hr (pa_cons (pv 9) pa_nil))))))
      (pss_cons (ps_asg (pv 8) (pg_sub (pv 4) (pv 9) set_list))
      (pss_cons (ps_expr (pe_methN (ok_Chooser_filled (P := P) (w := w) (base := base) T) (pv 3) hr (pa_cons (pv 9) pa_nil)))
      (pss_one (ps_expr (pe_bm PySem.F.plainAttrs_list PySem.F.slot_list_append PySem.F.type_list_append mt_append (pv 6) (pa_cons (pv 7) pa_nil)))))))))
      (pss_one (ps_ret (pv 6))))))),
    Mi.body_of (K := K) (E := E) (m := 3) (k := 7) (N := ["trace", "frames", "kind", "chooser", "pages", "_", "positions", "position", "page", "frame"]) rfl h (imp_seq (imp_asg (imp_make (imp_cons imp_var (imp_cons imp_var imp_nil))) impg_name) (imp_seq (imp_asg (imp_lc (imp_iR1 (imp_cons imp_var imp_nil)) (impg_name) imp_yes imp_non (by decide)) impg_name) (imp_seq (imp_asg (imp_lst imp_nil) impg_name) (imp_seq (imp_for (imp_iE (imp_cons imp_var imp_nil)) (impg_tup (impgs_cons (impg_name) (impgs_cons (impg_name) impgs_nil))) (imp_seq (imp_ifS (imp_test (imp_op opi_in imp_var imp_var)) (imp_seq (imp_drop (imp_meth imp_var (imp_cons (imp_bm mti_index imp_var (imp_cons imp_var imp_nil)) imp_nil))) imp_cont) imp_next) (imp_seq (imp_ifS (imp_test (imp_op opi_in imp_non imp_var)) (imp_asg (imp_bm mti_index imp_var (imp_cons imp_non imp_nil)) impg_name) (imp_seq (imp_asg (imp_meth imp_var (imp_cons (imp_lrg1 imp_var) imp_nil)) impg_name) (imp_drop (imp_meth imp_var (imp_cons imp_var imp_nil))))) (imp_seq (imp_asg imp_var (impg_sub imp_var imp_var)) (imp_seq (imp_drop (imp_meth imp_var (imp_cons imp_var imp_nil))) (imp_drop (imp_bm mti_append imp_var (imp_cons imp_var imp_nil)))))))) (imp_ret imp_var)))))⟩
theorem ok_page_ins (T : TX K mg base) : DefOk P w K mg base (6) "page_ins" ["trace", "frames", "kind"] [] (Mi.spF K f_page_ins) := by
  obtain ⟨fd, F, h⟩ := fn_page_ins (P := P) (w := w) (base := base) T
  exact DefOk.of F (gl_page_ins T) (F.bindsN fun _ _ _ _ _ _ us hl => match us, hl with | [_, _, _], _ => rfl) h
theorem sc_l_names : FnScope ["_law_script", "_law_most", "_law_many", "_law_turn", "_law_wide", "_law_low", "_law_k"] ["_law_script", "_law_most"] (defScope s_l_names) := ⟨rfl, rfl, rfl, by decide +kernel, rfl, by decide +kernel, by decide +kernel⟩
noncomputable def f_l_names_c1 : Mi.Env → Mi.Sto → Mi.R Mi.D := (xLc (iR1 (xCons (xVar 2) xNil)) (gNameX 6) xYes (xOp (oI fun i j => .int (i - j)) (xOp (oIC CMul fun i j => .int (i * j)) (xVar 4) (xOp (oIC (fun _ j => 0 < j) fun i j => .int (i % j)) (xCB bInt (xCons (xOp (oIC CMul fun i j => .int (i * j)) (xVar 3) (xOp (oI fun i j => .int (i + j)) (xVar 6) (xC (.int 1)))) xNil)) (xC (.int 11)))) (xVar 5)) [6])
@[irreducible] noncomputable def f_l_names : List Mi.D → Mi.Sto → Mi.R Mi.D := Mi.defX 2 5 (xSeq (xAsg (xOp (oI fun i j => .int (i + j)) (xC (.int 1)) (xCall fNumber (xCons (xVar 0) (xCons (xC (.int 0)) (xCons (xC (.int 7)) (xCons (xVar 1) xNil)))))) (gNameX 2))
      (xSeq (xAsg (xOp (oI fun i j => .int (i + j)) (xC (.int 1)) (xCall fNumber (xCons (xVar 0) (xCons (xC (.int 0)) (xCons (xC (.int 6)) (xCons (xC (.int 10)) xNil)))))) (gNameX 3))
      (xSeq (xAsg (xOp oIxL (xLst (xCons (xC (.int 1)) (xCons (xC (.int 7)) (xCons (xC (.int 1000003)) (xCons (xUn oNeg (xC (.int 5))) xNil))))) (xCall fNumber (xCons (xVar 0) (xCons (xC (.int 0)) (xCons (xC (.int 8)) (xCons (xC (.int 4)) xNil)))))) (gNameX 4))
      (xSeq (xAsg (xOp oIxL (xLst (xCons (xC (.int 0)) (xCons (xC (.int 4)) (xCons (xC (.int 1000000000)) xNil)))) (xCall fNumber (xCons (xVar 0) (xCons (xC (.int 0)) (xCons (xC (.int 9)) (xCons (xC (.int 3)) xNil)))))) (gNameX 5))
      (xRet f_l_names_c1)))))
theorem f_l_names_eq : f_l_names = Mi.defX 2 5 (xSeq (xAsg (xOp (oI fun i j => .int (i + j)) (xC (.int 1)) (xCall fNumber (xCons (xVar 0) (xCons (xC (.int 0)) (xCons (xC (.int 7)) (xCons (xVar 1) xNil)))))) (gNameX 2))
      (xSeq (xAsg (xOp (oI fun i j => .int (i + j)) (xC (.int 1)) (xCall fNumber (xCons (xVar 0) (xCons (xC (.int 0)) (xCons (xC (.int 6)) (xCons (xC (.int 10)) xNil)))))) (gNameX 3))
      (xSeq (xAsg (xOp oIxL (xLst (xCons (xC (.int 1)) (xCons (xC (.int 7)) (xCons (xC (.int 1000003)) (xCons (xUn oNeg (xC (.int 5))) xNil))))) (xCall fNumber (xCons (xVar 0) (xCons (xC (.int 0)) (xCons (xC (.int 8)) (xCons (xC (.int 4)) xNil)))))) (gNameX 4))
      (xSeq (xAsg (xOp oIxL (xLst (xCons (xC (.int 0)) (xCons (xC (.int 4)) (xCons (xC (.int 1000000000)) xNil)))) (xCall fNumber (xCons (xVar 0) (xCons (xC (.int 0)) (xCons (xC (.int 9)) (xCons (xC (.int 3)) xNil)))))) (gNameX 5))
      (xRet f_l_names_c1))))) := by with_unfolding_all rfl
theorem fn_l_names (T : TX K mg base) : ∃ fd, FunD K "_law_names" "_law_names" (defArgs s_l_names) (defBody s_l_names) (defScope s_l_names) [] [] (He.ga K "_law_names") fd ∧ FnOk P w K mg base CX0 (2) (He.ga K "_law_names") fd ["_law_script", "_law_most"] (Mi.spF K f_l_names) := by
  rw [f_l_names_eq]
  obtain ⟨fd, F⟩ := fd_l_names T
  refine ⟨fd, F, My.FunD.ok0 F sc_l_names (Mi.spF_len rfl) (fun cdv A outer s0 H vs Q E hr h => ?_)⟩
  have hu := hu_of hr
  exact ⟨_, (pss_cons (ps_set (i := 2) sc_l_names.nd rfl (Or.inl rfl) (pe_op op_add pe_int (pe_callN (okm_l_number (P := P) (w := w) (base := base) T) hr (pa_cons (pv 0) (pa_cons pe_int (pa_cons pe_int (pa_cons (pv 1) pa_nil)))))))
      (pss_cons (ps_set (i := 3) sc_l_names.nd rfl (Or.inr rfl) (pe_op op_add pe_int (pe_callN (okm_l_number (P := P) (w := w) (base := base) T) hr (pa_cons (pv 0) (pa_cons pe_int (pa_cons pe_int (pa_cons pe_int pa_nil)))))))
      (pss_cons (ps_set (i := 4) sc_l_names.nd rfl (Or.inr rfl) (pe_ix (ixL K) (pe_lst (pa_cons pe_int (pa_cons pe_int (pa_cons pe_int (pa_cons (pe_un un_neg pe_int) pa_nil))))) (pe_callN (okm_l_number (P := P) (w := w) (base := base) T) hr (pa_cons (pv 0) (pa_cons pe_int (pa_cons pe_int (pa_cons pe_int pa_nil))))) (fun _ _ => rfl)))
      (pss_cons (ps_set (i := 5) sc_l_names.nd rfl (Or.inr rfl) (pe_ix (ixL K) (pe_lst (pa_cons pe_int (pa_cons pe_int (pa_cons pe_int pa_nil)))) (pe_callN (okm_l_number (P := P) (w := w) (base := base) T) hr (pa_cons (pv 0) (pa_cons pe_int (pa_cons pe_int (pa_cons pe_int pa_nil))))) (fun _ _ => rfl)))
      (pss_one (ps_ret (pe_lc (own := [("_law_k", 6)]) rfl sc_l_names.nd (pi_range1 rfl (fr_range T) (pa_cons (pv 2) pa_nil)) (blkOk_by (own := [("_law_k", 6)]) (N := ["_law_script", "_law_most", "_law_many", "_law_turn", "_law_wide", "_law_low", "_law_k"]) (sc := defScope s_l_names) (by decide +kernel)) (fun _ _ _ _ _ => (pg_name (i := 6) sc_l_names.nd rfl (Or.inl rfl))) (fun _ _ _ _ _ => pts_nil) (fun _ _ _ _ _ => (pe_op op_sub (pe_op op_mul (pv 4) (pe_op op_mod (pe_callTy call_int1 (by rfl) (fr_int T) (by decide +kernel) (pa_cons (pe_op op_mul (pv 3) (pe_op op_add (pv 6) pe_int)) pa_nil)) pe_int)) (pv 5)))))))))),
    Mi.body_of (K := K) (E := E) (m := 2) (k := 5) (N := ["_law_script", "_law_most", "_law_many", "_law_turn", "_law_wide", "_law_low", "_law_k"]) rfl h (imp_seq (imp_asg (imp_op opi_add imp_int (imp_call (imp_cons imp_var (imp_cons imp_int (imp_cons imp_int (imp_cons imp_var imp_nil)))))) impg_name) (imp_seq (imp_asg (imp_op opi_add imp_int (imp_call (imp_cons imp_var (imp_cons imp_int (imp_cons imp_int (imp_cons imp_int imp_nil)))))) impg_name) (imp_seq (imp_asg (imp_op opi_ixL (imp_lst (imp_cons imp_int (imp_cons imp_int (imp_cons imp_int (imp_cons (imp_un uni_neg imp_int) imp_nil))))) (imp_call (imp_cons imp_var (imp_cons imp_int (imp_cons imp_int (imp_cons imp_int imp_nil)))))) impg_name) (imp_seq (imp_asg (imp_op opi_ixL (imp_lst (imp_cons imp_int (imp_cons imp_int (imp_cons imp_int imp_nil)))) (imp_call (imp_cons imp_var (imp_cons imp_int (imp_cons imp_int (imp_cons imp_int imp_nil)))))) impg_name) (imp_ret (imp_lc (imp_iR1 (imp_cons imp_var imp_nil)) (impg_name) imp_yes (imp_op opi_sub (imp_op opi_mul imp_var (imp_op opi_mod (imp_cb cbi_int (imp_cons (imp_op opi_mul imp_var (imp_op opi_add imp_var imp_int)) imp_nil)) imp_int)) imp_var) (by decide)))))))⟩
theorem ok_l_names (T : TX K mg base) : DefOk P w K mg base (2) "_law_names" ["_law_script", "_law_most"] [] (Mi.spF K f_l_names) := by
  obtain ⟨fd, F, h⟩ := fn_l_names (P := P) (w := w) (base := base) T
  exact DefOk.of F (gl_l_names T) (F.bindsN fun _ _ _ _ _ _ us hl => match us, hl with | [_, _], _ => rfl) h
theorem sc_l_trace : FnScope ["_law_script", "_law_names_here", "_law_trace_here", "_law_at", "_law_kind", "_law_name"] ["_law_script", "_law_names_here"] (defScope s_l_trace) := ⟨rfl, rfl, rfl, by decide +kernel, rfl, by decide +kernel, by decide +kernel⟩
noncomputable def f_l_trace_t1 : Mi.Env → Mi.Sto → Mi.R Bool := (xAnd (xB (xOp oEqS (xVar 4) (xC (.int 5)))) (xB (xOp (oI fun i j => .bl (decide (j < i))) (xCB bLen (xCons (xVar 2) xNil)) (xC (.int 0)))))
noncomputable def f_l_trace_b1 : Mi.Env → Mi.Sto → Mi.RS := (xSeq (xAsg (xCall fNumber (xCons (xVar 0) (xCons (xVar 3) (xCons (xC (.int 1)) (xCons (xC (.int 6)) xNil))))) (gNameX 4))
      (xSeq (xAsg (xOp oIxL (xVar 1) (xCall fNumber (xCons (xVar 0) (xCons (xVar 3) (xCons (xC (.int 0)) (xCons (xCB bLen (xCons (xVar 1) xNil)) xNil)))))) (gNameX 5))
      (xSeq (xIfS (xB (xOp oEqS (xVar 4) (xC (.int 4)))) (xAsg (xOp oIxL (xVar 1) (xOp (oIC (fun _ j => 0 < j) fun i j => .int (i % j)) (xCB bInt (xCons (xVar 3) xNil)) (xCB bLen (xCons (xVar 1) xNil)))) (gNameX 5)) xNext)
      (xSeq (xIfS f_l_trace_t1 (xAsg (xOp oIxL (xVar 2) (xCall fNumber (xCons (xVar 0) (xCons (xVar 3) (xCons (xC (.int 2)) (xCons (xCB bLen (xCons (xVar 2) xNil)) xNil)))))) (gNameX 5)) xNext)
      (xDrop (xBM (mL gAppend) (xVar 2) (xCons (xVar 5) xNil)))))))
noncomputable def f_l_trace_l1 : Mi.Env → Mi.Sto → Mi.RS := (xFor (iR2 (xCons (xC (.int 1)) (xCons (xOp (oI fun i j => .int (i + j)) (xC (.int 1)) (xCall fNumber (xCons (xVar 0) (xCons (xC (.int 0)) (xCons (xC (.int 0)) (xCons (xC (.int 51)) xNil)))))) xNil))) (gNameX 3) f_l_trace_b1)
@[irreducible] noncomputable def f_l_trace : List Mi.D → Mi.Sto → Mi.R Mi.D := Mi.defX 2 4 (xSeq (xAsg (xLst xNil) (gNameX 2))
      (xSeq f_l_trace_l1
      (xRet (xVar 2))))
theorem f_l_trace_eq : f_l_trace = Mi.defX 2 4 (xSeq (xAsg (xLst xNil) (gNameX 2))
      (xSeq f_l_trace_l1
      (xRet (xVar 2)))) := by with_unfolding_all rfl
theorem fn_l_trace (T : TX K mg base) : ∃ fd, FunD K "_law_trace" "_law_trace" (defArgs s_l_trace) (defBody s_l_trace) (defScope s_l_trace) [] [] (He.ga K "_law_trace") fd ∧ FnOk P w K mg base CX0 (2) (He.ga K "_law_trace") fd ["_law_script", "_law_names_here"] (Mi.spF K f_l_trace) := by
  rw [f_l_trace_eq]
  obtain ⟨fd, F⟩ := fd_l_trace T
  refine ⟨fd, F, My.FunD.ok0 F sc_l_trace (Mi.spF_len rfl) (fun cdv A outer s0 H vs Q E hr h => ?_)⟩
  have hu := hu_of hr
  exact ⟨_, (pss_cons (ps_set (i := 2) sc_l_trace.nd rfl (Or.inl rfl) (pe_lst pa_nil))
      (pss_cons (ps_for PassesOwn.never rfl (pi_range2 rfl (fr_range T) (pa_cons pe_int (pa_cons (pe_op op_add pe_int (pe_callN (okm_l_number (P := P) (w := w) (base := base) T) hr (pa_cons (pv 0) (pa_cons pe_int (pa_cons pe_int (pa_cons pe_int pa_nil)))))) pa_nil))) (pg_name (i := 3) sc_l_trace.nd rfl (Or.inl rfl)) (pss_cons (ps_set (i := 4) sc_l_trace.nd rfl (Or.inl rfl) (pe_callN (okm_l_number (P := P) (w := w) (base := base) T) hr (pa_cons (pv 0) (pa_cons (pv 3) (pa_cons pe_int (pa_cons pe_int pa_nil))))))
      (pss_cons (ps_set (i := 5) sc_l_trace.nd rfl (Or.inl rfl) (pe_ix (ixL K) (pv 1) (pe_callN (okm_l_number (P := P) (w := w) (base := base) T) hr (pa_cons (pv 0) (pa_cons (pv 3) (pa_cons pe_int (pa_cons (pe_callB (lenQ K) (by rfl) (fr_len T) PySem.boot_len (pa_cons (pv 1) pa_nil)) pa_nil))))) (fun _ _ => rfl)))
      (pss_cons (ps_if (pt_cmpR op_eq (pv 4) pe_int (nomark _)) (pss_one (ps_set (i := 5) sc_l_trace.nd rfl (Or.inl rfl) (pe_ix (ixL K) (pv 1) (pe_op op_mod (pe_callTy call_int1 (by rfl) (fr_int T) (by decide +kernel) (pa_cons (pv 3) pa_nil)) (pe_callB (lenQ K) (by rfl) (fr_len T) PySem.boot_len (pa_cons (pv 1) pa_nil))) (fun _ _ => rfl)))) pss_nil)
      (pss_cons (ps_if (PW.pt (pw_and (pt_cmpR op_eq (pv 4) pe_int (nomark _)) (pw_and1 (pt_cmpR op_gt (pe_callB (lenQ K) (by rfl) (fr_len T) PySem.boot_len (pa_cons (pv 2) pa_nil)) pe_int (nomark _))))) (pss_one (ps_set (i := 5) sc_l_trace.nd rfl (Or.inl rfl) (pe_ix (ixL K) (pv 2) (pe_callN (okm_l_number (P := P) (w := w) (base := base) T) hr (pa_cons (pv 0) (pa_cons (pv 3) (pa_cons pe_int (pa_cons (pe_callB (lenQ K) (by rfl) (fr_len T) PySem.boot_len (pa_cons (pv 2) pa_nil)) pa_nil))))) (fun _ _ => rfl)))) pss_nil)
      (pss_one (ps_expr (pe_bm PySem.F.plainAttrs_list PySem.F.slot_list_append PySem.F.type_list_append mt_append (pv 2) (pa_cons (pv 5) pa_nil)))))))))
      (pss_one (ps_ret (pv 2))))),
    Mi.body_of (K := K) (E := E) (m := 2) (k := 4) (N := ["_law_script", "_law_names_here", "_law_trace_here", "_law_at", "_law_kind", "_law_name"]) rfl h (imp_seq (imp_asg (imp_lst imp_nil) impg_name) (imp_seq (imp_for (imp_iR2 (imp_cons imp_int (imp_cons (imp_op opi_add imp_int (imp_call (imp_cons imp_var (imp_cons imp_int (imp_cons imp_int (imp_cons imp_int imp_nil)))))) imp_nil))) (impg_name) (imp_seq (imp_asg (imp_call (imp_cons imp_var (imp_cons imp_var (imp_cons imp_int (imp_cons imp_int imp_nil))))) impg_name) (imp_seq (imp_asg (imp_op opi_ixL imp_var (imp_call (imp_cons imp_var (imp_cons imp_var (imp_cons imp_int (imp_cons (imp_cb cbi_len (imp_cons imp_var imp_nil)) imp_nil)))))) impg_name) (imp_seq (imp_ifS (imp_test (imp_op opi_eqS imp_var imp_int)) (imp_asg (imp_op opi_ixL imp_var (imp_op opi_mod (imp_cb cbi_int (imp_cons imp_var imp_nil)) (imp_cb cbi_len (imp_cons imp_var imp_nil)))) impg_name) imp_next) (imp_seq (imp_ifS (imp_and (imp_test (imp_op opi_eqS imp_var imp_int)) (imp_test (imp_op opi_gt (imp_cb cbi_len (imp_cons imp_var imp_nil)) imp_int))) (imp_asg (imp_op opi_ixL imp_var (imp_call (imp_cons imp_var (imp_cons imp_var (imp_cons imp_int (imp_cons (imp_cb cbi_len (imp_cons imp_var imp_nil)) imp_nil)))))) impg_name) imp_next) (imp_drop (imp_bm mti_append imp_var (imp_cons imp_var imp_nil)))))))) (imp_ret imp_var)))⟩
theorem ok_l_trace (T : TX K mg base) : DefOk P w K mg base (2) "_law_trace" ["_law_script", "_law_names_here"] [] (Mi.spF K f_l_trace) := by
  obtain ⟨fd, F, h⟩ := fn_l_trace (P := P) (w := w) (base := base) T
  exact DefOk.of F (gl_l_trace T) (F.bindsN fun _ _ _ _ _ _ us hl => match us, hl with | [_, _], _ => rfl) h
theorem sc_l_page_ins : FnScope ["_law_trace_here", "_law_many", "_law_kind", "_law_plain", "_law_inside", "_law_k", "_law_found", "_law_at", "_law_frame"] ["_law_trace_here", "_law_many", "_law_kind"] (defScope s_l_page_ins) := ⟨rfl, rfl, rfl, by decide +kernel, rfl, by decide +kernel, by decide +kernel⟩
noncomputable def f_l_page_ins_c1 : Mi.Env → Mi.Sto → Mi.R Mi.D := (xLc (iR1 (xCons (xVar 1) xNil)) (gNameX 5) xYes (xC .non) [5])
noncomputable def f_l_page_ins_c2 : Mi.Env → Mi.Sto → Mi.R Mi.D := (xLc (iR1 (xCons (xVar 1) xNil)) (gNameX 5) xYes (xVar 5) [5])
noncomputable def f_l_page_ins_b1 : Mi.Env → Mi.Sto → Mi.RS := (xSeq (xIfS (xB (xOp (oIn false) (xOp oIxL (xVar 0) (xVar 7)) (xVar 4))) (xSeq (xDrop (xCall f_l_chooser_tell (xCons (xVar 3) (xCons (xC (.str "touched")) (xCons (xBM mIndex (xVar 4) (xCons (xOp oIxL (xVar 0) (xVar 7)) xNil)) xNil)))))
      xCont) xNext)
      (xSeq (xDrop (xBM (mL gAppend) (xVar 6) (xCons (xVar 7) xNil)))
      (xSeq (xIfS (xB (xOp (oIn false) (xC .non) (xVar 4))) (xAsg (xBM mIndex (xVar 4) (xCons (xC .non) xNil)) (gNameX 8)) (xSeq (xAsg (xCall f_l_chooser_pick (xCons (xVar 3) (xCons f_l_page_ins_c2 xNil))) (gNameX 8))
      (xDrop (xCall f_l_chooser_tell (xCons (xVar 3) (xCons (xC (.str "emptied")) (xCons (xVar 8) xNil)))))))
      (xSeq (xAsg (xOp oIxL (xVar 0) (xVar 7)) (gSubX (xVar 4) (xVar 8)))
      (xDrop (xCall f_l_chooser_tell (xCons (xVar 3) (xCons (xC (.str "filled")) (xCons (xVar 8) xNil)))))))))
noncomputable def f_l_page_ins_l1 : Mi.Env → Mi.Sto → Mi.RS := (xFor (iR1 (xCons (xCB bLen (xCons (xVar 0) xNil)) xNil)) (gNameX 7) f_l_page_ins_b1)
@[irreducible] noncomputable def f_l_page_ins : List Mi.D → Mi.Sto → Mi.R Mi.D := Mi.defX 3 6 (xSeq (xAsg (xCall f_l_chooser_new (xCons (xVar 2) (xCons (xVar 1) xNil))) (gNameX 3))
      (xSeq (xAsg f_l_page_ins_c1 (gNameX 4))
      (xSeq (xAsg (xLst xNil) (gNameX 6))
      (xSeq f_l_page_ins_l1
      (xRet (xVar 6))))))
theorem f_l_page_ins_eq : f_l_page_ins = Mi.defX 3 6 (xSeq (xAsg (xCall f_l_chooser_new (xCons (xVar 2) (xCons (xVar 1) xNil))) (gNameX 3))
      (xSeq (xAsg f_l_page_ins_c1 (gNameX 4))
      (xSeq (xAsg (xLst xNil) (gNameX 6))
      (xSeq f_l_page_ins_l1
      (xRet (xVar 6)))))) := by with_unfolding_all rfl
theorem fn_l_page_ins (T : TX K mg base) : ∃ fd, FunD K "_law_page_ins" "_law_page_ins" (defArgs s_l_page_ins) (defBody s_l_page_ins) (defScope s_l_page_ins) [] [] (He.ga K "_law_page_ins") fd ∧ FnOk P w K mg base CX0 (3) (He.ga K "_law_page_ins") fd ["_law_trace_here", "_law_many", "_law_kind"] (Mi.spF K f_l_page_ins) := by
  rw [f_l_page_ins_eq]
  obtain ⟨fd, F⟩ := fd_l_page_ins T
  refine ⟨fd, F, My.FunD.ok0 F sc_l_page_ins (Mi.spF_len rfl) (fun cdv A outer s0 H vs Q E hr h => ?_)⟩
  have hu := hu_of hr
  exact ⟨_, (pss_cons (ps_set (i := 3) sc_l_page_ins.nd rfl (Or.inl rfl) (pe_callN (ok_l_chooser_new (P := P) (w := w) (base := base) T) hr (pa_cons (pv 2) (pa_cons (pv 1) pa_nil))))
      (pss_cons (ps_setLc (i := 4) (own := [("_law_k", 5)]) rfl sc_l_page_ins.nd rfl rfl (sw_true rfl rfl rfl (by decide +kernel)) (pi_range1 rfl (fr_range T) (pa_cons (pv 1) pa_nil)) (blkOk_by (own := [("_law_k", 5)]) (N := ["_law_trace_here", "_law_many", "_law_kind", "_law_plain", "_law_inside", "_law_k", "_law_found", "_law_at", "_law_frame"]) (sc := defScope s_l_page_ins) (by decide +kernel)) (fun _ _ _ _ _ => (pg_name (i := 5) sc_l_page_ins.nd rfl (Or.inl rfl))) (fun _ _ _ _ _ => pts_nil) (fun _ _ _ _ _ => pe_non))
      (pss_cons (ps_set (i := 6) sc_l_page_ins.nd rfl (Or.inl rfl) (pe_lst pa_nil))
      (pss_cons (ps_for PassesOwn.never rfl (pi_range1 rfl (fr_range T) (pa_cons (pe_callB (lenQ K) (by rfl) (fr_len T) PySem.boot_len (pa_cons (pv 0) pa_nil)) pa_nil)) (pg_name (i := 7) sc_l_page_ins.nd rfl (Or.inl rfl)) (pss_cons (ps_if (pt_cmpR (inQ K) (pe_ix (ixL K) (pv 0) (pv 7) (fun _ _ => rfl)) (pv 4) rfl) (pss_cons (ps_expr (pe_callN (ok_l_chooser_tell (P := P) (w := w) (base := base) T) hr (pa_cons (pv 3) (pa_cons pe_str (pa_cons (pe_bm PySem.F.plainAttrs_list PySem.F.slot_list_index PySem.F.type_list_index mt_index (pv 4) (pa_cons (pe_ix (ixL K) (pv 0) (pv 7) (fun _ _ => rfl)) pa_nil)) pa_nil)))))
      (pss_one ps_continue)) pss_nil)
      (pss_cons (ps_expr (pe_bm PySem.F.plainAttrs_list PySem.F.slot_list_append PySem.F.type_list_append mt_append (pv 6) (pa_cons (pv 7) pa_nil)))
      (pss_cons (ps_if (pt_cmpR (inQ K) pe_non (pv 4) rfl) (pss_one (ps_set (i := 8) sc_l_page_ins.nd rfl (Or.inl rfl) (pe_bm PySem.F.plainAttrs_list PySem.F.slot_list_index PySem.F.type_list_index mt_index (pv 4) (pa_cons pe_non pa_nil)))) (pss_cons (ps_set (i := 8) sc_l_page_ins.nd rfl (Or.inl rfl) (pe_callN (ok_l_chooser_pick (P := P) (w := w) (base := base) T) hr (pa_cons (pv 3) (pa_cons (pe_lc (own := [("_law_k", 5)]) rfl sc_l_page_ins.nd (pi_range1 rfl (fr_range T) (pa_cons (pv 1) pa_nil)) (blkOk_by (own := [("_law_k", 5)]) (N := ["_law_trace_here", "_law_many", "_law_kind", "_law_plain", "_law_inside", "_law_k", "_law_found", "_law_at", "_law_frame"]) (sc := defScope s_l_page_ins) (by decide +kernel)) (fun _ _ _ _ _ => (pg_name (i := 5) sc_l_page_ins.nd rfl (Or.inl rfl))) (fun _ _ _ _ _ => pts_nil) (fun _ _ _ _ _ => (pv 5))) pa_nil))))
      (pss_one (ps_expr (pe_callN (ok_l_chooser_tell (P := P) (w := w) (base := base) T) hr (pa_cons (pv 3) (pa_cons pe_str (pa_cons (pv 8) pa_nil))))))))
      (pss_cons (ps_asg (pe_ix (ixL K) (pv 0) (pv 7) (fun _ _ => rfl)) (pg_sub (pv 4) (pv 8) set_list))
      (pss_one (ps_expr (pe_callN (ok_l_chooser_tell (P := P) (w := w) (base := base) T) hr (pa_cons (pv 3) (pa_cons pe_str (pa_cons (pv 8) pa_nil)))))))))))
      (pss_one (ps_ret (pv 6))))))),
    Mi.body_of (K := K) (E := E) (m := 3) (k := 6) (N := ["_law_trace_here", "_law_many", "_law_kind", "_law_plain", "_law_inside", "_law_k", "_law_found", "_law_at", "_law_frame"]) rfl h (imp_seq (imp_asg (imp_call (imp_cons imp_var (imp_cons imp_var imp_nil))) impg_name) (imp_seq (imp_asg (imp_lc (imp_iR1 (imp_cons imp_var imp_nil)) (impg_name) imp_yes imp_non (by decide)) impg_name) (imp_seq (imp_asg (imp_lst imp_nil) impg_name) (imp_seq (imp_for (imp_iR1 (imp_cons (imp_cb cbi_len (imp_cons imp_var imp_nil)) imp_nil)) (impg_name) (imp_seq (imp_ifS (imp_test (imp_op opi_in (imp_op opi_ixL imp_var imp_var) imp_var)) (imp_seq (imp_drop (imp_call (imp_cons imp_var (imp_cons imp_str (imp_cons (imp_bm mti_index imp_var (imp_cons (imp_op opi_ixL imp_var imp_var) imp_nil)) imp_nil))))) imp_cont) imp_next) (imp_seq (imp_drop (imp_bm mti_append imp_var (imp_cons imp_var imp_nil))) (imp_seq (imp_ifS (imp_test (imp_op opi_in imp_non imp_var)) (imp_asg (imp_bm mti_index imp_var (imp_cons imp_non imp_nil)) impg_name) (imp_seq (imp_asg (imp_call (imp_cons imp_var (imp_cons (imp_lc (imp_iR1 (imp_cons imp_var imp_nil)) (impg_name) imp_yes imp_var (by decide)) imp_nil))) impg_name) (imp_drop (imp_call (imp_cons imp_var (imp_cons imp_str (imp_cons imp_var imp_nil))))))) (imp_seq (imp_asg (imp_op opi_ixL imp_var imp_var) (impg_sub imp_var imp_var)) (imp_drop (imp_call (imp_cons imp_var (imp_cons imp_str (imp_cons imp_var imp_nil)))))))))) (imp_ret imp_var)))))⟩
theorem ok_l_page_ins (T : TX K mg base) : DefOk P w K mg base (3) "_law_page_ins" ["_law_trace_here", "_law_many", "_law_kind"] [] (Mi.spF K f_l_page_ins) := by
  obtain ⟨fd, F, h⟩ := fn_l_page_ins (P := P) (w := w) (base := base) T
  exact DefOk.of F (gl_l_page_ins T) (F.bindsN fun _ _ _ _ _ _ us hl => match us, hl with | [_, _, _], _ => rfl) h
theorem sc_law : FnScope ["_law_script", "_law_trace_here", "_law_many", "_law_name", "_law_kinds", "_law_again", "_law_kind", "_law_due", "_law_turn", "_law_handed", "_law_told"] ["_law_script"] (defScope s_law) := ⟨rfl, rfl, rfl, by decide +kernel, rfl, by decide +kernel, by decide +kernel⟩
noncomputable def f_law_c1 : Mi.Env → Mi.Sto → Mi.R Mi.D := (xLc (iL (xVar 1)) (gNameX 3) xYes (xOp (oI fun i j => .int (i + j)) (xVar 3) (xC (.int 1))) [3])
noncomputable def f_law_t1 : Mi.Env → Mi.Sto → Mi.R Bool := (xOr (xNot (xB (xCall (fSame 3) (xCons (xVar 10) (xCons (xVar 7) xNil))))) (xB (xOp (oEqD true) (xVar 9) (xVar 1))))
noncomputable def f_law_b1 : Mi.Env → Mi.Sto → Mi.RS := (xSeq (xAsg (xCB bList (xCons (xVar 1) xNil)) (gNameX 9))
      (xSeq (xAsg (xCall f_page_ins (xCons (xVar 9) (xCons (xVar 2) (xCons (xVar 6) xNil)))) (gNameX 10))
      (xSeq (xIfS f_law_t1 (xRet (xC (.bl false))) xNext)
      (xDrop (xBM (mL gAppend) (xVar 10) (xCons (xVar 8) xNil))))))
noncomputable def f_law_l1 : Mi.Env → Mi.Sto → Mi.RS := (xFor (iR1 (xCons (xOp (oI fun i j => .int (i + j)) (xC (.int 1)) (xCB bInt (xCons (xOp oEqS (xVar 6) (xVar 5)) xNil))) xNil)) (gNameX 8) f_law_b1)
noncomputable def f_law_b2 : Mi.Env → Mi.Sto → Mi.RS := (xSeq (xAsg (xCall f_l_page_ins (xCons (xVar 1) (xCons (xVar 2) (xCons (xVar 6) xNil)))) (gNameX 7))
      f_law_l1)
noncomputable def f_law_l2 : Mi.Env → Mi.Sto → Mi.RS := (xFor (iL (xVar 4)) (gNameX 6) f_law_b2)
@[irreducible] noncomputable def f_law : List Mi.D → Mi.Sto → Mi.R Mi.D := Mi.defX 1 10 (xSeq (xAsg (xCall f_l_trace (xCons (xVar 0) (xCons (xCall f_l_names (xCons (xVar 0) (xCons (xC (.int 9)) xNil))) xNil))) (gNameX 1))
      (xSeq (xAsg (xOp (oI fun i j => .int (i + j)) (xC (.int 1)) (xCall fNumber (xCons (xVar 0) (xCons (xC (.int 0)) (xCons (xC (.int 1)) (xCons (xC (.int 6)) xNil)))))) (gNameX 2))
      (xSeq (xIfS (xB (xOp oEqS (xCall fNumber (xCons (xVar 0) (xCons (xC (.int 0)) (xCons (xC (.int 2)) (xCons (xC (.int 8)) xNil))))) (xC (.int 0)))) (xSeq (xAsg (xOp (oI fun i j => .int (i + j)) (xVar 2) (xC (.int 6))) (gNameX 2))
      (xAsg (xOp oRep (xOp oCat (xVar 1) f_law_c1) (xOp oIxL (xLst (xCons (xC (.int 1)) (xCons (xC (.int 3)) xNil))) (xCall fNumber (xCons (xVar 0) (xCons (xC (.int 0)) (xCons (xC (.int 4)) (xCons (xC (.int 2)) xNil))))))) (gNameX 1))) xNext)
      (xSeq (xAsg (xLst (xCons (xC (.str "lru")) (xCons (xC (.str "fifo")) (xCons (xC (.str "newest")) (xCons (xC (.str "clock")) xNil))))) (gNameX 4))
      (xSeq (xAsg (xOp oIxL (xVar 4) (xCall fNumber (xCons (xVar 0) (xCons (xC (.int 0)) (xCons (xC (.int 3)) (xCons (xC (.int 4)) xNil)))))) (gNameX 5))
      (xSeq f_law_l2
      (xRet (xC (.bl true)))))))))
theorem f_law_eq : f_law = Mi.defX 1 10 (xSeq (xAsg (xCall f_l_trace (xCons (xVar 0) (xCons (xCall f_l_names (xCons (xVar 0) (xCons (xC (.int 9)) xNil))) xNil))) (gNameX 1))
      (xSeq (xAsg (xOp (oI fun i j => .int (i + j)) (xC (.int 1)) (xCall fNumber (xCons (xVar 0) (xCons (xC (.int 0)) (xCons (xC (.int 1)) (xCons (xC (.int 6)) xNil)))))) (gNameX 2))
      (xSeq (xIfS (xB (xOp oEqS (xCall fNumber (xCons (xVar 0) (xCons (xC (.int 0)) (xCons (xC (.int 2)) (xCons (xC (.int 8)) xNil))))) (xC (.int 0)))) (xSeq (xAsg (xOp (oI fun i j => .int (i + j)) (xVar 2) (xC (.int 6))) (gNameX 2))
      (xAsg (xOp oRep (xOp oCat (xVar 1) f_law_c1) (xOp oIxL (xLst (xCons (xC (.int 1)) (xCons (xC (.int 3)) xNil))) (xCall fNumber (xCons (xVar 0) (xCons (xC (.int 0)) (xCons (xC (.int 4)) (xCons (xC (.int 2)) xNil))))))) (gNameX 1))) xNext)
      (xSeq (xAsg (xLst (xCons (xC (.str "lru")) (xCons (xC (.str "fifo")) (xCons (xC (.str "newest")) (xCons (xC (.str "clock")) xNil))))) (gNameX 4))
      (xSeq (xAsg (xOp oIxL (xVar 4) (xCall fNumber (xCons (xVar 0) (xCons (xC (.int 0)) (xCons (xC (.int 3)) (xCons (xC (.int 4)) xNil)))))) (gNameX 5))
      (xSeq f_law_l2
      (xRet (xC (.bl true))))))))) := by with_unfolding_all rfl
theorem fn_law (T : TX K mg base) : ∃ fd, FunD K "law" "law" (defArgs s_law) (defBody s_law) (defScope s_law) [] [] (He.ga K "law") fd ∧ FnOk P w K mg base CX0 (8) (He.ga K "law") fd ["_law_script"] (Mi.spF K f_law) := by
  rw [f_law_eq]
  obtain ⟨fd, F⟩ := fd_law T
  refine ⟨fd, F, My.FunD.ok0 F sc_law (Mi.spF_len rfl) (fun cdv A outer s0 H vs Q E hr h => ?_)⟩
  have hu := hu_of hr
  exact ⟨_, (pss_cons (ps_set (i := 1) sc_law.nd rfl (Or.inl rfl) (pe_callN (ok_l_trace (P := P) (w := w) (base := base) T) hr (pa_cons (pv 0) (pa_cons (pe_callN (ok_l_names (P := P) (w := w) (base := base) T) hr (pa_cons (pv 0) (pa_cons pe_int pa_nil))) pa_nil))))
      (pss_cons (ps_set (i := 2) sc_law.nd rfl (Or.inl rfl) (pe_op op_add pe_int (pe_callN (okm_l_number (P := P) (w := w) (base := base) T) hr (pa_cons (pv 0) (pa_cons pe_int (pa_cons pe_int (pa_cons pe_int pa_nil)))))))
      (pss_cons (ps_if (pt_cmpR op_eq (pe_callN (okm_l_number (P := P) (w := w) (base := base) T) hr (pa_cons (pv 0) (pa_cons pe_int (pa_cons pe_int (pa_cons pe_int pa_nil))))) pe_int (nomark _)) (pss_cons (ps_set (i := 2) sc_law.nd rfl (Or.inl rfl) (pe_op op_add (pv 2) pe_int))
      (pss_one (ps_set (i := 1) sc_law.nd rfl (Or.inl rfl) (pe_op op_rep (pe_op op_cat (pv 1) (pe_lc (own := [("_law_name", 3)]) rfl sc_law.nd (pi_list (pv 1)) (blkOk_by (own := [("_law_name", 3)]) (N := ["_law_script", "_law_trace_here", "_law_many", "_law_name", "_law_kinds", "_law_again", "_law_kind", "_law_due", "_law_turn", "_law_handed", "_law_told"]) (sc := defScope s_law) (by decide +kernel)) (fun _ _ _ _ _ => (pg_name (i := 3) sc_law.nd rfl (Or.inl rfl))) (fun _ _ _ _ _ => pts_nil) (fun _ _ _ _ _ => (pe_op op_add (pv 3) pe_int)))) (pe_ix (ixL K) (pe_lst (pa_cons pe_int (pa_cons pe_int pa_nil))) (pe_callN (okm_l_number (P := P) (w := w) (base := base) T) hr (pa_cons (pv 0) (pa_cons pe_int (pa_cons pe_int (pa_cons pe_int pa_nil))))) (fun _ _ => rfl)))))) pss_nil)
      (pss_cons (ps_set (i := 4) sc_law.nd rfl (Or.inl rfl) (pe_lst (pa_cons pe_str (pa_cons pe_str (pa_cons pe_str (pa_cons pe_str pa_nil))))))
      (pss_cons (ps_set (i := 5) sc_law.nd rfl (Or.inl rfl) (pe_ix (ixL K) (pv 4) (pe_callN (okm_l_number (P := P) (w := w) (base := base) T) hr (pa_cons (pv 0) (pa_cons pe_int (pa_cons pe_int (pa_cons pe_int pa_nil))))) (fun _ _ => rfl)))
      (pss_cons (ps_for PassesOwn.never rfl (pi_list (pv 4)) (pg_name (i := 6) sc_law.nd rfl (Or.inl rfl)) (pss_cons (ps_set (i := 7) sc_law.nd rfl (Or.inl rfl) (pe_callN (ok_l_page_ins (P := P) (w := w) (base := base) T) hr (pa_cons (pv 1) (pa_cons (pv 2) (pa_cons (pv 6) pa_nil)))))
      (pss_one (ps_for PassesOwn.never rfl (pi_range1 rfl (fr_range T) (pa_cons (pe_op op_add pe_int (pe_callTy call_int1 (by rfl) (fr_int T) (by decide +kernel) (pa_cons (pe_cmpR op_eq (pv 6) (pv 5) (nomark _)) pa_nil))) pa_nil)) (pg_name (i := 8) sc_law.nd rfl (Or.inl rfl)) (pss_cons (ps_set (i := 9) sc_law.nd rfl (Or.inl rfl) (pe_callTy (listQ K) (by rfl) (fr_list T) (by decide +kernel) (pa_cons (pv 1) pa_nil)))
      (pss_cons (ps_set (i := 10) sc_law.nd rfl (Or.inl rfl) (pe_callN (ok_page_ins (P := P) (w := w) (base := base) T) hr (pa_cons (pv 9) (pa_cons (pv 2) (pa_cons (pv 6) pa_nil)))))
      (pss_cons (ps_if (PW.pt (pw_or (pt_not (pt_val (pe_callN (okm_l_same (P := P) (w := w) (base := base) T 3) hr (pa_cons (pv 10) (pa_cons (pv 7) pa_nil))))) (pw_or1 (pt_cmpR (neD K hr.units) (pv 9) (pv 1) (nomark _))))) (pss_one (ps_ret pe_bl)) pss_nil)
      (pss_one (ps_expr (pe_bm PySem.F.plainAttrs_list PySem.F.slot_list_append PySem.F.type_list_append mt_append (pv 10) (pa_cons (pv 8) pa_nil)))))))))))
      (pss_one (ps_ret pe_bl)))))))),
    Mi.body_of (K := K) (E := E) (m := 1) (k := 10) (N := ["_law_script", "_law_trace_here", "_law_many", "_law_name", "_law_kinds", "_law_again", "_law_kind", "_law_due", "_law_turn", "_law_handed", "_law_told"]) rfl h (imp_seq (imp_asg (imp_call (imp_cons imp_var (imp_cons (imp_call (imp_cons imp_var (imp_cons imp_int imp_nil))) imp_nil))) impg_name) (imp_seq (imp_asg (imp_op opi_add imp_int (imp_call (imp_cons imp_var (imp_cons imp_int (imp_cons imp_int (imp_cons imp_int imp_nil)))))) impg_name) (imp_seq (imp_ifS (imp_test (imp_op opi_eqS (imp_call (imp_cons imp_var (imp_cons imp_int (imp_cons imp_int (imp_cons imp_int imp_nil))))) imp_int)) (imp_seq (imp_asg (imp_op opi_add imp_var imp_int) impg_name) (imp_asg (imp_op opi_rep (imp_op opi_cat imp_var (imp_lc (imp_iL imp_var) (impg_name) imp_yes (imp_op opi_add imp_var imp_int) (by decide))) (imp_op opi_ixL (imp_lst (imp_cons imp_int (imp_cons imp_int imp_nil))) (imp_call (imp_cons imp_var (imp_cons imp_int (imp_cons imp_int (imp_cons imp_int imp_nil))))))) impg_name)) imp_next) (imp_seq (imp_asg (imp_lst (imp_cons imp_str (imp_cons imp_str (imp_cons imp_str (imp_cons imp_str imp_nil))))) impg_name) (imp_seq (imp_asg (imp_op opi_ixL imp_var (imp_call (imp_cons imp_var (imp_cons imp_int (imp_cons imp_int (imp_cons imp_int imp_nil)))))) impg_name) (imp_seq (imp_for (imp_iL imp_var) (impg_name) (imp_seq (imp_asg (imp_call (imp_cons imp_var (imp_cons imp_var (imp_cons imp_var imp_nil)))) impg_name) (imp_for (imp_iR1 (imp_cons (imp_op opi_add imp_int (imp_cb cbi_int (imp_cons (imp_op opi_eqS imp_var imp_var) imp_nil))) imp_nil)) (impg_name) (imp_seq (imp_asg (imp_cb cbi_list (imp_cons imp_var imp_nil)) impg_name) (imp_seq (imp_asg (imp_call (imp_cons imp_var (imp_cons imp_var (imp_cons imp_var imp_nil)))) impg_name) (imp_seq (imp_ifS (imp_or (imp_not (imp_tB (imp_call (imp_cons imp_var (imp_cons imp_var imp_nil))))) (imp_test (imp_op opi_neD imp_var imp_var))) (imp_ret imp_bl) imp_next) (imp_drop (imp_bm mti_append imp_var (imp_cons imp_var imp_nil))))))))) (imp_ret imp_bl)))))))⟩
theorem ok_law (T : TX K mg base) : DefOk P w K mg base (8) "law" ["_law_script"] [] (Mi.spF K f_law) := by
  obtain ⟨fd, F, h⟩ := fn_law (P := P) (w := w) (base := base) T
  exact DefOk.of F (gl_law T) (F.bindsN fun _ _ _ _ _ _ us hl => match us, hl with | [_], _ => rfl) h
end

section
open Mi
def bitAt (bits : List Int) (p : Nat) : Int := bits.getD p 0
def clk (as : List Int) (n : Nat) : Nat → Nat → List Int → Option (Nat × Nat × List Int)
  | 0, _, _ => none
  | k + 1, p, bits => if memI as p = true then (if bitAt bits p = 0 then some (p, (p + 1) % n, bits) else clk as n k ((p + 1) % n) (bits.set p 0)) else clk as n k ((p + 1) % n) bits
theorem clk_more {as : List Int} {n : Nat} : ∀ {k p : Nat} {bits : List Int} {r : Nat × Nat × List Int}, clk as n k p bits = some r → clk as n (k + 1) p bits = some r
  | 0, _, _, _, h => by cases h
  | k + 1, p, bits, r, h => by
    rw [clk] at h ⊢
    split
    · rename_i ha
      rw [if_pos ha] at h
      split
      · rename_i hb
        rw [if_pos hb] at h
        exact h
      · rename_i hb
        rw [if_neg hb] at h
        exact clk_more h
    · rename_i ha
      rw [if_neg ha] at h
      exact clk_more h
theorem clk_le {as : List Int} {n k j p : Nat} {bits : List Int} {r : Nat × Nat × List Int} (h : clk as n k p bits = some r) (l : k ≤ j) : clk as n j p bits = some r := by
  induction l with
  | refl => exact h
  | step _ ih => exact clk_more ih
theorem getD_set_ne {bits : List Int} {p q : Nat} (h : p ≠ q) : bitAt (bits.set p 0) q = bitAt bits q := by simp [bitAt, List.getD, List.getElem?_set_ne h]
theorem getD_set_self {bits : List Int} {p : Nat} : bitAt (bits.set p 0) p = 0 := by
  by_cases h : p < bits.length
  · simp [bitAt, List.getD, h]
  · simp [bitAt, List.getD, List.getElem?_eq_none (by simpa using h : (bits.set p 0).length ≤ p)]
theorem next_at {p s n q : Nat} (h : (p + (s + 1)) % n = q) : ((p + 1) % n + s) % n = q := by
  rw [Nat.mod_add_mod, show p + 1 + s = p + (s + 1) by omega]
  exact h
theorem clk_zero {as : List Int} {n q : Nat} (hq : memI as q = true) (hn : q < n) : ∀ (s p : Nat) (bits : List Int), p < n → (p + s) % n = q → bitAt bits q = 0 → ∃ r, clk as n (s + 1) p bits = some r
  | 0, p, bits, hp, h, hb => by
    rw [Nat.add_zero, Nat.mod_eq_of_lt hp] at h
    subst h
    exact ⟨_, by rw [clk, if_pos hq, if_pos hb]⟩
  | s + 1, p, bits, hp, h, hb => by
    have hp' : (p + 1) % n < n := Nat.mod_lt _ (by omega)
    rw [clk]
    split
    · split
      · exact ⟨_, rfl⟩
      · rename_i hne
        refine clk_zero hq hn s _ _ hp' (next_at h) ?_
        rw [getD_set_ne]
        · exact hb
        · intro z
          subst z
          exact hne hb
    · exact clk_zero hq hn s _ _ hp' (next_at h) hb
theorem clk_some {as : List Int} {n q : Nat} (hq : memI as q = true) (hn : q < n) : ∀ (s p : Nat) (bits : List Int), p < n → (p + s) % n = q → ∃ r, clk as n (s + 1 + n) p bits = some r
  | 0, p, bits, hp, h => by
    rw [Nat.add_zero, Nat.mod_eq_of_lt hp] at h
    subst h
    rw [show 0 + 1 + n = n + 1 by omega, clk, if_pos hq]
    split
    · exact ⟨_, rfl⟩
    · obtain ⟨r, hr⟩ := clk_zero hq hn (n - 1) ((p + 1) % n) (bits.set p 0) (Nat.mod_lt _ (by omega)) (by rw [Nat.mod_add_mod, show p + 1 + (n - 1) = p + n by omega, Nat.add_mod_right, Nat.mod_eq_of_lt hp]) getD_set_self
      exact ⟨r, by rw [show n = n - 1 + 1 by omega] at *; exact hr⟩
  | s + 1, p, bits, hp, h => by
    have hp' : (p + 1) % n < n := Nat.mod_lt _ (by omega)
    rw [show s + 1 + 1 + n = (s + 1 + n) + 1 by omega, clk]
    split
    · split
      · exact ⟨_, rfl⟩
      · exact clk_some hq hn s _ _ hp' (next_at h)
    · exact clk_some hq hn s _ _ hp' (next_at h)
theorem clk_ok {as : List Int} {n q p : Nat} {bits : List Int} (hq : memI as q = true) (hn : q < n) (hp : p < n) : ∃ r, clk as n (2 * n) p bits = some r := by
  obtain ⟨r, hr⟩ := clk_some hq hn ((q + n - p) % n) p bits hp (by
    rw [Nat.add_mod_mod, show p + (q + n - p) = q + n by omega, Nat.add_mod_right, Nat.mod_eq_of_lt hn])
  refine ⟨r, clk_le hr ?_⟩
  have := Nat.mod_lt (q + n - p) (show 0 < n by omega)
  omega
theorem clk_in {as : List Int} {n : Nat} (hn : 0 < n) : ∀ {k p : Nat} {bits : List Int} {r : Nat × Nat × List Int}, p < n → clk as n k p bits = some r → memI as r.1 = true ∧ r.1 < n ∧ r.2.1 < n ∧ r.2.2.length = bits.length
  | 0, _, _, _, _, h => by cases h
  | k + 1, p, bits, r, hp, h => by
    have hp' : (p + 1) % n < n := Nat.mod_lt _ hn
    rw [clk] at h
    split at h
    · rename_i ha
      split at h
      · cases h
        exact ⟨ha, hp, hp', rfl⟩
      · have := clk_in hn hp' h
        rw [List.length_set] at this
        exact this
    · exact clk_in hn hp' h
end

section
open Mi
/-! ### the chooser as a value -/
structure ChP where
  o : Nat
  f : Nat
  u : Nat
  b : Nat
structure Ch where
  kind : Str
  time : Int
  fa : List Int
  ua : List Int
  bits : List Int
  ptr : Int
def chO (p : ChP) (c : Ch) : O := .ins "Chooser" [("kind", .str c.kind), ("time", .int c.time), ("filled_at", .ref p.f), ("used_at", .ref p.u), ("bits", .ref p.b), ("pointer", .int c.ptr)]
def chL (p : ChP) (c : Ch) : List Asn := [pt p.o (chO p c), pt p.f (.lst (c.fa.map .int)), pt p.u (.lst (c.ua.map .int)), pt p.b (.lst (c.bits.map .int))]
structure ChN (c : Ch) (n : Nat) : Prop where
  f : c.fa.length = n
  u : c.ua.length = n
  b : c.bits.length = n
def Ch.touched (c : Ch) (i : Nat) : Ch := { c with time := c.time + 1, ua := c.ua.set i (c.time + 1), bits := c.bits.set i 1 }
def Ch.filled (c : Ch) (i : Nat) : Ch := { c with time := c.time + 1, ua := c.ua.set i (c.time + 1), bits := c.bits.set i 1, fa := c.fa.set i (c.time + 1) }
def Ch.emptied (c : Ch) (i : Nat) : Ch := { c with bits := c.bits.set i 0 }
def Ch.new (k : Str) (n : Nat) : Ch := ⟨k, 0, List.replicate n 0, List.replicate n 0, List.replicate n 0, 0⟩
theorem ChN.touched {c : Ch} {n i : Nat} (h : ChN c n) : ChN (c.touched i) n := ⟨h.f, by simp [Ch.touched, h.u], by simp [Ch.touched, h.b]⟩
theorem ChN.filled {c : Ch} {n i : Nat} (h : ChN c n) : ChN (c.filled i) n := ⟨by simp [Ch.filled, h.f], by simp [Ch.filled, h.u], by simp [Ch.filled, h.b]⟩
theorem ChN.emptied {c : Ch} {n i : Nat} (h : ChN c n) : ChN (c.emptied i) n := ⟨h.f, h.u, by simp [Ch.emptied, h.b]⟩
theorem ChN.new {k : Str} {n : Nat} : ChN (Ch.new k n) n := ⟨by simp [Ch.new], by simp [Ch.new], by simp [Ch.new]⟩
section
variable {As : List Asn} {S : Sto} {p : ChP} {c : Ch} {n : Nat} {i : Int}
theorem ix_set {xs : List Int} (h0 : 0 ≤ i) (h : i < xs.length) : ixN (xs.map D.int).length i = some i.toNat := by rw [List.length_map]; exact ixN_of h0 h
theorem touched_ok (h : Hs (chL p c ++ As) S) (hn : ChN c n) (h0 : 0 ≤ i) (hi : i < n) : Ok (f_Chooser_touched [.ref p.o, .int i] S) fun v S' => v = .non ∧ Hs (chL p (c.touched i.toNat) ++ As) S' := by
  replace h : Hs (pt p.o (chO p c) :: pt p.f (.lst (c.fa.map .int)) :: pt p.u (.lst (c.ua.map .int)) :: pt p.b (.lst (c.bits.map .int)) :: As) S := h
  rw [f_Chooser_touched_eq]
  refine Ok.def rfl ?_
  have a := h.at 0
  unfold chO at a
  simp (decide := true) [wpe_ret, wpe_exc, wpe_bind, wps_nx, wps_ret, wps_bk, wps_ct, wps_exc, wps_bindS, wps_seq, wps_xSeq, wps_toS, wpe_nox, defQ_ret, defQ_exc, wps_if, cn_k, cn_x, cx_n, cx_q, wpe_lst, wpe_dnew, wps_xSetF, wps_xAugF, wps_xDPut, gSub_eq, wpe_xMake, wps_xFor, wps_xForE, wpe_xLc, loopQ_ct, loopQ_bk, loopQ_ret, loopQ_exc, wpe_iteBad, wps_iteBad, oIC_wp, bList_wp, bListT_wp, oSlL_wp, oCat_wp, bListD_wp, mkRg_wp, bSet_wp, xSortSet_wp, cDiv_lit, cMul_litL, cMul_litR, rngOk_lit, rngOk_m1, -bList_tup, iR3, xLRg1, xLRg2, xErrF, xIsE, xRaise, RS.unset, RS.noexc, xNext, xAsg, gNameX, gConsX, gNilX, gTupX, xVar, xC, xOp, xUn, oI_int, oNeg_int, xB, asB_bl, xRet, xRetN, xDrop, xBreak, xCont, xCons, xNil, xTup, xCB, xCall, xCallX, xAnd, xOr, xNot, xAndV, xOrV, xNotV, xIf, xYes, xTru, truD, xIsN, xNotN, nonD, xFld, xMeth, xMethX, xBM, xDGet, xDIn, xPart, xNoPart, xSl, nox_ok, toS_ok, finX, iR1, iR2, iL, iT, iE, iZ, xAug, xAssert, str_beq, insX, putFX, putX, valX, keyD_int, keyD_str, List.lookup, oInSet, xDisp, xPCons, xPNil, keysX, mergeX, rdL_app_ge, rdL_app_self, rdL_zero, rdL_succ, at_app_ge, at_app_self, at_zero, at_succ, a]
  refine wps_setF h (by simp) ?_
  intro S h
  replace h : Hs (pt p.o (chO p { c with time := c.time + 1 }) :: pt p.f (.lst (c.fa.map .int)) :: pt p.u (.lst (c.ua.map .int)) :: pt p.b (.lst (c.bits.map .int)) :: As) S := by
    simp (decide := true) [putFX] at h
    exact h
  have a := h.at 0
  unfold chO at a
  simp (decide := true) [wpe_ret, wpe_exc, wpe_bind, wps_nx, wps_ret, wps_bk, wps_ct, wps_exc, wps_bindS, wps_seq, wps_xSeq, wps_toS, wpe_nox, defQ_ret, defQ_exc, wps_if, cn_k, cn_x, cx_n, cx_q, wpe_lst, wpe_dnew, wps_xSetF, wps_xAugF, wps_xDPut, gSub_eq, wpe_xMake, wps_xFor, wps_xForE, wpe_xLc, loopQ_ct, loopQ_bk, loopQ_ret, loopQ_exc, wpe_iteBad, wps_iteBad, oIC_wp, bList_wp, bListT_wp, oSlL_wp, oCat_wp, bListD_wp, mkRg_wp, bSet_wp, xSortSet_wp, cDiv_lit, cMul_litL, cMul_litR, rngOk_lit, rngOk_m1, -bList_tup, iR3, xLRg1, xLRg2, xErrF, xIsE, xRaise, RS.unset, RS.noexc, xNext, xAsg, gNameX, gConsX, gNilX, gTupX, xVar, xC, xOp, xUn, oI_int, oNeg_int, xB, asB_bl, xRet, xRetN, xDrop, xBreak, xCont, xCons, xNil, xTup, xCB, xCall, xCallX, xAnd, xOr, xNot, xAndV, xOrV, xNotV, xIf, xYes, xTru, truD, xIsN, xNotN, nonD, xFld, xMeth, xMethX, xBM, xDGet, xDIn, xPart, xNoPart, xSl, nox_ok, toS_ok, finX, iR1, iR2, iL, iT, iE, iZ, xAug, xAssert, str_beq, insX, putFX, putX, valX, keyD_int, keyD_str, List.lookup, oInSet, xDisp, xPCons, xPNil, keysX, mergeX, rdL_app_ge, rdL_app_self, rdL_zero, rdL_succ, at_app_ge, at_app_self, at_zero, at_succ, a]
  refine wpe_setL (h.up 2) (ix_set h0 (by rw [hn.u]; exact hi)) ?_
  intro S h
  have a := h.at 1
  unfold chO at a
  simp (decide := true) [wpe_ret, wpe_exc, wpe_bind, wps_nx, wps_ret, wps_bk, wps_ct, wps_exc, wps_bindS, wps_seq, wps_xSeq, wps_toS, wpe_nox, defQ_ret, defQ_exc, wps_if, cn_k, cn_x, cx_n, cx_q, wpe_lst, wpe_dnew, wps_xSetF, wps_xAugF, wps_xDPut, gSub_eq, wpe_xMake, wps_xFor, wps_xForE, wpe_xLc, loopQ_ct, loopQ_bk, loopQ_ret, loopQ_exc, wpe_iteBad, wps_iteBad, oIC_wp, bList_wp, bListT_wp, oSlL_wp, oCat_wp, bListD_wp, mkRg_wp, bSet_wp, xSortSet_wp, cDiv_lit, cMul_litL, cMul_litR, rngOk_lit, rngOk_m1, -bList_tup, iR3, xLRg1, xLRg2, xErrF, xIsE, xRaise, RS.unset, RS.noexc, xNext, xAsg, gNameX, gConsX, gNilX, gTupX, xVar, xC, xOp, xUn, oI_int, oNeg_int, xB, asB_bl, xRet, xRetN, xDrop, xBreak, xCont, xCons, xNil, xTup, xCB, xCall, xCallX, xAnd, xOr, xNot, xAndV, xOrV, xNotV, xIf, xYes, xTru, truD, xIsN, xNotN, nonD, xFld, xMeth, xMethX, xBM, xDGet, xDIn, xPart, xNoPart, xSl, nox_ok, toS_ok, finX, iR1, iR2, iL, iT, iE, iZ, xAug, xAssert, str_beq, insX, putFX, putX, valX, keyD_int, keyD_str, List.lookup, oInSet, xDisp, xPCons, xPNil, keysX, mergeX, rdL_app_ge, rdL_app_self, rdL_zero, rdL_succ, at_app_ge, at_app_self, at_zero, at_succ, a]
  refine wpe_setL (h.up 3) (ix_set h0 (by rw [hn.b]; exact hi)) ?_
  intro S h
  refine ⟨rfl, ?_⟩
  rw [show (c.ua.map D.int).set i.toNat (.int (c.time + 1)) = (c.ua.set i.toNat (c.time + 1)).map D.int by rw [List.map_set], show (c.bits.map D.int).set i.toNat (.int 1) = (c.bits.set i.toNat 1).map D.int by rw [List.map_set]] at h
  exact (((h.up 1).up 3).up 3)
theorem filled_ok (h : Hs (chL p c ++ As) S) (hn : ChN c n) (h0 : 0 ≤ i) (hi : i < n) : Ok (f_Chooser_filled [.ref p.o, .int i] S) fun v S' => v = .non ∧ Hs (chL p (c.filled i.toNat) ++ As) S' := by
  rw [f_Chooser_filled_eq]
  refine Ok.def rfl ?_
  have a := (show Hs (pt p.o (chO p c) :: _) S from h).at0
  unfold chO at a
  simp (decide := true) [wpe_ret, wpe_exc, wpe_bind, wps_nx, wps_ret, wps_bk, wps_ct, wps_exc, wps_bindS, wps_seq, wps_xSeq, wps_toS, wpe_nox, defQ_ret, defQ_exc, wps_if, cn_k, cn_x, cx_n, cx_q, wpe_lst, wpe_dnew, wps_xSetF, wps_xAugF, wps_xDPut, gSub_eq, wpe_xMake, wps_xFor, wps_xForE, wpe_xLc, loopQ_ct, loopQ_bk, loopQ_ret, loopQ_exc, wpe_iteBad, wps_iteBad, oIC_wp, bList_wp, bListT_wp, oSlL_wp, oCat_wp, bListD_wp, mkRg_wp, bSet_wp, xSortSet_wp, cDiv_lit, cMul_litL, cMul_litR, rngOk_lit, rngOk_m1, -bList_tup, iR3, xLRg1, xLRg2, xErrF, xIsE, xRaise, RS.unset, RS.noexc, xNext, xAsg, gNameX, gConsX, gNilX, gTupX, xVar, xC, xOp, xUn, oI_int, oNeg_int, xB, asB_bl, xRet, xRetN, xDrop, xBreak, xCont, xCons, xNil, xTup, xCB, xCall, xCallX, xAnd, xOr, xNot, xAndV, xOrV, xNotV, xIf, xYes, xTru, truD, xIsN, xNotN, nonD, xFld, xMeth, xMethX, xBM, xDGet, xDIn, xPart, xNoPart, xSl, nox_ok, toS_ok, finX, iR1, iR2, iL, iT, iE, iZ, xAug, xAssert, str_beq, insX, putFX, putX, valX, keyD_int, keyD_str, List.lookup, oInSet, xDisp, xPCons, xPNil, keysX, mergeX, rdL_app_ge, rdL_app_self, rdL_zero, rdL_succ, at_app_ge, at_app_self, at_zero, at_succ, a]
  refine wpe_k (touched_ok h hn h0 hi) ?_
  rintro _ S ⟨rfl, h⟩
  replace h : Hs (pt p.o (chO p (c.touched i.toNat)) :: pt p.f (.lst (c.fa.map .int)) :: pt p.u (.lst ((c.touched i.toNat).ua.map .int)) :: pt p.b (.lst ((c.touched i.toNat).bits.map .int)) :: As) S := h
  have a := h.at 0
  unfold chO at a
  simp (decide := true) [wpe_ret, wpe_exc, wpe_bind, wps_nx, wps_ret, wps_bk, wps_ct, wps_exc, wps_bindS, wps_seq, wps_xSeq, wps_toS, wpe_nox, defQ_ret, defQ_exc, wps_if, cn_k, cn_x, cx_n, cx_q, wpe_lst, wpe_dnew, wps_xSetF, wps_xAugF, wps_xDPut, gSub_eq, wpe_xMake, wps_xFor, wps_xForE, wpe_xLc, loopQ_ct, loopQ_bk, loopQ_ret, loopQ_exc, wpe_iteBad, wps_iteBad, oIC_wp, bList_wp, bListT_wp, oSlL_wp, oCat_wp, bListD_wp, mkRg_wp, bSet_wp, xSortSet_wp, cDiv_lit, cMul_litL, cMul_litR, rngOk_lit, rngOk_m1, -bList_tup, iR3, xLRg1, xLRg2, xErrF, xIsE, xRaise, RS.unset, RS.noexc, xNext, xAsg, gNameX, gConsX, gNilX, gTupX, xVar, xC, xOp, xUn, oI_int, oNeg_int, xB, asB_bl, xRet, xRetN, xDrop, xBreak, xCont, xCons, xNil, xTup, xCB, xCall, xCallX, xAnd, xOr, xNot, xAndV, xOrV, xNotV, xIf, xYes, xTru, truD, xIsN, xNotN, nonD, xFld, xMeth, xMethX, xBM, xDGet, xDIn, xPart, xNoPart, xSl, nox_ok, toS_ok, finX, iR1, iR2, iL, iT, iE, iZ, xAug, xAssert, str_beq, insX, putFX, putX, valX, keyD_int, keyD_str, List.lookup, oInSet, xDisp, xPCons, xPNil, keysX, mergeX, rdL_app_ge, rdL_app_self, rdL_zero, rdL_succ, at_app_ge, at_app_self, at_zero, at_succ, a]
  refine wpe_setL (h.up 1) (ix_set h0 (by rw [hn.f]; exact hi)) ?_
  intro S h
  refine ⟨rfl, ?_⟩
  rw [show (c.fa.map D.int).set i.toNat (.int (c.touched i.toNat).time) = (c.filled i.toNat).fa.map D.int by rw [← List.map_set]; rfl] at h
  exact h.up 1
theorem emptied_ok (h : Hs (chL p c ++ As) S) (hn : ChN c n) (h0 : 0 ≤ i) (hi : i < n) : Ok (f_Chooser_emptied [.ref p.o, .int i] S) fun v S' => v = .non ∧ Hs (chL p (c.emptied i.toNat) ++ As) S' := by
  replace h : Hs (pt p.o (chO p c) :: pt p.f (.lst (c.fa.map .int)) :: pt p.u (.lst (c.ua.map .int)) :: pt p.b (.lst (c.bits.map .int)) :: As) S := h
  rw [f_Chooser_emptied_eq]
  refine Ok.def rfl ?_
  have a := h.at 0
  unfold chO at a
  simp (decide := true) [wpe_ret, wpe_exc, wpe_bind, wps_nx, wps_ret, wps_bk, wps_ct, wps_exc, wps_bindS, wps_seq, wps_xSeq, wps_toS, wpe_nox, defQ_ret, defQ_exc, wps_if, cn_k, cn_x, cx_n, cx_q, wpe_lst, wpe_dnew, wps_xSetF, wps_xAugF, wps_xDPut, gSub_eq, wpe_xMake, wps_xFor, wps_xForE, wpe_xLc, loopQ_ct, loopQ_bk, loopQ_ret, loopQ_exc, wpe_iteBad, wps_iteBad, oIC_wp, bList_wp, bListT_wp, oSlL_wp, oCat_wp, bListD_wp, mkRg_wp, bSet_wp, xSortSet_wp, cDiv_lit, cMul_litL, cMul_litR, rngOk_lit, rngOk_m1, -bList_tup, iR3, xLRg1, xLRg2, xErrF, xIsE, xRaise, RS.unset, RS.noexc, xNext, xAsg, gNameX, gConsX, gNilX, gTupX, xVar, xC, xOp, xUn, oI_int, oNeg_int, xB, asB_bl, xRet, xRetN, xDrop, xBreak, xCont, xCons, xNil, xTup, xCB, xCall, xCallX, xAnd, xOr, xNot, xAndV, xOrV, xNotV, xIf, xYes, xTru, truD, xIsN, xNotN, nonD, xFld, xMeth, xMethX, xBM, xDGet, xDIn, xPart, xNoPart, xSl, nox_ok, toS_ok, finX, iR1, iR2, iL, iT, iE, iZ, xAug, xAssert, str_beq, insX, putFX, putX, valX, keyD_int, keyD_str, List.lookup, oInSet, xDisp, xPCons, xPNil, keysX, mergeX, rdL_app_ge, rdL_app_self, rdL_zero, rdL_succ, at_app_ge, at_app_self, at_zero, at_succ, a]
  refine wpe_setL (h.up 3) (ix_set h0 (by rw [hn.b]; exact hi)) ?_
  intro S h
  refine ⟨rfl, ?_⟩
  rw [show (c.bits.map D.int).set i.toNat (.int 0) = (c.bits.set i.toNat 0).map D.int by rw [List.map_set]] at h
  exact h.dn 3
theorem zeros_ok (h : Hs As S) (hn : n ≤ 1000) : Ok (f_zeros [.int n] S) fun v S' => ∃ q, v = .ref q ∧ Hs (pt q (.lst ((List.replicate n (0 : Int)).map .int)) :: As) S' := by
  rw [f_zeros_eq]
  refine Ok.def rfl ?_
  simp (decide := true) [wpe_ret, wpe_exc, wpe_bind, wps_nx, wps_ret, wps_bk, wps_ct, wps_exc, wps_bindS, wps_seq, wps_xSeq, wps_toS, wpe_nox, defQ_ret, defQ_exc, wps_if, cn_k, cn_x, cx_n, cx_q, wpe_lst, wpe_dnew, wps_xSetF, wps_xAugF, wps_xDPut, gSub_eq, wpe_xMake, wps_xFor, wps_xForE, wpe_xLc, loopQ_ct, loopQ_bk, loopQ_ret, loopQ_exc, wpe_iteBad, wps_iteBad, oIC_wp, bList_wp, bListT_wp, oSlL_wp, oCat_wp, bListD_wp, mkRg_wp, bSet_wp, xSortSet_wp, cDiv_lit, cMul_litL, cMul_litR, rngOk_lit, rngOk_m1, -bList_tup, iR3, xLRg1, xLRg2, xErrF, xIsE, xRaise, RS.unset, RS.noexc, xNext, xAsg, gNameX, gConsX, gNilX, gTupX, xVar, xC, xOp, xUn, oI_int, oNeg_int, xB, asB_bl, xRet, xRetN, xDrop, xBreak, xCont, xCons, xNil, xTup, xCB, xCall, xCallX, xAnd, xOr, xNot, xAndV, xOrV, xNotV, xIf, xYes, xTru, truD, xIsN, xNotN, nonD, xFld, xMeth, xMethX, xBM, xDGet, xDIn, xPart, xNoPart, xSl, nox_ok, toS_ok, finX, iR1, iR2, iL, iT, iE, iZ, xAug, xAssert, str_beq, insX, putFX, putX, valX, keyD_int, keyD_str, List.lookup, oInSet, xDisp, xPCons, xPNil, keysX, mergeX, rdL_app_ge, rdL_app_self, rdL_zero, rdL_succ, at_app_ge, at_app_self, at_zero, at_succ, f_zeros_c1]
  refine ⟨rngOk (by omega), ?_⟩
  refine wpe_compQ (fun i acc => acc = (List.replicate i (0 : Int)).map .int) h rfl (fun _ _ _ => trivial) ?_ (by rw [rngD_len]; omega) ?_
  · rintro i x acc Bs S hx rfl h
    simp (decide := true) [wpe_ret, wpe_exc, wpe_bind, wps_nx, wps_ret, wps_bk, wps_ct, wps_exc, wps_bindS, wps_seq, wps_xSeq, wps_toS, wpe_nox, defQ_ret, defQ_exc, wps_if, cn_k, cn_x, cx_n, cx_q, wpe_lst, wpe_dnew, wps_xSetF, wps_xAugF, wps_xDPut, gSub_eq, wpe_xMake, wps_xFor, wps_xForE, wpe_xLc, loopQ_ct, loopQ_bk, loopQ_ret, loopQ_exc, wpe_iteBad, wps_iteBad, oIC_wp, bList_wp, bListT_wp, oSlL_wp, oCat_wp, bListD_wp, mkRg_wp, bSet_wp, xSortSet_wp, cDiv_lit, cMul_litL, cMul_litR, rngOk_lit, rngOk_m1, -bList_tup, iR3, xLRg1, xLRg2, xErrF, xIsE, xRaise, RS.unset, RS.noexc, xNext, xAsg, gNameX, gConsX, gNilX, gTupX, xVar, xC, xOp, xUn, oI_int, oNeg_int, xB, asB_bl, xRet, xRetN, xDrop, xBreak, xCont, xCons, xNil, xTup, xCB, xCall, xCallX, xAnd, xOr, xNot, xAndV, xOrV, xNotV, xIf, xYes, xTru, truD, xIsN, xNotN, nonD, xFld, xMeth, xMethX, xBM, xDGet, xDIn, xPart, xNoPart, xSl, nox_ok, toS_ok, finX, iR1, iR2, iL, iT, iE, iZ, xAug, xAssert, str_beq, insX, putFX, putX, valX, keyD_int, keyD_str, List.lookup, oInSet, xDisp, xPCons, xPNil, keysX, mergeX, rdL_app_ge, rdL_app_self, rdL_zero, rdL_succ, at_app_ge, at_app_self, at_zero, at_succ, wipeE]
    refine ⟨?_, h⟩
    rw [List.replicate_succ']
  · rintro q S acc rfl _ h
    rw [rngD_len] at h
    exact ⟨q, rfl, h⟩
theorem init_ok {o : Nat} {k : Str} (h : Hs (pt o (.ins "Chooser" []) :: As) S) (hn : n ≤ 1000) : Ok (f_Chooser___init__ [.ref o, .str k, .int n] S) fun v S' => v = .non ∧ ∃ p : ChP, p.o = o ∧ Hs (chL p (Ch.new k n) ++ As) S' := by
  rw [f_Chooser___init___eq]
  refine Ok.def rfl ?_
  simp (decide := true) [wpe_ret, wpe_exc, wpe_bind, wps_nx, wps_ret, wps_bk, wps_ct, wps_exc, wps_bindS, wps_seq, wps_xSeq, wps_toS, wpe_nox, defQ_ret, defQ_exc, wps_if, cn_k, cn_x, cx_n, cx_q, wpe_lst, wpe_dnew, wps_xSetF, wps_xAugF, wps_xDPut, gSub_eq, wpe_xMake, wps_xFor, wps_xForE, wpe_xLc, loopQ_ct, loopQ_bk, loopQ_ret, loopQ_exc, wpe_iteBad, wps_iteBad, oIC_wp, bList_wp, bListT_wp, oSlL_wp, oCat_wp, bListD_wp, mkRg_wp, bSet_wp, xSortSet_wp, cDiv_lit, cMul_litL, cMul_litR, rngOk_lit, rngOk_m1, -bList_tup, iR3, xLRg1, xLRg2, xErrF, xIsE, xRaise, RS.unset, RS.noexc, xNext, xAsg, gNameX, gConsX, gNilX, gTupX, xVar, xC, xOp, xUn, oI_int, oNeg_int, xB, asB_bl, xRet, xRetN, xDrop, xBreak, xCont, xCons, xNil, xTup, xCB, xCall, xCallX, xAnd, xOr, xNot, xAndV, xOrV, xNotV, xIf, xYes, xTru, truD, xIsN, xNotN, nonD, xFld, xMeth, xMethX, xBM, xDGet, xDIn, xPart, xNoPart, xSl, nox_ok, toS_ok, finX, iR1, iR2, iL, iT, iE, iZ, xAug, xAssert, str_beq, insX, putFX, putX, valX, keyD_int, keyD_str, List.lookup, oInSet, xDisp, xPCons, xPNil, keysX, mergeX, rdL_app_ge, rdL_app_self, rdL_zero, rdL_succ, at_app_ge, at_app_self, at_zero, at_succ]
  refine wps_setF h (by simp) ?_
  intro S h
  simp (decide := true) [wpe_ret, wpe_exc, wpe_bind, wps_nx, wps_ret, wps_bk, wps_ct, wps_exc, wps_bindS, wps_seq, wps_xSeq, wps_toS, wpe_nox, defQ_ret, defQ_exc, wps_if, cn_k, cn_x, cx_n, cx_q, wpe_lst, wpe_dnew, wps_xSetF, wps_xAugF, wps_xDPut, gSub_eq, wpe_xMake, wps_xFor, wps_xForE, wpe_xLc, loopQ_ct, loopQ_bk, loopQ_ret, loopQ_exc, wpe_iteBad, wps_iteBad, oIC_wp, bList_wp, bListT_wp, oSlL_wp, oCat_wp, bListD_wp, mkRg_wp, bSet_wp, xSortSet_wp, cDiv_lit, cMul_litL, cMul_litR, rngOk_lit, rngOk_m1, -bList_tup, iR3, xLRg1, xLRg2, xErrF, xIsE, xRaise, RS.unset, RS.noexc, xNext, xAsg, gNameX, gConsX, gNilX, gTupX, xVar, xC, xOp, xUn, oI_int, oNeg_int, xB, asB_bl, xRet, xRetN, xDrop, xBreak, xCont, xCons, xNil, xTup, xCB, xCall, xCallX, xAnd, xOr, xNot, xAndV, xOrV, xNotV, xIf, xYes, xTru, truD, xIsN, xNotN, nonD, xFld, xMeth, xMethX, xBM, xDGet, xDIn, xPart, xNoPart, xSl, nox_ok, toS_ok, finX, iR1, iR2, iL, iT, iE, iZ, xAug, xAssert, str_beq, insX, putFX, putX, valX, keyD_int, keyD_str, List.lookup, oInSet, xDisp, xPCons, xPNil, keysX, mergeX, rdL_app_ge, rdL_app_self, rdL_zero, rdL_succ, at_app_ge, at_app_self, at_zero, at_succ]
  refine wps_setF h (by simp (decide := true) [putFX]) ?_
  intro S h
  simp (decide := true) [wpe_ret, wpe_exc, wpe_bind, wps_nx, wps_ret, wps_bk, wps_ct, wps_exc, wps_bindS, wps_seq, wps_xSeq, wps_toS, wpe_nox, defQ_ret, defQ_exc, wps_if, cn_k, cn_x, cx_n, cx_q, wpe_lst, wpe_dnew, wps_xSetF, wps_xAugF, wps_xDPut, gSub_eq, wpe_xMake, wps_xFor, wps_xForE, wpe_xLc, loopQ_ct, loopQ_bk, loopQ_ret, loopQ_exc, wpe_iteBad, wps_iteBad, oIC_wp, bList_wp, bListT_wp, oSlL_wp, oCat_wp, bListD_wp, mkRg_wp, bSet_wp, xSortSet_wp, cDiv_lit, cMul_litL, cMul_litR, rngOk_lit, rngOk_m1, -bList_tup, iR3, xLRg1, xLRg2, xErrF, xIsE, xRaise, RS.unset, RS.noexc, xNext, xAsg, gNameX, gConsX, gNilX, gTupX, xVar, xC, xOp, xUn, oI_int, oNeg_int, xB, asB_bl, xRet, xRetN, xDrop, xBreak, xCont, xCons, xNil, xTup, xCB, xCall, xCallX, xAnd, xOr, xNot, xAndV, xOrV, xNotV, xIf, xYes, xTru, truD, xIsN, xNotN, nonD, xFld, xMeth, xMethX, xBM, xDGet, xDIn, xPart, xNoPart, xSl, nox_ok, toS_ok, finX, iR1, iR2, iL, iT, iE, iZ, xAug, xAssert, str_beq, insX, putFX, putX, valX, keyD_int, keyD_str, List.lookup, oInSet, xDisp, xPCons, xPNil, keysX, mergeX, rdL_app_ge, rdL_app_self, rdL_zero, rdL_succ, at_app_ge, at_app_self, at_zero, at_succ]
  refine wpe_k (zeros_ok h hn) ?_
  rintro _ S ⟨f, rfl, h⟩
  simp (decide := true) [wpe_ret, wpe_exc, wpe_bind, wps_nx, wps_ret, wps_bk, wps_ct, wps_exc, wps_bindS, wps_seq, wps_xSeq, wps_toS, wpe_nox, defQ_ret, defQ_exc, wps_if, cn_k, cn_x, cx_n, cx_q, wpe_lst, wpe_dnew, wps_xSetF, wps_xAugF, wps_xDPut, gSub_eq, wpe_xMake, wps_xFor, wps_xForE, wpe_xLc, loopQ_ct, loopQ_bk, loopQ_ret, loopQ_exc, wpe_iteBad, wps_iteBad, oIC_wp, bList_wp, bListT_wp, oSlL_wp, oCat_wp, bListD_wp, mkRg_wp, bSet_wp, xSortSet_wp, cDiv_lit, cMul_litL, cMul_litR, rngOk_lit, rngOk_m1, -bList_tup, iR3, xLRg1, xLRg2, xErrF, xIsE, xRaise, RS.unset, RS.noexc, xNext, xAsg, gNameX, gConsX, gNilX, gTupX, xVar, xC, xOp, xUn, oI_int, oNeg_int, xB, asB_bl, xRet, xRetN, xDrop, xBreak, xCont, xCons, xNil, xTup, xCB, xCall, xCallX, xAnd, xOr, xNot, xAndV, xOrV, xNotV, xIf, xYes, xTru, truD, xIsN, xNotN, nonD, xFld, xMeth, xMethX, xBM, xDGet, xDIn, xPart, xNoPart, xSl, nox_ok, toS_ok, finX, iR1, iR2, iL, iT, iE, iZ, xAug, xAssert, str_beq, insX, putFX, putX, valX, keyD_int, keyD_str, List.lookup, oInSet, xDisp, xPCons, xPNil, keysX, mergeX, rdL_app_ge, rdL_app_self, rdL_zero, rdL_succ, at_app_ge, at_app_self, at_zero, at_succ]
  refine wps_setF (h.up 1) (by simp (decide := true) [putFX]) ?_
  intro S h
  simp (decide := true) [wpe_ret, wpe_exc, wpe_bind, wps_nx, wps_ret, wps_bk, wps_ct, wps_exc, wps_bindS, wps_seq, wps_xSeq, wps_toS, wpe_nox, defQ_ret, defQ_exc, wps_if, cn_k, cn_x, cx_n, cx_q, wpe_lst, wpe_dnew, wps_xSetF, wps_xAugF, wps_xDPut, gSub_eq, wpe_xMake, wps_xFor, wps_xForE, wpe_xLc, loopQ_ct, loopQ_bk, loopQ_ret, loopQ_exc, wpe_iteBad, wps_iteBad, oIC_wp, bList_wp, bListT_wp, oSlL_wp, oCat_wp, bListD_wp, mkRg_wp, bSet_wp, xSortSet_wp, cDiv_lit, cMul_litL, cMul_litR, rngOk_lit, rngOk_m1, -bList_tup, iR3, xLRg1, xLRg2, xErrF, xIsE, xRaise, RS.unset, RS.noexc, xNext, xAsg, gNameX, gConsX, gNilX, gTupX, xVar, xC, xOp, xUn, oI_int, oNeg_int, xB, asB_bl, xRet, xRetN, xDrop, xBreak, xCont, xCons, xNil, xTup, xCB, xCall, xCallX, xAnd, xOr, xNot, xAndV, xOrV, xNotV, xIf, xYes, xTru, truD, xIsN, xNotN, nonD, xFld, xMeth, xMethX, xBM, xDGet, xDIn, xPart, xNoPart, xSl, nox_ok, toS_ok, finX, iR1, iR2, iL, iT, iE, iZ, xAug, xAssert, str_beq, insX, putFX, putX, valX, keyD_int, keyD_str, List.lookup, oInSet, xDisp, xPCons, xPNil, keysX, mergeX, rdL_app_ge, rdL_app_self, rdL_zero, rdL_succ, at_app_ge, at_app_self, at_zero, at_succ]
  refine wpe_k (zeros_ok h hn) ?_
  rintro _ S ⟨u, rfl, h⟩
  simp (decide := true) [wpe_ret, wpe_exc, wpe_bind, wps_nx, wps_ret, wps_bk, wps_ct, wps_exc, wps_bindS, wps_seq, wps_xSeq, wps_toS, wpe_nox, defQ_ret, defQ_exc, wps_if, cn_k, cn_x, cx_n, cx_q, wpe_lst, wpe_dnew, wps_xSetF, wps_xAugF, wps_xDPut, gSub_eq, wpe_xMake, wps_xFor, wps_xForE, wpe_xLc, loopQ_ct, loopQ_bk, loopQ_ret, loopQ_exc, wpe_iteBad, wps_iteBad, oIC_wp, bList_wp, bListT_wp, oSlL_wp, oCat_wp, bListD_wp, mkRg_wp, bSet_wp, xSortSet_wp, cDiv_lit, cMul_litL, cMul_litR, rngOk_lit, rngOk_m1, -bList_tup, iR3, xLRg1, xLRg2, xErrF, xIsE, xRaise, RS.unset, RS.noexc, xNext, xAsg, gNameX, gConsX, gNilX, gTupX, xVar, xC, xOp, xUn, oI_int, oNeg_int, xB, asB_bl, xRet, xRetN, xDrop, xBreak, xCont, xCons, xNil, xTup, xCB, xCall, xCallX, xAnd, xOr, xNot, xAndV, xOrV, xNotV, xIf, xYes, xTru, truD, xIsN, xNotN, nonD, xFld, xMeth, xMethX, xBM, xDGet, xDIn, xPart, xNoPart, xSl, nox_ok, toS_ok, finX, iR1, iR2, iL, iT, iE, iZ, xAug, xAssert, str_beq, insX, putFX, putX, valX, keyD_int, keyD_str, List.lookup, oInSet, xDisp, xPCons, xPNil, keysX, mergeX, rdL_app_ge, rdL_app_self, rdL_zero, rdL_succ, at_app_ge, at_app_self, at_zero, at_succ]
  refine wps_setF (h.up 1) (by simp (decide := true) [putFX]) ?_
  intro S h
  simp (decide := true) [wpe_ret, wpe_exc, wpe_bind, wps_nx, wps_ret, wps_bk, wps_ct, wps_exc, wps_bindS, wps_seq, wps_xSeq, wps_toS, wpe_nox, defQ_ret, defQ_exc, wps_if, cn_k, cn_x, cx_n, cx_q, wpe_lst, wpe_dnew, wps_xSetF, wps_xAugF, wps_xDPut, gSub_eq, wpe_xMake, wps_xFor, wps_xForE, wpe_xLc, loopQ_ct, loopQ_bk, loopQ_ret, loopQ_exc, wpe_iteBad, wps_iteBad, oIC_wp, bList_wp, bListT_wp, oSlL_wp, oCat_wp, bListD_wp, mkRg_wp, bSet_wp, xSortSet_wp, cDiv_lit, cMul_litL, cMul_litR, rngOk_lit, rngOk_m1, -bList_tup, iR3, xLRg1, xLRg2, xErrF, xIsE, xRaise, RS.unset, RS.noexc, xNext, xAsg, gNameX, gConsX, gNilX, gTupX, xVar, xC, xOp, xUn, oI_int, oNeg_int, xB, asB_bl, xRet, xRetN, xDrop, xBreak, xCont, xCons, xNil, xTup, xCB, xCall, xCallX, xAnd, xOr, xNot, xAndV, xOrV, xNotV, xIf, xYes, xTru, truD, xIsN, xNotN, nonD, xFld, xMeth, xMethX, xBM, xDGet, xDIn, xPart, xNoPart, xSl, nox_ok, toS_ok, finX, iR1, iR2, iL, iT, iE, iZ, xAug, xAssert, str_beq, insX, putFX, putX, valX, keyD_int, keyD_str, List.lookup, oInSet, xDisp, xPCons, xPNil, keysX, mergeX, rdL_app_ge, rdL_app_self, rdL_zero, rdL_succ, at_app_ge, at_app_self, at_zero, at_succ]
  refine wpe_k (zeros_ok h hn) ?_
  rintro _ S ⟨b, rfl, h⟩
  simp (decide := true) [wpe_ret, wpe_exc, wpe_bind, wps_nx, wps_ret, wps_bk, wps_ct, wps_exc, wps_bindS, wps_seq, wps_xSeq, wps_toS, wpe_nox, defQ_ret, defQ_exc, wps_if, cn_k, cn_x, cx_n, cx_q, wpe_lst, wpe_dnew, wps_xSetF, wps_xAugF, wps_xDPut, gSub_eq, wpe_xMake, wps_xFor, wps_xForE, wpe_xLc, loopQ_ct, loopQ_bk, loopQ_ret, loopQ_exc, wpe_iteBad, wps_iteBad, oIC_wp, bList_wp, bListT_wp, oSlL_wp, oCat_wp, bListD_wp, mkRg_wp, bSet_wp, xSortSet_wp, cDiv_lit, cMul_litL, cMul_litR, rngOk_lit, rngOk_m1, -bList_tup, iR3, xLRg1, xLRg2, xErrF, xIsE, xRaise, RS.unset, RS.noexc, xNext, xAsg, gNameX, gConsX, gNilX, gTupX, xVar, xC, xOp, xUn, oI_int, oNeg_int, xB, asB_bl, xRet, xRetN, xDrop, xBreak, xCont, xCons, xNil, xTup, xCB, xCall, xCallX, xAnd, xOr, xNot, xAndV, xOrV, xNotV, xIf, xYes, xTru, truD, xIsN, xNotN, nonD, xFld, xMeth, xMethX, xBM, xDGet, xDIn, xPart, xNoPart, xSl, nox_ok, toS_ok, finX, iR1, iR2, iL, iT, iE, iZ, xAug, xAssert, str_beq, insX, putFX, putX, valX, keyD_int, keyD_str, List.lookup, oInSet, xDisp, xPCons, xPNil, keysX, mergeX, rdL_app_ge, rdL_app_self, rdL_zero, rdL_succ, at_app_ge, at_app_self, at_zero, at_succ]
  refine wps_setF (h.up 1) (by simp (decide := true) [putFX]) ?_
  intro S h
  simp (decide := true) [wpe_ret, wpe_exc, wpe_bind, wps_nx, wps_ret, wps_bk, wps_ct, wps_exc, wps_bindS, wps_seq, wps_xSeq, wps_toS, wpe_nox, defQ_ret, defQ_exc, wps_if, cn_k, cn_x, cx_n, cx_q, wpe_lst, wpe_dnew, wps_xSetF, wps_xAugF, wps_xDPut, gSub_eq, wpe_xMake, wps_xFor, wps_xForE, wpe_xLc, loopQ_ct, loopQ_bk, loopQ_ret, loopQ_exc, wpe_iteBad, wps_iteBad, oIC_wp, bList_wp, bListT_wp, oSlL_wp, oCat_wp, bListD_wp, mkRg_wp, bSet_wp, xSortSet_wp, cDiv_lit, cMul_litL, cMul_litR, rngOk_lit, rngOk_m1, -bList_tup, iR3, xLRg1, xLRg2, xErrF, xIsE, xRaise, RS.unset, RS.noexc, xNext, xAsg, gNameX, gConsX, gNilX, gTupX, xVar, xC, xOp, xUn, oI_int, oNeg_int, xB, asB_bl, xRet, xRetN, xDrop, xBreak, xCont, xCons, xNil, xTup, xCB, xCall, xCallX, xAnd, xOr, xNot, xAndV, xOrV, xNotV, xIf, xYes, xTru, truD, xIsN, xNotN, nonD, xFld, xMeth, xMethX, xBM, xDGet, xDIn, xPart, xNoPart, xSl, nox_ok, toS_ok, finX, iR1, iR2, iL, iT, iE, iZ, xAug, xAssert, str_beq, insX, putFX, putX, valX, keyD_int, keyD_str, List.lookup, oInSet, xDisp, xPCons, xPNil, keysX, mergeX, rdL_app_ge, rdL_app_self, rdL_zero, rdL_succ, at_app_ge, at_app_self, at_zero, at_succ]
  refine wps_setF h (by simp (decide := true) [putFX]) ?_
  intro S h
  refine ⟨rfl, ⟨o, f, u, b⟩, rfl, ?_⟩
  simp (decide := true) only [putFX, reduceIte] at h
  exact (((h.up 1).dn 3).up 1).dn 2
end
end

section
open Mi
/-! ### what is chosen -/
def kfL (xs : List Int) (n : Int) : Int := xs.getD n.toNat 0
def bst (k : Str) (kf : Int → Int) (b : Int) (l : List Int) : Int := if k = "newest" then KeyL.bMax kf b l else KeyL.bMin kf b l
def choice (k : Str) (f u : List Int) (n0 : Int) (r : List Int) : Int := bst k (kfL (if k = "lru" then u else f)) n0 r
theorem bMin_iso {kf kf' : Int → Int} : ∀ {l : List Int} {b : Int}, (∀ x ∈ b :: l, ∀ y ∈ b :: l, (kf x < kf y ↔ kf' x < kf' y)) → KeyL.bMin kf b l = KeyL.bMin kf' b l
  | [], _, _ => rfl
  | n :: l, b, h => by
    have e : (if kf n < kf b then n else b) = (if kf' n < kf' b then n else b) := by
      have := h n (by simp) b (by simp)
      by_cases z : kf n < kf b
      · rw [if_pos z, if_pos (this.mp z)]
      · rw [if_neg z, if_neg (fun q => z (this.mpr q))]
    rw [KeyL.bMin, KeyL.bMin, e]
    refine bMin_iso fun x hx y hy => h x ?_ y ?_
    · rcases List.mem_cons.mp hx with rfl | hx
      · split <;> simp
      · simp [hx]
    · rcases List.mem_cons.mp hy with rfl | hy
      · split <;> simp
      · simp [hy]
theorem bMax_iso {kf kf' : Int → Int} : ∀ {l : List Int} {b : Int}, (∀ x ∈ b :: l, ∀ y ∈ b :: l, (kf x < kf y ↔ kf' x < kf' y)) → KeyL.bMax kf b l = KeyL.bMax kf' b l
  | [], _, _ => rfl
  | n :: l, b, h => by
    have e : (if kf n > kf b then n else b) = (if kf' n > kf' b then n else b) := by
      have := h b (by simp) n (by simp)
      by_cases z : kf n > kf b
      · rw [if_pos z, if_pos (this.mp z)]
      · rw [if_neg z, if_neg (fun q => z (this.mpr q))]
    rw [KeyL.bMax, KeyL.bMax, e]
    refine bMax_iso fun x hx y hy => h x ?_ y ?_
    · rcases List.mem_cons.mp hx with rfl | hx
      · split <;> simp
      · simp [hx]
    · rcases List.mem_cons.mp hy with rfl | hy
      · split <;> simp
      · simp [hy]
theorem bst_iso {k : Str} {kf kf' : Int → Int} {l : List Int} {b : Int} (h : ∀ x ∈ b :: l, ∀ y ∈ b :: l, (kf x < kf y ↔ kf' x < kf' y)) : bst k kf b l = bst k kf' b l := by
  unfold bst
  split
  · exact bMax_iso h
  · exact bMin_iso h
theorem bMin_snoc {kf : Int → Int} {x : Int} : ∀ {l : List Int} {b : Int}, KeyL.bMin kf b (l ++ [x]) = if kf x < kf (KeyL.bMin kf b l) then x else KeyL.bMin kf b l
  | [], _ => rfl
  | _ :: l, _ => bMin_snoc (l := l)
theorem bMax_snoc {kf : Int → Int} {x : Int} : ∀ {l : List Int} {b : Int}, KeyL.bMax kf b (l ++ [x]) = if kf x > kf (KeyL.bMax kf b l) then x else KeyL.bMax kf b l
  | [], _ => rfl
  | _ :: l, _ => bMax_snoc (l := l)
theorem bst_mem {k : Str} {kf : Int → Int} : ∀ {l : List Int} {b : Int}, bst k kf b l ∈ b :: l := fun {l b} => by
  have m1 : ∀ {l : List Int} {b : Int}, KeyL.bMin kf b l ∈ b :: l := fun {l} => by
    induction l with
    | nil => intro b; simp [KeyL.bMin]
    | cons n l ih =>
      intro b
      rw [KeyL.bMin]
      have := ih (b := if kf n < kf b then n else b)
      rcases List.mem_cons.mp this with e | e
      · rw [e]; split <;> simp
      · simp [e]
  have m2 : ∀ {l : List Int} {b : Int}, KeyL.bMax kf b l ∈ b :: l := fun {l} => by
    induction l with
    | nil => intro b; simp [KeyL.bMax]
    | cons n l ih =>
      intro b
      rw [KeyL.bMax]
      have := ih (b := if kf n > kf b then n else b)
      rcases List.mem_cons.mp this with e | e
      · rw [e]; split <;> simp
      · simp [e]
  unfold bst
  split
  · exact m2
  · exact m1
theorem bst_cons {k : Str} {kf : Int → Int} {l : List Int} {b : Int} : bst k kf b (b :: l) = bst k kf b l := by
  unfold bst
  rw [KeyL.bMax, KeyL.bMin]
  simp
def KindOk (k : Str) : Prop := k = "lru" ∨ k = "fifo" ∨ k = "newest"
section
variable {As : List Asn} {S : Sto} {p : ChP} {c : Ch} {n : Nat} {l g : Nat} {n0 : Int} {r xs : List Int} {env : Mi.Env}
theorem kfL_at {i : Int} (h0 : 0 ≤ i) (h : i < xs.length) : atI (xs.map D.int) i = some (.int (kfL xs i)) := by
  have e : xs[i.toNat]? = some (kfL xs i) := by
    unfold kfL
    rw [List.getD_eq_getElem?_getD, List.getElem?_eq_getElem (by omega)]
    rfl
  exact atI_int h0 e
theorem keyF_eq {i : Int} (h0 : 0 ≤ i) (h : i < xs.length) : keyF (xs.map D.int) i = kfL xs i := by
  unfold keyF
  rw [kfL_at h0 h]
theorem xKey_eq {best : (Int → Int) → Int → List Int → Int} {j : Nat} {T0 : List TabD} {fa : Mi.Env → Sto → R D} (ht : at_ S 1 = some (.tbls T0)) (hl : rdL S l = some ((n0 :: r).map .int)) (hg : rdL S g = some (xs.map .int)) (hb : ∀ i ∈ n0 :: r, 0 ≤ i ∧ i < (xs.length : Int))
    (ea : fa env S = .ok (.ref l) S) (ej : env[j]? = some (some (.ref g))) : xKey best T0 j fa env S = .ok (.int (best (keyF (xs.map .int)) n0 r)) S := by
  have k : keysOk (xs.map .int) (n0 :: r) := fun i hi => ⟨_, kfL_at (hb i hi).1 (hb i hi).2⟩
  unfold xKey
  rw [ea]
  show (match (D.ref l), env[j]? with
    | .ref l, some (some (.ref g)) => _
    | _, _ => _) = _
  rw [ej]
  dsimp only
  rw [hl, hg, Option.bind_some, intsOf_map]
  dsimp only
  rw [if_pos ⟨ht, k⟩]
theorem choose_ok (h : Hs (chL p c ++ As) S) (hn : ChN c n) (hk : KindOk c.kind) (ht : at_ S 1 = some (.tbls tabs0)) (hr : rdL S l = some ((n0 :: r).map .int)) (hb : ∀ i ∈ n0 :: r, 0 ≤ i ∧ i < (n : Int)) : Ok (f_Chooser_choose [.ref p.o, .ref l] S) fun v S' => v = .int (choice c.kind c.fa c.ua n0 r) ∧ S' = S := by
  replace h : Hs (pt p.o (chO p c) :: pt p.f (.lst (c.fa.map .int)) :: pt p.u (.lst (c.ua.map .int)) :: pt p.b (.lst (c.bits.map .int)) :: As) S := h
  obtain ⟨kind, time, fa, ua, bits, ptr⟩ := c
  have hf : fa.length = n := hn.f
  have hu : ua.length = n := hn.u
  have h1 := h.rp 1
  have h2 := h.rp 2
  have a := h.at 0
  have kf1 : ∀ x ∈ n0 :: r, ∀ y ∈ n0 :: r, (keyF (fa.map .int) x < keyF (fa.map .int) y ↔ kfL fa x < kfL fa y) := fun x hx y hy => by
    rw [keyF_eq (hb x hx).1 (by rw [hf]; exact (hb x hx).2), keyF_eq (hb y hy).1 (by rw [hf]; exact (hb y hy).2)]
  have kf2 : ∀ x ∈ n0 :: r, ∀ y ∈ n0 :: r, (keyF (ua.map .int) x < keyF (ua.map .int) y ↔ kfL ua x < kfL ua y) := fun x hx y hy => by
    rw [keyF_eq (hb x hx).1 (by rw [hu]; exact (hb x hx).2), keyF_eq (hb y hy).1 (by rw [hu]; exact (hb y hy).2)]
  rw [f_Chooser_choose_eq]
  refine Ok.def rfl ?_
  unfold chO at a
  dsimp only at hk a h1 h2
  rcases hk with rfl | rfl | rfl
  · simp (decide := true) [wpe_ret, wpe_exc, wpe_bind, wps_nx, wps_ret, wps_bk, wps_ct, wps_exc, wps_bindS, wps_seq, wps_xSeq, wps_toS, wpe_nox, defQ_ret, defQ_exc, wps_if, cn_k, cn_x, cx_n, cx_q, wpe_lst, wpe_dnew, wps_xSetF, wps_xAugF, wps_xDPut, gSub_eq, wpe_xMake, wps_xFor, wps_xForE, wpe_xLc, loopQ_ct, loopQ_bk, loopQ_ret, loopQ_exc, wpe_iteBad, wps_iteBad, oIC_wp, bList_wp, bListT_wp, oSlL_wp, oCat_wp, bListD_wp, mkRg_wp, bSet_wp, xSortSet_wp, cDiv_lit, cMul_litL, cMul_litR, rngOk_lit, rngOk_m1, -bList_tup, iR3, xLRg1, xLRg2, xErrF, xIsE, xRaise, RS.unset, RS.noexc, xNext, xAsg, gNameX, gConsX, gNilX, gTupX, xVar, xC, xOp, xUn, oI_int, oNeg_int, xB, asB_bl, xRet, xRetN, xDrop, xBreak, xCont, xCons, xNil, xTup, xCB, xCall, xCallX, xAnd, xOr, xNot, xAndV, xOrV, xNotV, xIf, xYes, xTru, truD, xIsN, xNotN, nonD, xFld, xMeth, xMethX, xBM, xDGet, xDIn, xPart, xNoPart, xSl, nox_ok, toS_ok, finX, iR1, iR2, iL, iT, iE, iZ, xAug, xAssert, str_beq, insX, putFX, putX, valX, keyD_int, keyD_str, List.lookup, oInSet, xDisp, xPCons, xPNil, keysX, mergeX, rdL_app_ge, rdL_app_self, rdL_zero, rdL_succ, at_app_ge, at_app_self, at_zero, at_succ, a]
    rw [xKey_eq (g := p.u) (xs := ua) ht hr h2 (fun i hi => by rw [hu]; exact hb i hi) rfl rfl]
    refine ⟨?_, rfl⟩
    simp (decide := true) only [choice, bst, if_true, if_false]
    rw [bMin_iso kf2]
  · simp (decide := true) [wpe_ret, wpe_exc, wpe_bind, wps_nx, wps_ret, wps_bk, wps_ct, wps_exc, wps_bindS, wps_seq, wps_xSeq, wps_toS, wpe_nox, defQ_ret, defQ_exc, wps_if, cn_k, cn_x, cx_n, cx_q, wpe_lst, wpe_dnew, wps_xSetF, wps_xAugF, wps_xDPut, gSub_eq, wpe_xMake, wps_xFor, wps_xForE, wpe_xLc, loopQ_ct, loopQ_bk, loopQ_ret, loopQ_exc, wpe_iteBad, wps_iteBad, oIC_wp, bList_wp, bListT_wp, oSlL_wp, oCat_wp, bListD_wp, mkRg_wp, bSet_wp, xSortSet_wp, cDiv_lit, cMul_litL, cMul_litR, rngOk_lit, rngOk_m1, -bList_tup, iR3, xLRg1, xLRg2, xErrF, xIsE, xRaise, RS.unset, RS.noexc, xNext, xAsg, gNameX, gConsX, gNilX, gTupX, xVar, xC, xOp, xUn, oI_int, oNeg_int, xB, asB_bl, xRet, xRetN, xDrop, xBreak, xCont, xCons, xNil, xTup, xCB, xCall, xCallX, xAnd, xOr, xNot, xAndV, xOrV, xNotV, xIf, xYes, xTru, truD, xIsN, xNotN, nonD, xFld, xMeth, xMethX, xBM, xDGet, xDIn, xPart, xNoPart, xSl, nox_ok, toS_ok, finX, iR1, iR2, iL, iT, iE, iZ, xAug, xAssert, str_beq, insX, putFX, putX, valX, keyD_int, keyD_str, List.lookup, oInSet, xDisp, xPCons, xPNil, keysX, mergeX, rdL_app_ge, rdL_app_self, rdL_zero, rdL_succ, at_app_ge, at_app_self, at_zero, at_succ, a]
    rw [xKey_eq (g := p.f) (xs := fa) ht hr h1 (fun i hi => by rw [hf]; exact hb i hi) rfl rfl]
    refine ⟨?_, rfl⟩
    simp (decide := true) only [choice, bst, if_true, if_false]
    rw [bMin_iso kf1]
  · simp (decide := true) [wpe_ret, wpe_exc, wpe_bind, wps_nx, wps_ret, wps_bk, wps_ct, wps_exc, wps_bindS, wps_seq, wps_xSeq, wps_toS, wpe_nox, defQ_ret, defQ_exc, wps_if, cn_k, cn_x, cx_n, cx_q, wpe_lst, wpe_dnew, wps_xSetF, wps_xAugF, wps_xDPut, gSub_eq, wpe_xMake, wps_xFor, wps_xForE, wpe_xLc, loopQ_ct, loopQ_bk, loopQ_ret, loopQ_exc, wpe_iteBad, wps_iteBad, oIC_wp, bList_wp, bListT_wp, oSlL_wp, oCat_wp, bListD_wp, mkRg_wp, bSet_wp, xSortSet_wp, cDiv_lit, cMul_litL, cMul_litR, rngOk_lit, rngOk_m1, -bList_tup, iR3, xLRg1, xLRg2, xErrF, xIsE, xRaise, RS.unset, RS.noexc, xNext, xAsg, gNameX, gConsX, gNilX, gTupX, xVar, xC, xOp, xUn, oI_int, oNeg_int, xB, asB_bl, xRet, xRetN, xDrop, xBreak, xCont, xCons, xNil, xTup, xCB, xCall, xCallX, xAnd, xOr, xNot, xAndV, xOrV, xNotV, xIf, xYes, xTru, truD, xIsN, xNotN, nonD, xFld, xMeth, xMethX, xBM, xDGet, xDIn, xPart, xNoPart, xSl, nox_ok, toS_ok, finX, iR1, iR2, iL, iT, iE, iZ, xAug, xAssert, str_beq, insX, putFX, putX, valX, keyD_int, keyD_str, List.lookup, oInSet, xDisp, xPCons, xPNil, keysX, mergeX, rdL_app_ge, rdL_app_self, rdL_zero, rdL_succ, at_app_ge, at_app_self, at_zero, at_succ, a]
    rw [xKey_eq (g := p.f) (xs := fa) ht hr h1 (fun i hi => by rw [hf]; exact hb i hi) rfl rfl]
    refine ⟨?_, rfl⟩
    simp (decide := true) only [choice, bst, if_true, if_false]
    rw [bMax_iso kf1]
end
end

section
open Mi
/-! ### the plain chooser -/
structure PlP where
  d : Nat
  f : Nat
  u : Nat
  b : Nat
  l : Nat
structure Pln where
  kind : Str
  time : Int
  un : Int
  fi : List Int
  us : List Int
  bi : List Int
  fl : List Bool
def plO (p : PlP) (c : Pln) : O := .dK [(.inr "kind", .str c.kind), (.inr "time", .int c.time), (.inr "under", .int c.un), (.inr "filled", .ref p.f), (.inr "used", .ref p.u), (.inr "bits", .ref p.b), (.inr "full", .ref p.l)]
def plL (p : PlP) (c : Pln) : List Asn := [pt p.d (plO p c), pt p.f (.lst (c.fi.map .int)), pt p.u (.lst (c.us.map .int)), pt p.b (.lst (c.bi.map .int)), pt p.l (.lst (c.fl.map .bl))]
structure PlN (c : Pln) (n : Nat) : Prop where
  f : c.fi.length = n
  u : c.us.length = n
  b : c.bi.length = n
  l : c.fl.length = n
def Pln.touched (c : Pln) (i : Nat) : Pln := { c with time := c.time + 1, us := c.us.set i (c.time + 1), bi := c.bi.set i 1, fl := c.fl.set i true }
def Pln.filled (c : Pln) (i : Nat) : Pln := { c with time := c.time + 1, us := c.us.set i (c.time + 1), bi := c.bi.set i 1, fl := c.fl.set i true, fi := c.fi.set i (c.time + 1) }
def Pln.emptied (c : Pln) (i : Nat) : Pln := { c with time := c.time + 1, bi := c.bi.set i 0, fl := c.fl.set i false }
def Pln.new (k : Str) (n : Nat) : Pln := ⟨k, 0, 0, List.replicate n 0, List.replicate n 0, List.replicate n 0, List.replicate n false⟩
section
variable {As Bs : List Asn} {S : Sto} {p : PlP} {c : Pln} {n : Nat} {l g : Nat} {n0 : Int} {r xs : List Int} {env env0 : Mi.Env} {i : Int}
theorem wpe_disp {K : Cn D} {fp : Mi.Env → Sto → R (List (D × D))} (h : Hs As S) (k : ∀ l S', Hs (pt l (.dK []) :: As) S' → wpe (K := ⟨fun ps S1 => ∃ ks, keysX ps = some ks ∧ ks.length ≤ 15 ∧ ∃ Bs, Hs (pt l (.dK []) :: Bs) S1 ∧ ∀ S2, Hs (pt l (.dK (mergeX [] ks)) :: Bs) S2 → K.k (.ref l) S2, K.x⟩) (fp env S')) : wpe (xDisp fp env S) := by
  have q := k S.length _ (h.new (o := .dK []))
  show wpe (R.bind _ _)
  rw [wpe_bind]
  cases hf : fp env (S ++ [.dK []]) with
  | ok ps S1 =>
    rw [hf] at q
    obtain ⟨ks, e1, e2, Bs, h1, h2⟩ := q
    show wpe (match at_ S1 S.length, keysX ps with
      | some (.dK []), some ks => if ks.length ≤ 15 then _ else _
      | _, _ => _)
    rw [h1.at0, e1]
    dsimp only
    rw [if_pos e2]
    exact h2 _ h1.set
  | exc x fs S1 => rw [hf] at q; exact q
  | bad => rw [hf] at q; exact q
theorem wpe_const {K : Cn D} {d : D} {ok : Sto → Prop} {fe : Mi.Env → Sto → R D} {j : Nat} (h : Hs As S) (hn : n ≤ 1000) (hok : ∀ S, ok S) (he : ∀ e S, fe e S = .ok d S) (hj : ∀ x e S, ∃ e', gNameX j x e S = .ok e' S) (k : ∀ l S', Hs (pt l (.lst (List.replicate n d)) :: As) S' → K.k (.ref l) S') : wpe (compX ok (gNameX j) xYes fe env0 S.length (rngD 0 n) (S ++ [.lst []])) := by
  refine wpe_compQ (fun i acc => acc = List.replicate i d) h rfl (fun _ _ _ => hok _) ?_ (by rw [rngD_len]; omega) ?_
  · rintro i x acc Bs S hx rfl h
    obtain ⟨e', he'⟩ := hj x env0 S
    rw [he']
    show wpe (K := _) (fe _ S)
    rw [he]
    refine ⟨?_, h⟩
    rw [List.replicate_succ']
  · rintro q S acc rfl _ h
    rw [rngD_len] at h
    exact k q S h
theorem pnew_ok {k : Str} (h : Hs As S) (hn : n ≤ 1000) : Ok (f_l_chooser_new [.str k, .int n] S) fun v S' => ∃ p : PlP, v = .ref p.d ∧ Hs (plL p (Pln.new k n) ++ As) S' := by
  rw [f_l_chooser_new_eq]
  refine Ok.def rfl ?_
  simp only [xRet, wps_bindS]
  refine wpe_disp h ?_
  intro d S h
  have cst : ∀ {K : Cn D} {As : List Asn} {S : Sto} {x : D}, Hs As S → (∀ l S', Hs (pt l (.lst (List.replicate n x)) :: As) S' → K.k (.ref l) S') → wpe (compX (fun _ => True) (gNameX 2) xYes (xC x) (wipeE [some (.str k), some (.int n), none] [2]) S.length (rngD 0 n) (S ++ [.lst []])) := fun h k => wpe_const h hn (fun _ => trivial) (fun _ _ => rfl) (fun _ _ _ => ⟨_, rfl⟩) k
  simp (decide := true) [wpe_ret, wpe_exc, wpe_bind, wps_nx, wps_ret, wps_bk, wps_ct, wps_exc, wps_bindS, wps_seq, wps_xSeq, wps_toS, wpe_nox, defQ_ret, defQ_exc, wps_if, cn_k, cn_x, cx_n, cx_q, wpe_lst, wpe_dnew, wps_xSetF, wps_xAugF, wps_xDPut, gSub_eq, wpe_xMake, wps_xFor, wps_xForE, wpe_xLc, loopQ_ct, loopQ_bk, loopQ_ret, loopQ_exc, wpe_iteBad, wps_iteBad, oIC_wp, bList_wp, bListT_wp, oSlL_wp, oCat_wp, bListD_wp, mkRg_wp, bSet_wp, xSortSet_wp, cDiv_lit, cMul_litL, cMul_litR, rngOk_lit, rngOk_m1, -bList_tup, iR3, xLRg1, xLRg2, xErrF, xIsE, xRaise, RS.unset, RS.noexc, xNext, xAsg, gNameX, gConsX, gNilX, gTupX, xVar, xC, xOp, xUn, oI_int, oNeg_int, xB, asB_bl, xRet, xRetN, xDrop, xBreak, xCont, xCons, xNil, xTup, xCB, xCall, xCallX, xAnd, xOr, xNot, xAndV, xOrV, xNotV, xIf, xYes, xTru, truD, xIsN, xNotN, nonD, xFld, xMeth, xMethX, xBM, xDGet, xDIn, xPart, xNoPart, xSl, nox_ok, toS_ok, finX, iR1, iR2, iL, iT, iE, iZ, xAug, xAssert, str_beq, insX, putFX, putX, valX, keyD_int, keyD_str, List.lookup, oInSet, xDisp, xPCons, xPNil, keysX, mergeX, rdL_app_ge, rdL_app_self, rdL_zero, rdL_succ, at_app_ge, at_app_self, at_zero, at_succ, f_l_chooser_new_c4, -gNameX, -xC]
  refine ⟨rngOk (by omega), cst h ?_⟩
  intro f S h
  simp (decide := true) [wpe_ret, wpe_exc, wpe_bind, wps_nx, wps_ret, wps_bk, wps_ct, wps_exc, wps_bindS, wps_seq, wps_xSeq, wps_toS, wpe_nox, defQ_ret, defQ_exc, wps_if, cn_k, cn_x, cx_n, cx_q, wpe_lst, wpe_dnew, wps_xSetF, wps_xAugF, wps_xDPut, gSub_eq, wpe_xMake, wps_xFor, wps_xForE, wpe_xLc, loopQ_ct, loopQ_bk, loopQ_ret, loopQ_exc, wpe_iteBad, wps_iteBad, oIC_wp, bList_wp, bListT_wp, oSlL_wp, oCat_wp, bListD_wp, mkRg_wp, bSet_wp, xSortSet_wp, cDiv_lit, cMul_litL, cMul_litR, rngOk_lit, rngOk_m1, -bList_tup, iR3, xLRg1, xLRg2, xErrF, xIsE, xRaise, RS.unset, RS.noexc, xNext, xAsg, gNameX, gConsX, gNilX, gTupX, xVar, xC, xOp, xUn, oI_int, oNeg_int, xB, asB_bl, xRet, xRetN, xDrop, xBreak, xCont, xCons, xNil, xTup, xCB, xCall, xCallX, xAnd, xOr, xNot, xAndV, xOrV, xNotV, xIf, xYes, xTru, truD, xIsN, xNotN, nonD, xFld, xMeth, xMethX, xBM, xDGet, xDIn, xPart, xNoPart, xSl, nox_ok, toS_ok, finX, iR1, iR2, iL, iT, iE, iZ, xAug, xAssert, str_beq, insX, putFX, putX, valX, keyD_int, keyD_str, List.lookup, oInSet, xDisp, xPCons, xPNil, keysX, mergeX, rdL_app_ge, rdL_app_self, rdL_zero, rdL_succ, at_app_ge, at_app_self, at_zero, at_succ, f_l_chooser_new_c3, -gNameX, -xC]
  refine ⟨rngOk (by omega), cst h ?_⟩
  intro u S h
  simp (decide := true) [wpe_ret, wpe_exc, wpe_bind, wps_nx, wps_ret, wps_bk, wps_ct, wps_exc, wps_bindS, wps_seq, wps_xSeq, wps_toS, wpe_nox, defQ_ret, defQ_exc, wps_if, cn_k, cn_x, cx_n, cx_q, wpe_lst, wpe_dnew, wps_xSetF, wps_xAugF, wps_xDPut, gSub_eq, wpe_xMake, wps_xFor, wps_xForE, wpe_xLc, loopQ_ct, loopQ_bk, loopQ_ret, loopQ_exc, wpe_iteBad, wps_iteBad, oIC_wp, bList_wp, bListT_wp, oSlL_wp, oCat_wp, bListD_wp, mkRg_wp, bSet_wp, xSortSet_wp, cDiv_lit, cMul_litL, cMul_litR, rngOk_lit, rngOk_m1, -bList_tup, iR3, xLRg1, xLRg2, xErrF, xIsE, xRaise, RS.unset, RS.noexc, xNext, xAsg, gNameX, gConsX, gNilX, gTupX, xVar, xC, xOp, xUn, oI_int, oNeg_int, xB, asB_bl, xRet, xRetN, xDrop, xBreak, xCont, xCons, xNil, xTup, xCB, xCall, xCallX, xAnd, xOr, xNot, xAndV, xOrV, xNotV, xIf, xYes, xTru, truD, xIsN, xNotN, nonD, xFld, xMeth, xMethX, xBM, xDGet, xDIn, xPart, xNoPart, xSl, nox_ok, toS_ok, finX, iR1, iR2, iL, iT, iE, iZ, xAug, xAssert, str_beq, insX, putFX, putX, valX, keyD_int, keyD_str, List.lookup, oInSet, xDisp, xPCons, xPNil, keysX, mergeX, rdL_app_ge, rdL_app_self, rdL_zero, rdL_succ, at_app_ge, at_app_self, at_zero, at_succ, f_l_chooser_new_c2, -gNameX, -xC]
  refine ⟨rngOk (by omega), cst h ?_⟩
  intro b S h
  simp (decide := true) [wpe_ret, wpe_exc, wpe_bind, wps_nx, wps_ret, wps_bk, wps_ct, wps_exc, wps_bindS, wps_seq, wps_xSeq, wps_toS, wpe_nox, defQ_ret, defQ_exc, wps_if, cn_k, cn_x, cx_n, cx_q, wpe_lst, wpe_dnew, wps_xSetF, wps_xAugF, wps_xDPut, gSub_eq, wpe_xMake, wps_xFor, wps_xForE, wpe_xLc, loopQ_ct, loopQ_bk, loopQ_ret, loopQ_exc, wpe_iteBad, wps_iteBad, oIC_wp, bList_wp, bListT_wp, oSlL_wp, oCat_wp, bListD_wp, mkRg_wp, bSet_wp, xSortSet_wp, cDiv_lit, cMul_litL, cMul_litR, rngOk_lit, rngOk_m1, -bList_tup, iR3, xLRg1, xLRg2, xErrF, xIsE, xRaise, RS.unset, RS.noexc, xNext, xAsg, gNameX, gConsX, gNilX, gTupX, xVar, xC, xOp, xUn, oI_int, oNeg_int, xB, asB_bl, xRet, xRetN, xDrop, xBreak, xCont, xCons, xNil, xTup, xCB, xCall, xCallX, xAnd, xOr, xNot, xAndV, xOrV, xNotV, xIf, xYes, xTru, truD, xIsN, xNotN, nonD, xFld, xMeth, xMethX, xBM, xDGet, xDIn, xPart, xNoPart, xSl, nox_ok, toS_ok, finX, iR1, iR2, iL, iT, iE, iZ, xAug, xAssert, str_beq, insX, putFX, putX, valX, keyD_int, keyD_str, List.lookup, oInSet, xDisp, xPCons, xPNil, keysX, mergeX, rdL_app_ge, rdL_app_self, rdL_zero, rdL_succ, at_app_ge, at_app_self, at_zero, at_succ, f_l_chooser_new_c1, -gNameX, -xC]
  refine ⟨rngOk (by omega), cst h ?_⟩
  intro l S h
  simp (decide := true) [wpe_ret, wpe_exc, wpe_bind, wps_nx, wps_ret, wps_bk, wps_ct, wps_exc, wps_bindS, wps_seq, wps_xSeq, wps_toS, wpe_nox, defQ_ret, defQ_exc, wps_if, cn_k, cn_x, cx_n, cx_q, wpe_lst, wpe_dnew, wps_xSetF, wps_xAugF, wps_xDPut, gSub_eq, wpe_xMake, wps_xFor, wps_xForE, wpe_xLc, loopQ_ct, loopQ_bk, loopQ_ret, loopQ_exc, wpe_iteBad, wps_iteBad, oIC_wp, bList_wp, bListT_wp, oSlL_wp, oCat_wp, bListD_wp, mkRg_wp, bSet_wp, xSortSet_wp, cDiv_lit, cMul_litL, cMul_litR, rngOk_lit, rngOk_m1, -bList_tup, iR3, xLRg1, xLRg2, xErrF, xIsE, xRaise, RS.unset, RS.noexc, xNext, xAsg, gNameX, gConsX, gNilX, gTupX, xVar, xC, xOp, xUn, oI_int, oNeg_int, xB, asB_bl, xRet, xRetN, xDrop, xBreak, xCont, xCons, xNil, xTup, xCB, xCall, xCallX, xAnd, xOr, xNot, xAndV, xOrV, xNotV, xIf, xYes, xTru, truD, xIsN, xNotN, nonD, xFld, xMeth, xMethX, xBM, xDGet, xDIn, xPart, xNoPart, xSl, nox_ok, toS_ok, finX, iR1, iR2, iL, iT, iE, iZ, xAug, xAssert, str_beq, insX, putFX, putX, valX, keyD_int, keyD_str, List.lookup, oInSet, xDisp, xPCons, xPNil, keysX, mergeX, rdL_app_ge, rdL_app_self, rdL_zero, rdL_succ, at_app_ge, at_app_self, at_zero, at_succ]
  refine ⟨_, h.up 4, ?_⟩
  intro S h
  refine ⟨⟨d, f, u, b, l⟩, rfl, ?_⟩
  have e : plL ⟨d, f, u, b, l⟩ (Pln.new k n) ++ As = pt d (.dK [(.inr "kind", .str k), (.inr "time", .int 0), (.inr "under", .int 0), (.inr "filled", .ref f), (.inr "used", .ref u), (.inr "bits", .ref b), (.inr "full", .ref l)]) :: pt f (.lst (List.replicate n (.int 0))) :: pt u (.lst (List.replicate n (.int 0))) :: pt b (.lst (List.replicate n (.int 0))) :: pt l (.lst (List.replicate n (.bl false))) :: As := by simp [plL, plO, Pln.new]
  rw [e]
  exact (((((h.up 1).up 2).up 3).up 4).up 4)
theorem putM (ys : List Int) (j : Nat) (x : Int) : (ys.map D.int).set j (.int x) = (ys.set j x).map D.int := by rw [List.map_set]
theorem putB (ys : List Bool) (j : Nat) (x : Bool) : (ys.map D.bl).set j (.bl x) = (ys.set j x).map D.bl := by rw [List.map_set]
theorem ptouched_ok (h : Hs (plL p c ++ As) S) (hn : PlN c n) (h0 : 0 ≤ i) (hi : i < n) : Ok (f_l_chooser_tell [.ref p.d, .str "touched", .int i] S) fun v S' => v = .non ∧ Hs (plL p (c.touched i.toNat) ++ As) S' := by
  replace h : Hs (pt p.d (plO p c) :: pt p.f (.lst (c.fi.map .int)) :: pt p.u (.lst (c.us.map .int)) :: pt p.b (.lst (c.bi.map .int)) :: pt p.l (.lst (c.fl.map .bl)) :: As) S := h
  rw [f_l_chooser_tell_eq]
  refine Ok.def rfl ?_
  have a := h.at 0
  unfold plO at a
  simp (decide := true) [wpe_ret, wpe_exc, wpe_bind, wps_nx, wps_ret, wps_bk, wps_ct, wps_exc, wps_bindS, wps_seq, wps_xSeq, wps_toS, wpe_nox, defQ_ret, defQ_exc, wps_if, cn_k, cn_x, cx_n, cx_q, wpe_lst, wpe_dnew, wps_xSetF, wps_xAugF, wps_xDPut, gSub_eq, wpe_xMake, wps_xFor, wps_xForE, wpe_xLc, loopQ_ct, loopQ_bk, loopQ_ret, loopQ_exc, wpe_iteBad, wps_iteBad, oIC_wp, bList_wp, bListT_wp, oSlL_wp, oCat_wp, bListD_wp, mkRg_wp, bSet_wp, xSortSet_wp, cDiv_lit, cMul_litL, cMul_litR, rngOk_lit, rngOk_m1, -bList_tup, iR3, xLRg1, xLRg2, xErrF, xIsE, xRaise, RS.unset, RS.noexc, xNext, xAsg, gNameX, gConsX, gNilX, gTupX, xVar, xC, xOp, xUn, oI_int, oNeg_int, xB, asB_bl, xRet, xRetN, xDrop, xBreak, xCont, xCons, xNil, xTup, xCB, xCall, xCallX, xAnd, xOr, xNot, xAndV, xOrV, xNotV, xIf, xYes, xTru, truD, xIsN, xNotN, nonD, xFld, xMeth, xMethX, xBM, xDGet, xDIn, xPart, xNoPart, xSl, nox_ok, toS_ok, finX, iR1, iR2, iL, iT, iE, iZ, xAug, xAssert, str_beq, insX, putFX, putX, valX, keyD_int, keyD_str, List.lookup, oInSet, xDisp, xPCons, xPNil, keysX, mergeX, rdL_app_ge, rdL_app_self, rdL_zero, rdL_succ, at_app_ge, at_app_self, at_zero, at_succ, oDGet, getDX, a]
  refine wps_putD h rfl (by simp) ?_
  intro S h
  replace h : Hs (pt p.d (plO p { c with time := c.time + 1 }) :: pt p.f (.lst (c.fi.map .int)) :: pt p.u (.lst (c.us.map .int)) :: pt p.b (.lst (c.bi.map .int)) :: pt p.l (.lst (c.fl.map .bl)) :: As) S := by
    simp (decide := true) [putX] at h
    exact h
  have a := h.at 0
  unfold plO at a
  simp (decide := true) [wpe_ret, wpe_exc, wpe_bind, wps_nx, wps_ret, wps_bk, wps_ct, wps_exc, wps_bindS, wps_seq, wps_xSeq, wps_toS, wpe_nox, defQ_ret, defQ_exc, wps_if, cn_k, cn_x, cx_n, cx_q, wpe_lst, wpe_dnew, wps_xSetF, wps_xAugF, wps_xDPut, gSub_eq, wpe_xMake, wps_xFor, wps_xForE, wpe_xLc, loopQ_ct, loopQ_bk, loopQ_ret, loopQ_exc, wpe_iteBad, wps_iteBad, oIC_wp, bList_wp, bListT_wp, oSlL_wp, oCat_wp, bListD_wp, mkRg_wp, bSet_wp, xSortSet_wp, cDiv_lit, cMul_litL, cMul_litR, rngOk_lit, rngOk_m1, -bList_tup, iR3, xLRg1, xLRg2, xErrF, xIsE, xRaise, RS.unset, RS.noexc, xNext, xAsg, gNameX, gConsX, gNilX, gTupX, xVar, xC, xOp, xUn, oI_int, oNeg_int, xB, asB_bl, xRet, xRetN, xDrop, xBreak, xCont, xCons, xNil, xTup, xCB, xCall, xCallX, xAnd, xOr, xNot, xAndV, xOrV, xNotV, xIf, xYes, xTru, truD, xIsN, xNotN, nonD, xFld, xMeth, xMethX, xBM, xDGet, xDIn, xPart, xNoPart, xSl, nox_ok, toS_ok, finX, iR1, iR2, iL, iT, iE, iZ, xAug, xAssert, str_beq, insX, putFX, putX, valX, keyD_int, keyD_str, List.lookup, oInSet, xDisp, xPCons, xPNil, keysX, mergeX, rdL_app_ge, rdL_app_self, rdL_zero, rdL_succ, at_app_ge, at_app_self, at_zero, at_succ, oDGet, getDX, a]
  refine wpe_setL (h.up 4) (j := i.toNat) (by rw [List.length_map]; exact ixN_of h0 (by rw [hn.l]; exact hi)) ?_
  intro S h
  rw [putB] at h
  have a := h.at 1
  unfold plO at a
  simp (decide := true) [wpe_ret, wpe_exc, wpe_bind, wps_nx, wps_ret, wps_bk, wps_ct, wps_exc, wps_bindS, wps_seq, wps_xSeq, wps_toS, wpe_nox, defQ_ret, defQ_exc, wps_if, cn_k, cn_x, cx_n, cx_q, wpe_lst, wpe_dnew, wps_xSetF, wps_xAugF, wps_xDPut, gSub_eq, wpe_xMake, wps_xFor, wps_xForE, wpe_xLc, loopQ_ct, loopQ_bk, loopQ_ret, loopQ_exc, wpe_iteBad, wps_iteBad, oIC_wp, bList_wp, bListT_wp, oSlL_wp, oCat_wp, bListD_wp, mkRg_wp, bSet_wp, xSortSet_wp, cDiv_lit, cMul_litL, cMul_litR, rngOk_lit, rngOk_m1, -bList_tup, iR3, xLRg1, xLRg2, xErrF, xIsE, xRaise, RS.unset, RS.noexc, xNext, xAsg, gNameX, gConsX, gNilX, gTupX, xVar, xC, xOp, xUn, oI_int, oNeg_int, xB, asB_bl, xRet, xRetN, xDrop, xBreak, xCont, xCons, xNil, xTup, xCB, xCall, xCallX, xAnd, xOr, xNot, xAndV, xOrV, xNotV, xIf, xYes, xTru, truD, xIsN, xNotN, nonD, xFld, xMeth, xMethX, xBM, xDGet, xDIn, xPart, xNoPart, xSl, nox_ok, toS_ok, finX, iR1, iR2, iL, iT, iE, iZ, xAug, xAssert, str_beq, insX, putFX, putX, valX, keyD_int, keyD_str, List.lookup, oInSet, xDisp, xPCons, xPNil, keysX, mergeX, rdL_app_ge, rdL_app_self, rdL_zero, rdL_succ, at_app_ge, at_app_self, at_zero, at_succ, oDGet, getDX, a]
  refine wpe_setL (h.up 4) (j := i.toNat) (by rw [List.length_map]; exact ixN_of h0 (by rw [hn.b]; exact hi)) ?_
  intro S h
  rw [putM] at h
  have a := h.at 2
  unfold plO at a
  simp (decide := true) [wpe_ret, wpe_exc, wpe_bind, wps_nx, wps_ret, wps_bk, wps_ct, wps_exc, wps_bindS, wps_seq, wps_xSeq, wps_toS, wpe_nox, defQ_ret, defQ_exc, wps_if, cn_k, cn_x, cx_n, cx_q, wpe_lst, wpe_dnew, wps_xSetF, wps_xAugF, wps_xDPut, gSub_eq, wpe_xMake, wps_xFor, wps_xForE, wpe_xLc, loopQ_ct, loopQ_bk, loopQ_ret, loopQ_exc, wpe_iteBad, wps_iteBad, oIC_wp, bList_wp, bListT_wp, oSlL_wp, oCat_wp, bListD_wp, mkRg_wp, bSet_wp, xSortSet_wp, cDiv_lit, cMul_litL, cMul_litR, rngOk_lit, rngOk_m1, -bList_tup, iR3, xLRg1, xLRg2, xErrF, xIsE, xRaise, RS.unset, RS.noexc, xNext, xAsg, gNameX, gConsX, gNilX, gTupX, xVar, xC, xOp, xUn, oI_int, oNeg_int, xB, asB_bl, xRet, xRetN, xDrop, xBreak, xCont, xCons, xNil, xTup, xCB, xCall, xCallX, xAnd, xOr, xNot, xAndV, xOrV, xNotV, xIf, xYes, xTru, truD, xIsN, xNotN, nonD, xFld, xMeth, xMethX, xBM, xDGet, xDIn, xPart, xNoPart, xSl, nox_ok, toS_ok, finX, iR1, iR2, iL, iT, iE, iZ, xAug, xAssert, str_beq, insX, putFX, putX, valX, keyD_int, keyD_str, List.lookup, oInSet, xDisp, xPCons, xPNil, keysX, mergeX, rdL_app_ge, rdL_app_self, rdL_zero, rdL_succ, at_app_ge, at_app_self, at_zero, at_succ, oDGet, getDX, a]
  refine wpe_setL (h.up 4) (j := i.toNat) (by rw [List.length_map]; exact ixN_of h0 (by rw [hn.u]; exact hi)) ?_
  intro S h
  rw [putM] at h
  refine ⟨rfl, ?_⟩
  exact (((((h.up 2).up 2).up 2).up 4).up 4)
end
end

section
open Mi
variable {As Bs : List Asn} {S : Sto} {p : PlP} {c : Pln} {n : Nat} {l g : Nat} {n0 : Int} {r xs ns : List Int} {env env0 : Mi.Env} {i : Int}
theorem pemptied_ok (h : Hs (plL p c ++ As) S) (hn : PlN c n) (h0 : 0 ≤ i) (hi : i < n) : Ok (f_l_chooser_tell [.ref p.d, .str "emptied", .int i] S) fun v S' => v = .non ∧ Hs (plL p (c.emptied i.toNat) ++ As) S' := by
  replace h : Hs (pt p.d (plO p c) :: pt p.f (.lst (c.fi.map .int)) :: pt p.u (.lst (c.us.map .int)) :: pt p.b (.lst (c.bi.map .int)) :: pt p.l (.lst (c.fl.map .bl)) :: As) S := h
  rw [f_l_chooser_tell_eq]
  refine Ok.def rfl ?_
  have a := h.at 0
  unfold plO at a
  simp (decide := true) [wpe_ret, wpe_exc, wpe_bind, wps_nx, wps_ret, wps_bk, wps_ct, wps_exc, wps_bindS, wps_seq, wps_xSeq, wps_toS, wpe_nox, defQ_ret, defQ_exc, wps_if, cn_k, cn_x, cx_n, cx_q, wpe_lst, wpe_dnew, wps_xSetF, wps_xAugF, wps_xDPut, gSub_eq, wpe_xMake, wps_xFor, wps_xForE, wpe_xLc, loopQ_ct, loopQ_bk, loopQ_ret, loopQ_exc, wpe_iteBad, wps_iteBad, oIC_wp, bList_wp, bListT_wp, oSlL_wp, oCat_wp, bListD_wp, mkRg_wp, bSet_wp, xSortSet_wp, cDiv_lit, cMul_litL, cMul_litR, rngOk_lit, rngOk_m1, -bList_tup, iR3, xLRg1, xLRg2, xErrF, xIsE, xRaise, RS.unset, RS.noexc, xNext, xAsg, gNameX, gConsX, gNilX, gTupX, xVar, xC, xOp, xUn, oI_int, oNeg_int, xB, asB_bl, xRet, xRetN, xDrop, xBreak, xCont, xCons, xNil, xTup, xCB, xCall, xCallX, xAnd, xOr, xNot, xAndV, xOrV, xNotV, xIf, xYes, xTru, truD, xIsN, xNotN, nonD, xFld, xMeth, xMethX, xBM, xDGet, xDIn, xPart, xNoPart, xSl, nox_ok, toS_ok, finX, iR1, iR2, iL, iT, iE, iZ, xAug, xAssert, str_beq, insX, putFX, putX, valX, keyD_int, keyD_str, List.lookup, oInSet, xDisp, xPCons, xPNil, keysX, mergeX, rdL_app_ge, rdL_app_self, rdL_zero, rdL_succ, at_app_ge, at_app_self, at_zero, at_succ, oDGet, getDX, a]
  refine wps_putD h rfl (by simp) ?_
  intro S h
  replace h : Hs (pt p.d (plO p { c with time := c.time + 1 }) :: pt p.f (.lst (c.fi.map .int)) :: pt p.u (.lst (c.us.map .int)) :: pt p.b (.lst (c.bi.map .int)) :: pt p.l (.lst (c.fl.map .bl)) :: As) S := by
    simp (decide := true) [putX] at h
    exact h
  have a := h.at 0
  unfold plO at a
  simp (decide := true) [wpe_ret, wpe_exc, wpe_bind, wps_nx, wps_ret, wps_bk, wps_ct, wps_exc, wps_bindS, wps_seq, wps_xSeq, wps_toS, wpe_nox, defQ_ret, defQ_exc, wps_if, cn_k, cn_x, cx_n, cx_q, wpe_lst, wpe_dnew, wps_xSetF, wps_xAugF, wps_xDPut, gSub_eq, wpe_xMake, wps_xFor, wps_xForE, wpe_xLc, loopQ_ct, loopQ_bk, loopQ_ret, loopQ_exc, wpe_iteBad, wps_iteBad, oIC_wp, bList_wp, bListT_wp, oSlL_wp, oCat_wp, bListD_wp, mkRg_wp, bSet_wp, xSortSet_wp, cDiv_lit, cMul_litL, cMul_litR, rngOk_lit, rngOk_m1, -bList_tup, iR3, xLRg1, xLRg2, xErrF, xIsE, xRaise, RS.unset, RS.noexc, xNext, xAsg, gNameX, gConsX, gNilX, gTupX, xVar, xC, xOp, xUn, oI_int, oNeg_int, xB, asB_bl, xRet, xRetN, xDrop, xBreak, xCont, xCons, xNil, xTup, xCB, xCall, xCallX, xAnd, xOr, xNot, xAndV, xOrV, xNotV, xIf, xYes, xTru, truD, xIsN, xNotN, nonD, xFld, xMeth, xMethX, xBM, xDGet, xDIn, xPart, xNoPart, xSl, nox_ok, toS_ok, finX, iR1, iR2, iL, iT, iE, iZ, xAug, xAssert, str_beq, insX, putFX, putX, valX, keyD_int, keyD_str, List.lookup, oInSet, xDisp, xPCons, xPNil, keysX, mergeX, rdL_app_ge, rdL_app_self, rdL_zero, rdL_succ, at_app_ge, at_app_self, at_zero, at_succ, oDGet, getDX, a]
  refine wpe_setL (h.up 4) (j := i.toNat) (by rw [List.length_map]; exact ixN_of h0 (by rw [hn.l]; exact hi)) ?_
  intro S h
  rw [putB] at h
  have a := h.at 1
  unfold plO at a
  simp (decide := true) [wpe_ret, wpe_exc, wpe_bind, wps_nx, wps_ret, wps_bk, wps_ct, wps_exc, wps_bindS, wps_seq, wps_xSeq, wps_toS, wpe_nox, defQ_ret, defQ_exc, wps_if, cn_k, cn_x, cx_n, cx_q, wpe_lst, wpe_dnew, wps_xSetF, wps_xAugF, wps_xDPut, gSub_eq, wpe_xMake, wps_xFor, wps_xForE, wpe_xLc, loopQ_ct, loopQ_bk, loopQ_ret, loopQ_exc, wpe_iteBad, wps_iteBad, oIC_wp, bList_wp, bListT_wp, oSlL_wp, oCat_wp, bListD_wp, mkRg_wp, bSet_wp, xSortSet_wp, cDiv_lit, cMul_litL, cMul_litR, rngOk_lit, rngOk_m1, -bList_tup, iR3, xLRg1, xLRg2, xErrF, xIsE, xRaise, RS.unset, RS.noexc, xNext, xAsg, gNameX, gConsX, gNilX, gTupX, xVar, xC, xOp, xUn, oI_int, oNeg_int, xB, asB_bl, xRet, xRetN, xDrop, xBreak, xCont, xCons, xNil, xTup, xCB, xCall, xCallX, xAnd, xOr, xNot, xAndV, xOrV, xNotV, xIf, xYes, xTru, truD, xIsN, xNotN, nonD, xFld, xMeth, xMethX, xBM, xDGet, xDIn, xPart, xNoPart, xSl, nox_ok, toS_ok, finX, iR1, iR2, iL, iT, iE, iZ, xAug, xAssert, str_beq, insX, putFX, putX, valX, keyD_int, keyD_str, List.lookup, oInSet, xDisp, xPCons, xPNil, keysX, mergeX, rdL_app_ge, rdL_app_self, rdL_zero, rdL_succ, at_app_ge, at_app_self, at_zero, at_succ, oDGet, getDX, a]
  refine wpe_setL (h.up 4) (j := i.toNat) (by rw [List.length_map]; exact ixN_of h0 (by rw [hn.b]; exact hi)) ?_
  intro S h
  rw [putM] at h
  have a := h.at 2
  unfold plO at a
  simp (decide := true) [wpe_ret, wpe_exc, wpe_bind, wps_nx, wps_ret, wps_bk, wps_ct, wps_exc, wps_bindS, wps_seq, wps_xSeq, wps_toS, wpe_nox, defQ_ret, defQ_exc, wps_if, cn_k, cn_x, cx_n, cx_q, wpe_lst, wpe_dnew, wps_xSetF, wps_xAugF, wps_xDPut, gSub_eq, wpe_xMake, wps_xFor, wps_xForE, wpe_xLc, loopQ_ct, loopQ_bk, loopQ_ret, loopQ_exc, wpe_iteBad, wps_iteBad, oIC_wp, bList_wp, bListT_wp, oSlL_wp, oCat_wp, bListD_wp, mkRg_wp, bSet_wp, xSortSet_wp, cDiv_lit, cMul_litL, cMul_litR, rngOk_lit, rngOk_m1, -bList_tup, iR3, xLRg1, xLRg2, xErrF, xIsE, xRaise, RS.unset, RS.noexc, xNext, xAsg, gNameX, gConsX, gNilX, gTupX, xVar, xC, xOp, xUn, oI_int, oNeg_int, xB, asB_bl, xRet, xRetN, xDrop, xBreak, xCont, xCons, xNil, xTup, xCB, xCall, xCallX, xAnd, xOr, xNot, xAndV, xOrV, xNotV, xIf, xYes, xTru, truD, xIsN, xNotN, nonD, xFld, xMeth, xMethX, xBM, xDGet, xDIn, xPart, xNoPart, xSl, nox_ok, toS_ok, finX, iR1, iR2, iL, iT, iE, iZ, xAug, xAssert, str_beq, insX, putFX, putX, valX, keyD_int, keyD_str, List.lookup, oInSet, xDisp, xPCons, xPNil, keysX, mergeX, rdL_app_ge, rdL_app_self, rdL_zero, rdL_succ, at_app_ge, at_app_self, at_zero, at_succ, oDGet, getDX, a]
  exact (((((h.up 1).up 1).up 4).up 4).up 4)
theorem pfilled_ok (h : Hs (plL p c ++ As) S) (hn : PlN c n) (h0 : 0 ≤ i) (hi : i < n) : Ok (f_l_chooser_tell [.ref p.d, .str "filled", .int i] S) fun v S' => v = .non ∧ Hs (plL p (c.filled i.toNat) ++ As) S' := by
  replace h : Hs (pt p.d (plO p c) :: pt p.f (.lst (c.fi.map .int)) :: pt p.u (.lst (c.us.map .int)) :: pt p.b (.lst (c.bi.map .int)) :: pt p.l (.lst (c.fl.map .bl)) :: As) S := h
  rw [f_l_chooser_tell_eq]
  refine Ok.def rfl ?_
  have a := h.at 0
  unfold plO at a
  simp (decide := true) [wpe_ret, wpe_exc, wpe_bind, wps_nx, wps_ret, wps_bk, wps_ct, wps_exc, wps_bindS, wps_seq, wps_xSeq, wps_toS, wpe_nox, defQ_ret, defQ_exc, wps_if, cn_k, cn_x, cx_n, cx_q, wpe_lst, wpe_dnew, wps_xSetF, wps_xAugF, wps_xDPut, gSub_eq, wpe_xMake, wps_xFor, wps_xForE, wpe_xLc, loopQ_ct, loopQ_bk, loopQ_ret, loopQ_exc, wpe_iteBad, wps_iteBad, oIC_wp, bList_wp, bListT_wp, oSlL_wp, oCat_wp, bListD_wp, mkRg_wp, bSet_wp, xSortSet_wp, cDiv_lit, cMul_litL, cMul_litR, rngOk_lit, rngOk_m1, -bList_tup, iR3, xLRg1, xLRg2, xErrF, xIsE, xRaise, RS.unset, RS.noexc, xNext, xAsg, gNameX, gConsX, gNilX, gTupX, xVar, xC, xOp, xUn, oI_int, oNeg_int, xB, asB_bl, xRet, xRetN, xDrop, xBreak, xCont, xCons, xNil, xTup, xCB, xCall, xCallX, xAnd, xOr, xNot, xAndV, xOrV, xNotV, xIf, xYes, xTru, truD, xIsN, xNotN, nonD, xFld, xMeth, xMethX, xBM, xDGet, xDIn, xPart, xNoPart, xSl, nox_ok, toS_ok, finX, iR1, iR2, iL, iT, iE, iZ, xAug, xAssert, str_beq, insX, putFX, putX, valX, keyD_int, keyD_str, List.lookup, oInSet, xDisp, xPCons, xPNil, keysX, mergeX, rdL_app_ge, rdL_app_self, rdL_zero, rdL_succ, at_app_ge, at_app_self, at_zero, at_succ, oDGet, getDX, a]
  refine wps_putD h rfl (by simp) ?_
  intro S h
  replace h : Hs (pt p.d (plO p { c with time := c.time + 1 }) :: pt p.f (.lst (c.fi.map .int)) :: pt p.u (.lst (c.us.map .int)) :: pt p.b (.lst (c.bi.map .int)) :: pt p.l (.lst (c.fl.map .bl)) :: As) S := by
    simp (decide := true) [putX] at h
    exact h
  have a := h.at 0
  unfold plO at a
  simp (decide := true) [wpe_ret, wpe_exc, wpe_bind, wps_nx, wps_ret, wps_bk, wps_ct, wps_exc, wps_bindS, wps_seq, wps_xSeq, wps_toS, wpe_nox, defQ_ret, defQ_exc, wps_if, cn_k, cn_x, cx_n, cx_q, wpe_lst, wpe_dnew, wps_xSetF, wps_xAugF, wps_xDPut, gSub_eq, wpe_xMake, wps_xFor, wps_xForE, wpe_xLc, loopQ_ct, loopQ_bk, loopQ_ret, loopQ_exc, wpe_iteBad, wps_iteBad, oIC_wp, bList_wp, bListT_wp, oSlL_wp, oCat_wp, bListD_wp, mkRg_wp, bSet_wp, xSortSet_wp, cDiv_lit, cMul_litL, cMul_litR, rngOk_lit, rngOk_m1, -bList_tup, iR3, xLRg1, xLRg2, xErrF, xIsE, xRaise, RS.unset, RS.noexc, xNext, xAsg, gNameX, gConsX, gNilX, gTupX, xVar, xC, xOp, xUn, oI_int, oNeg_int, xB, asB_bl, xRet, xRetN, xDrop, xBreak, xCont, xCons, xNil, xTup, xCB, xCall, xCallX, xAnd, xOr, xNot, xAndV, xOrV, xNotV, xIf, xYes, xTru, truD, xIsN, xNotN, nonD, xFld, xMeth, xMethX, xBM, xDGet, xDIn, xPart, xNoPart, xSl, nox_ok, toS_ok, finX, iR1, iR2, iL, iT, iE, iZ, xAug, xAssert, str_beq, insX, putFX, putX, valX, keyD_int, keyD_str, List.lookup, oInSet, xDisp, xPCons, xPNil, keysX, mergeX, rdL_app_ge, rdL_app_self, rdL_zero, rdL_succ, at_app_ge, at_app_self, at_zero, at_succ, oDGet, getDX, a]
  refine wpe_setL (h.up 4) (j := i.toNat) (by rw [List.length_map]; exact ixN_of h0 (by rw [hn.l]; exact hi)) ?_
  intro S h
  rw [putB] at h
  have a := h.at 1
  unfold plO at a
  simp (decide := true) [wpe_ret, wpe_exc, wpe_bind, wps_nx, wps_ret, wps_bk, wps_ct, wps_exc, wps_bindS, wps_seq, wps_xSeq, wps_toS, wpe_nox, defQ_ret, defQ_exc, wps_if, cn_k, cn_x, cx_n, cx_q, wpe_lst, wpe_dnew, wps_xSetF, wps_xAugF, wps_xDPut, gSub_eq, wpe_xMake, wps_xFor, wps_xForE, wpe_xLc, loopQ_ct, loopQ_bk, loopQ_ret, loopQ_exc, wpe_iteBad, wps_iteBad, oIC_wp, bList_wp, bListT_wp, oSlL_wp, oCat_wp, bListD_wp, mkRg_wp, bSet_wp, xSortSet_wp, cDiv_lit, cMul_litL, cMul_litR, rngOk_lit, rngOk_m1, -bList_tup, iR3, xLRg1, xLRg2, xErrF, xIsE, xRaise, RS.unset, RS.noexc, xNext, xAsg, gNameX, gConsX, gNilX, gTupX, xVar, xC, xOp, xUn, oI_int, oNeg_int, xB, asB_bl, xRet, xRetN, xDrop, xBreak, xCont, xCons, xNil, xTup, xCB, xCall, xCallX, xAnd, xOr, xNot, xAndV, xOrV, xNotV, xIf, xYes, xTru, truD, xIsN, xNotN, nonD, xFld, xMeth, xMethX, xBM, xDGet, xDIn, xPart, xNoPart, xSl, nox_ok, toS_ok, finX, iR1, iR2, iL, iT, iE, iZ, xAug, xAssert, str_beq, insX, putFX, putX, valX, keyD_int, keyD_str, List.lookup, oInSet, xDisp, xPCons, xPNil, keysX, mergeX, rdL_app_ge, rdL_app_self, rdL_zero, rdL_succ, at_app_ge, at_app_self, at_zero, at_succ, oDGet, getDX, a]
  refine wpe_setL (h.up 4) (j := i.toNat) (by rw [List.length_map]; exact ixN_of h0 (by rw [hn.b]; exact hi)) ?_
  intro S h
  rw [putM] at h
  have a := h.at 2
  unfold plO at a
  simp (decide := true) [wpe_ret, wpe_exc, wpe_bind, wps_nx, wps_ret, wps_bk, wps_ct, wps_exc, wps_bindS, wps_seq, wps_xSeq, wps_toS, wpe_nox, defQ_ret, defQ_exc, wps_if, cn_k, cn_x, cx_n, cx_q, wpe_lst, wpe_dnew, wps_xSetF, wps_xAugF, wps_xDPut, gSub_eq, wpe_xMake, wps_xFor, wps_xForE, wpe_xLc, loopQ_ct, loopQ_bk, loopQ_ret, loopQ_exc, wpe_iteBad, wps_iteBad, oIC_wp, bList_wp, bListT_wp, oSlL_wp, oCat_wp, bListD_wp, mkRg_wp, bSet_wp, xSortSet_wp, cDiv_lit, cMul_litL, cMul_litR, rngOk_lit, rngOk_m1, -bList_tup, iR3, xLRg1, xLRg2, xErrF, xIsE, xRaise, RS.unset, RS.noexc, xNext, xAsg, gNameX, gConsX, gNilX, gTupX, xVar, xC, xOp, xUn, oI_int, oNeg_int, xB, asB_bl, xRet, xRetN, xDrop, xBreak, xCont, xCons, xNil, xTup, xCB, xCall, xCallX, xAnd, xOr, xNot, xAndV, xOrV, xNotV, xIf, xYes, xTru, truD, xIsN, xNotN, nonD, xFld, xMeth, xMethX, xBM, xDGet, xDIn, xPart, xNoPart, xSl, nox_ok, toS_ok, finX, iR1, iR2, iL, iT, iE, iZ, xAug, xAssert, str_beq, insX, putFX, putX, valX, keyD_int, keyD_str, List.lookup, oInSet, xDisp, xPCons, xPNil, keysX, mergeX, rdL_app_ge, rdL_app_self, rdL_zero, rdL_succ, at_app_ge, at_app_self, at_zero, at_succ, oDGet, getDX, a]
  refine wpe_setL (h.up 4) (j := i.toNat) (by rw [List.length_map]; exact ixN_of h0 (by rw [hn.u]; exact hi)) ?_
  intro S h
  rw [putM] at h
  have a := h.at 3
  unfold plO at a
  simp (decide := true) [wpe_ret, wpe_exc, wpe_bind, wps_nx, wps_ret, wps_bk, wps_ct, wps_exc, wps_bindS, wps_seq, wps_xSeq, wps_toS, wpe_nox, defQ_ret, defQ_exc, wps_if, cn_k, cn_x, cx_n, cx_q, wpe_lst, wpe_dnew, wps_xSetF, wps_xAugF, wps_xDPut, gSub_eq, wpe_xMake, wps_xFor, wps_xForE, wpe_xLc, loopQ_ct, loopQ_bk, loopQ_ret, loopQ_exc, wpe_iteBad, wps_iteBad, oIC_wp, bList_wp, bListT_wp, oSlL_wp, oCat_wp, bListD_wp, mkRg_wp, bSet_wp, xSortSet_wp, cDiv_lit, cMul_litL, cMul_litR, rngOk_lit, rngOk_m1, -bList_tup, iR3, xLRg1, xLRg2, xErrF, xIsE, xRaise, RS.unset, RS.noexc, xNext, xAsg, gNameX, gConsX, gNilX, gTupX, xVar, xC, xOp, xUn, oI_int, oNeg_int, xB, asB_bl, xRet, xRetN, xDrop, xBreak, xCont, xCons, xNil, xTup, xCB, xCall, xCallX, xAnd, xOr, xNot, xAndV, xOrV, xNotV, xIf, xYes, xTru, truD, xIsN, xNotN, nonD, xFld, xMeth, xMethX, xBM, xDGet, xDIn, xPart, xNoPart, xSl, nox_ok, toS_ok, finX, iR1, iR2, iL, iT, iE, iZ, xAug, xAssert, str_beq, insX, putFX, putX, valX, keyD_int, keyD_str, List.lookup, oInSet, xDisp, xPCons, xPNil, keysX, mergeX, rdL_app_ge, rdL_app_self, rdL_zero, rdL_succ, at_app_ge, at_app_self, at_zero, at_succ, oDGet, getDX, a]
  refine wpe_setL (h.up 4) (j := i.toNat) (by rw [List.length_map]; exact ixN_of h0 (by rw [hn.f]; exact hi)) ?_
  intro S h
  rw [putM] at h
  refine ⟨rfl, ?_⟩
  exact h.up 4
theorem pick_loop {k : Str} {o2 o3 : Option D} {Q : RS → Prop} (hk : KindOk k) (h : Hs As S) (hr : Mi.Rd As l ((n0 :: r).map .int)) (hg : Mi.Rd As g (xs.map .int)) (hd : ∀ S, Hs As S → ∃ kvs, at_ S p.d = some (.dK ((.inr "kind", .str k) :: kvs))) (hb : ∀ i ∈ n0 :: r, 0 ≤ i ∧ i < (xs.length : Int)) (hz : r.length ≤ 1000) :
    wps (K := ⟨fun e S' => ∃ o3, e = [some (.ref p.d), some (.ref l), o2, o3, some (.ref g), some (.int (bst k (kfL xs) n0 r))] ∧ Hs As S', Q⟩)
      (f_l_chooser_pick_l2 [some (.ref p.d), some (.ref l), o2, o3, some (.ref g), some (.int n0)] S) := by
  unfold f_l_chooser_pick_l2
  simp (decide := true) [wpe_ret, wpe_exc, wpe_bind, wps_nx, wps_ret, wps_bk, wps_ct, wps_exc, wps_bindS, wps_seq, wps_xSeq, wps_toS, wpe_nox, defQ_ret, defQ_exc, wps_if, cn_k, cn_x, cx_n, cx_q, wpe_lst, wpe_dnew, wps_xSetF, wps_xAugF, wps_xDPut, gSub_eq, wpe_xMake, wps_xFor, wps_xForE, wpe_xLc, loopQ_ct, loopQ_bk, loopQ_ret, loopQ_exc, wpe_iteBad, wps_iteBad, oIC_wp, bList_wp, bListT_wp, oSlL_wp, oCat_wp, bListD_wp, mkRg_wp, bSet_wp, xSortSet_wp, cDiv_lit, cMul_litL, cMul_litR, rngOk_lit, rngOk_m1, -bList_tup, iR3, xLRg1, xLRg2, xErrF, xIsE, xRaise, RS.unset, RS.noexc, xNext, xAsg, gNameX, gConsX, gNilX, gTupX, xVar, xC, xOp, xUn, oI_int, oNeg_int, xB, asB_bl, xRet, xRetN, xDrop, xBreak, xCont, xCons, xNil, xTup, xCB, xCall, xCallX, xAnd, xOr, xNot, xAndV, xOrV, xNotV, xIf, xYes, xTru, truD, xIsN, xNotN, nonD, xFld, xMeth, xMethX, xBM, xDGet, xDIn, xPart, xNoPart, xSl, nox_ok, toS_ok, finX, iR1, iR2, iL, iT, iE, iZ, xAug, xAssert, str_beq, insX, putFX, putX, valX, keyD_int, keyD_str, List.lookup, oInSet, xDisp, xPCons, xPNil, keysX, mergeX, rdL_app_ge, rdL_app_self, rdL_zero, rdL_succ, at_app_ge, at_app_self, at_zero, at_succ, hr _ h, -List.map_cons]
  refine wps_loop (fun j env S => ∃ o3, env = [some (.ref p.d), some (.ref l), o2, o3, some (.ref g), some (.int (bst k (kfL xs) n0 ((n0 :: r).take j)))] ∧ Hs As S) ⟨o3, by simp [bst, KeyL.bMin, KeyL.bMax], h⟩ (fun _ _ _ ⟨_, _, h⟩ => hr _ h) ?_ ?_
  · rintro j x env S hx ⟨o3, rfl, h⟩
    rw [List.getElem?_map] at hx
    obtain ⟨y, hy, rfl⟩ := Option.map_eq_some_iff.mp hx
    have my := List.mem_of_getElem? hy
    have tk : (n0 :: r).take (j + 1) = (n0 :: r).take j ++ [y] := by rw [List.take_succ, hy]; rfl
    obtain ⟨b, hbb⟩ : ∃ b, b = bst k (kfL xs) n0 ((n0 :: r).take j) := ⟨_, rfl⟩
    have mb : b ∈ n0 :: r := by
      rw [hbb]
      rcases List.mem_cons.mp (bst_mem (k := k) (kf := kfL xs) (l := (n0 :: r).take j) (b := n0)) with e | e
      · rw [e]; simp
      · exact List.mem_of_mem_take e
    rw [tk, ← hbb]
    obtain ⟨kvs, a⟩ := hd _ h
    have g1 := kfL_at (hb y my).1 (hb y my).2
    have g2 := kfL_at (hb b mb).1 (hb b mb).2
    have gx := hg _ h
    by_cases hc : k = "newest"
    · subst hc
      have e : bst "newest" (kfL xs) n0 ((n0 :: r).take j ++ [y]) = if kfL xs b < kfL xs y then y else b := by
        rw [hbb]
        simp (decide := true) only [bst, if_true]
        rw [bMax_snoc]
      rw [e]
      by_cases hlt : kfL xs b < kfL xs y
      · simp (decide := true) [wpe_ret, wpe_exc, wpe_bind, wps_nx, wps_ret, wps_bk, wps_ct, wps_exc, wps_bindS, wps_seq, wps_xSeq, wps_toS, wpe_nox, defQ_ret, defQ_exc, wps_if, cn_k, cn_x, cx_n, cx_q, wpe_lst, wpe_dnew, wps_xSetF, wps_xAugF, wps_xDPut, gSub_eq, wpe_xMake, wps_xFor, wps_xForE, wpe_xLc, loopQ_ct, loopQ_bk, loopQ_ret, loopQ_exc, wpe_iteBad, wps_iteBad, oIC_wp, bList_wp, bListT_wp, oSlL_wp, oCat_wp, bListD_wp, mkRg_wp, bSet_wp, xSortSet_wp, cDiv_lit, cMul_litL, cMul_litR, rngOk_lit, rngOk_m1, -bList_tup, iR3, xLRg1, xLRg2, xErrF, xIsE, xRaise, RS.unset, RS.noexc, xNext, xAsg, gNameX, gConsX, gNilX, gTupX, xVar, xC, xOp, xUn, oI_int, oNeg_int, xB, asB_bl, xRet, xRetN, xDrop, xBreak, xCont, xCons, xNil, xTup, xCB, xCall, xCallX, xAnd, xOr, xNot, xAndV, xOrV, xNotV, xIf, xYes, xTru, truD, xIsN, xNotN, nonD, xFld, xMeth, xMethX, xBM, xDGet, xDIn, xPart, xNoPart, xSl, nox_ok, toS_ok, finX, iR1, iR2, iL, iT, iE, iZ, xAug, xAssert, str_beq, insX, putFX, putX, valX, keyD_int, keyD_str, List.lookup, oInSet, xDisp, xPCons, xPNil, keysX, mergeX, rdL_app_ge, rdL_app_self, rdL_zero, rdL_succ, at_app_ge, at_app_self, at_zero, at_succ, f_l_chooser_pick_b2, f_l_chooser_pick_t2, f_l_chooser_pick_t3, oDGet, getDX, a, oIxL, gx, g1, g2, hlt, h]
      · simp (decide := true) [wpe_ret, wpe_exc, wpe_bind, wps_nx, wps_ret, wps_bk, wps_ct, wps_exc, wps_bindS, wps_seq, wps_xSeq, wps_toS, wpe_nox, defQ_ret, defQ_exc, wps_if, cn_k, cn_x, cx_n, cx_q, wpe_lst, wpe_dnew, wps_xSetF, wps_xAugF, wps_xDPut, gSub_eq, wpe_xMake, wps_xFor, wps_xForE, wpe_xLc, loopQ_ct, loopQ_bk, loopQ_ret, loopQ_exc, wpe_iteBad, wps_iteBad, oIC_wp, bList_wp, bListT_wp, oSlL_wp, oCat_wp, bListD_wp, mkRg_wp, bSet_wp, xSortSet_wp, cDiv_lit, cMul_litL, cMul_litR, rngOk_lit, rngOk_m1, -bList_tup, iR3, xLRg1, xLRg2, xErrF, xIsE, xRaise, RS.unset, RS.noexc, xNext, xAsg, gNameX, gConsX, gNilX, gTupX, xVar, xC, xOp, xUn, oI_int, oNeg_int, xB, asB_bl, xRet, xRetN, xDrop, xBreak, xCont, xCons, xNil, xTup, xCB, xCall, xCallX, xAnd, xOr, xNot, xAndV, xOrV, xNotV, xIf, xYes, xTru, truD, xIsN, xNotN, nonD, xFld, xMeth, xMethX, xBM, xDGet, xDIn, xPart, xNoPart, xSl, nox_ok, toS_ok, finX, iR1, iR2, iL, iT, iE, iZ, xAug, xAssert, str_beq, insX, putFX, putX, valX, keyD_int, keyD_str, List.lookup, oInSet, xDisp, xPCons, xPNil, keysX, mergeX, rdL_app_ge, rdL_app_self, rdL_zero, rdL_succ, at_app_ge, at_app_self, at_zero, at_succ, f_l_chooser_pick_b2, f_l_chooser_pick_t2, f_l_chooser_pick_t3, oDGet, getDX, a, oIxL, gx, g1, g2, hlt, h]
    · have e : bst k (kfL xs) n0 ((n0 :: r).take j ++ [y]) = if kfL xs y < kfL xs b then y else b := by
        rw [hbb]
        simp only [bst, if_neg hc]
        rw [bMin_snoc]
      rw [e]
      by_cases hlt : kfL xs y < kfL xs b
      · simp (decide := true) [wpe_ret, wpe_exc, wpe_bind, wps_nx, wps_ret, wps_bk, wps_ct, wps_exc, wps_bindS, wps_seq, wps_xSeq, wps_toS, wpe_nox, defQ_ret, defQ_exc, wps_if, cn_k, cn_x, cx_n, cx_q, wpe_lst, wpe_dnew, wps_xSetF, wps_xAugF, wps_xDPut, gSub_eq, wpe_xMake, wps_xFor, wps_xForE, wpe_xLc, loopQ_ct, loopQ_bk, loopQ_ret, loopQ_exc, wpe_iteBad, wps_iteBad, oIC_wp, bList_wp, bListT_wp, oSlL_wp, oCat_wp, bListD_wp, mkRg_wp, bSet_wp, xSortSet_wp, cDiv_lit, cMul_litL, cMul_litR, rngOk_lit, rngOk_m1, -bList_tup, iR3, xLRg1, xLRg2, xErrF, xIsE, xRaise, RS.unset, RS.noexc, xNext, xAsg, gNameX, gConsX, gNilX, gTupX, xVar, xC, xOp, xUn, oI_int, oNeg_int, xB, asB_bl, xRet, xRetN, xDrop, xBreak, xCont, xCons, xNil, xTup, xCB, xCall, xCallX, xAnd, xOr, xNot, xAndV, xOrV, xNotV, xIf, xYes, xTru, truD, xIsN, xNotN, nonD, xFld, xMeth, xMethX, xBM, xDGet, xDIn, xPart, xNoPart, xSl, nox_ok, toS_ok, finX, iR1, iR2, iL, iT, iE, iZ, xAug, xAssert, str_beq, insX, putFX, putX, valX, keyD_int, keyD_str, List.lookup, oInSet, xDisp, xPCons, xPNil, keysX, mergeX, rdL_app_ge, rdL_app_self, rdL_zero, rdL_succ, at_app_ge, at_app_self, at_zero, at_succ, f_l_chooser_pick_b2, f_l_chooser_pick_t2, f_l_chooser_pick_t3, oDGet, getDX, a, oIxL, gx, g1, g2, hlt, h, hc]
      · simp (decide := true) [wpe_ret, wpe_exc, wpe_bind, wps_nx, wps_ret, wps_bk, wps_ct, wps_exc, wps_bindS, wps_seq, wps_xSeq, wps_toS, wpe_nox, defQ_ret, defQ_exc, wps_if, cn_k, cn_x, cx_n, cx_q, wpe_lst, wpe_dnew, wps_xSetF, wps_xAugF, wps_xDPut, gSub_eq, wpe_xMake, wps_xFor, wps_xForE, wpe_xLc, loopQ_ct, loopQ_bk, loopQ_ret, loopQ_exc, wpe_iteBad, wps_iteBad, oIC_wp, bList_wp, bListT_wp, oSlL_wp, oCat_wp, bListD_wp, mkRg_wp, bSet_wp, xSortSet_wp, cDiv_lit, cMul_litL, cMul_litR, rngOk_lit, rngOk_m1, -bList_tup, iR3, xLRg1, xLRg2, xErrF, xIsE, xRaise, RS.unset, RS.noexc, xNext, xAsg, gNameX, gConsX, gNilX, gTupX, xVar, xC, xOp, xUn, oI_int, oNeg_int, xB, asB_bl, xRet, xRetN, xDrop, xBreak, xCont, xCons, xNil, xTup, xCB, xCall, xCallX, xAnd, xOr, xNot, xAndV, xOrV, xNotV, xIf, xYes, xTru, truD, xIsN, xNotN, nonD, xFld, xMeth, xMethX, xBM, xDGet, xDIn, xPart, xNoPart, xSl, nox_ok, toS_ok, finX, iR1, iR2, iL, iT, iE, iZ, xAug, xAssert, str_beq, insX, putFX, putX, valX, keyD_int, keyD_str, List.lookup, oInSet, xDisp, xPCons, xPNil, keysX, mergeX, rdL_app_ge, rdL_app_self, rdL_zero, rdL_succ, at_app_ge, at_app_self, at_zero, at_succ, f_l_chooser_pick_b2, f_l_chooser_pick_t2, f_l_chooser_pick_t3, oDGet, getDX, a, oIxL, gx, g1, g2, hlt, h, hc]
  · rintro _ S ⟨o3, rfl, h⟩
    rw [List.length_map, List.take_length, bst_cons]
    exact ⟨_, rfl, h⟩
theorem ppick_ok (h : Hs (plL p c ++ As) S) (hn : PlN c n) (hk : KindOk c.kind) (hr : Mi.Rd As l ((n0 :: r).map .int)) (hb : ∀ i ∈ n0 :: r, 0 ≤ i ∧ i < (n : Int)) (hz : r.length ≤ 1000) : Ok (f_l_chooser_pick [.ref p.d, .ref l] S) fun v S' => v = .int (choice c.kind c.fi c.us n0 r) ∧ Hs (plL p c ++ As) S' := by
  have hr' : Mi.Rd (plL p c ++ As) l ((n0 :: r).map .int) := hr.cons.cons.cons.cons.cons
  have hf : Mi.Rd (plL p c ++ As) p.f (c.fi.map .int) := Mi.Rd.pt 1
  have hu : Mi.Rd (plL p c ++ As) p.u (c.us.map .int) := Mi.Rd.pt 2
  have hd : ∀ S, Hs (plL p c ++ As) S → ∃ kvs, at_ S p.d = some (.dK ((.inr "kind", .str c.kind) :: kvs)) := fun S h => ⟨_, h.at 0⟩
  have hnf := hn.f
  have hnu := hn.u
  rw [f_l_chooser_pick_eq]
  refine Ok.def rfl ?_
  have a := h.at 0
  unfold plO at a
  have z0 : atI ((n0 :: r).map D.int) 0 = some (.int n0) := atI_int (by decide) rfl
  have q := hr' _ h
  generalize hA : plL p c ++ As = Bs at h hr' hf hu hd ⊢
  have hc : c.kind ≠ "clock" := by rcases hk with e | e | e <;> rw [e] <;> decide
  by_cases h1 : c.kind = "lru"
  · simp (decide := true) [wpe_ret, wpe_exc, wpe_bind, wps_nx, wps_ret, wps_bk, wps_ct, wps_exc, wps_bindS, wps_seq, wps_xSeq, wps_toS, wpe_nox, defQ_ret, defQ_exc, wps_if, cn_k, cn_x, cx_n, cx_q, wpe_lst, wpe_dnew, wps_xSetF, wps_xAugF, wps_xDPut, gSub_eq, wpe_xMake, wps_xFor, wps_xForE, wpe_xLc, loopQ_ct, loopQ_bk, loopQ_ret, loopQ_exc, wpe_iteBad, wps_iteBad, oIC_wp, bList_wp, bListT_wp, oSlL_wp, oCat_wp, bListD_wp, mkRg_wp, bSet_wp, xSortSet_wp, cDiv_lit, cMul_litL, cMul_litR, rngOk_lit, rngOk_m1, -bList_tup, iR3, xLRg1, xLRg2, xErrF, xIsE, xRaise, RS.unset, RS.noexc, xNext, xAsg, gNameX, gConsX, gNilX, gTupX, xVar, xC, xOp, xUn, oI_int, oNeg_int, xB, asB_bl, xRet, xRetN, xDrop, xBreak, xCont, xCons, xNil, xTup, xCB, xCall, xCallX, xAnd, xOr, xNot, xAndV, xOrV, xNotV, xIf, xYes, xTru, truD, xIsN, xNotN, nonD, xFld, xMeth, xMethX, xBM, xDGet, xDIn, xPart, xNoPart, xSl, nox_ok, toS_ok, finX, iR1, iR2, iL, iT, iE, iZ, xAug, xAssert, str_beq, insX, putFX, putX, valX, keyD_int, keyD_str, List.lookup, oInSet, xDisp, xPCons, xPNil, keysX, mergeX, rdL_app_ge, rdL_app_self, rdL_zero, rdL_succ, at_app_ge, at_app_self, at_zero, at_succ, oDGet, getDX, a, h1, oIxL, q, z0, -List.map_cons]
    refine wps_k (Q := fun _ => False) (pick_loop (Q := fun _ => False) (k := c.kind) (g := p.u) hk h hr' hu hd (fun i hi => by rw [hnu]; exact hb i hi) hz) ?_ (fun _ z => z.elim)
    rintro _ S ⟨o3, rfl, h⟩
    refine ⟨?_, h⟩
    simp only [choice, h1, if_true]
  · simp (decide := true) [wpe_ret, wpe_exc, wpe_bind, wps_nx, wps_ret, wps_bk, wps_ct, wps_exc, wps_bindS, wps_seq, wps_xSeq, wps_toS, wpe_nox, defQ_ret, defQ_exc, wps_if, cn_k, cn_x, cx_n, cx_q, wpe_lst, wpe_dnew, wps_xSetF, wps_xAugF, wps_xDPut, gSub_eq, wpe_xMake, wps_xFor, wps_xForE, wpe_xLc, loopQ_ct, loopQ_bk, loopQ_ret, loopQ_exc, wpe_iteBad, wps_iteBad, oIC_wp, bList_wp, bListT_wp, oSlL_wp, oCat_wp, bListD_wp, mkRg_wp, bSet_wp, xSortSet_wp, cDiv_lit, cMul_litL, cMul_litR, rngOk_lit, rngOk_m1, -bList_tup, iR3, xLRg1, xLRg2, xErrF, xIsE, xRaise, RS.unset, RS.noexc, xNext, xAsg, gNameX, gConsX, gNilX, gTupX, xVar, xC, xOp, xUn, oI_int, oNeg_int, xB, asB_bl, xRet, xRetN, xDrop, xBreak, xCont, xCons, xNil, xTup, xCB, xCall, xCallX, xAnd, xOr, xNot, xAndV, xOrV, xNotV, xIf, xYes, xTru, truD, xIsN, xNotN, nonD, xFld, xMeth, xMethX, xBM, xDGet, xDIn, xPart, xNoPart, xSl, nox_ok, toS_ok, finX, iR1, iR2, iL, iT, iE, iZ, xAug, xAssert, str_beq, insX, putFX, putX, valX, keyD_int, keyD_str, List.lookup, oInSet, xDisp, xPCons, xPNil, keysX, mergeX, rdL_app_ge, rdL_app_self, rdL_zero, rdL_succ, at_app_ge, at_app_self, at_zero, at_succ, oDGet, getDX, a, h1, hc, oIxL, q, z0, -List.map_cons]
    refine wps_k (Q := fun _ => False) (pick_loop (Q := fun _ => False) (k := c.kind) (g := p.f) hk h hr' hf hd (fun i hi => by rw [hnf]; exact hb i hi) hz) ?_ (fun _ z => z.elim)
    rintro _ S ⟨o3, rfl, h⟩
    refine ⟨?_, h⟩
    simp only [choice, h1, if_false]
/-! ### the two choosers, alike -/
structure Iso (xs ys : List Int) (t s : Int) (n : Nat) : Prop where
  lx : xs.length = n
  ly : ys.length = n
  bx : ∀ x ∈ xs, x ≤ t
  by_ : ∀ y ∈ ys, y ≤ s
  iff : ∀ i j, i < n → j < n → (xs.getD i 0 < xs.getD j 0 ↔ ys.getD i 0 < ys.getD j 0)
theorem Iso.up {xs ys : List Int} {t s t' s' : Int} {n : Nat} (h : Iso xs ys t s n) (ht : t ≤ t') (hs : s ≤ s') : Iso xs ys t' s' n :=
  ⟨h.lx, h.ly, fun x hx => Int.le_trans (h.bx x hx) ht, fun y hy => Int.le_trans (h.by_ y hy) hs, h.iff⟩
theorem getD_set {xs : List Int} {i j : Nat} {x : Int} (h : i < xs.length) : (xs.set i x).getD j 0 = if j = i then x else xs.getD j 0 := by
  simp only [List.getD_eq_getElem?_getD, List.getElem?_set]
  by_cases e : i = j
  · subst e
    simp [h]
  · rw [if_neg e, if_neg (fun z => e z.symm)]
theorem getD_mem {xs : List Int} {j : Nat} (h : j < xs.length) : xs.getD j 0 ∈ xs := by
  rw [List.getD_eq_getElem?_getD, List.getElem?_eq_getElem h]
  exact List.getElem_mem h
theorem Iso.put {xs ys : List Int} {t s : Int} {n i : Nat} (h : Iso xs ys t s n) (hi : i < n) : Iso (xs.set i (t + 1)) (ys.set i (s + 1)) (t + 1) (s + 1) n := by
  refine ⟨by rw [List.length_set]; exact h.lx, by rw [List.length_set]; exact h.ly, fun x hx => ?_, fun y hy => ?_, fun a b ha hb => ?_⟩
  · rcases List.mem_or_eq_of_mem_set hx with e | e
    · have := h.bx x e; omega
    · omega
  · rcases List.mem_or_eq_of_mem_set hy with e | e
    · have := h.by_ y e; omega
    · omega
  · have lx := h.lx
    have ly := h.ly
    rw [getD_set (by omega), getD_set (by omega), getD_set (by omega), getD_set (by omega)]
    have x1 := h.bx _ (getD_mem (j := a) (by omega))
    have x2 := h.bx _ (getD_mem (j := b) (by omega))
    have y1 := h.by_ _ (getD_mem (j := a) (by omega))
    have y2 := h.by_ _ (getD_mem (j := b) (by omega))
    have := h.iff a b ha hb
    by_cases ea : a = i <;> by_cases eb : b = i <;> simp only [ea, eb, if_true, if_false] <;> omega
structure Both (c : Ch) (p : Pln) (n : Nat) : Prop where
  kd : KindOk c.kind
  k : p.kind = c.kind
  b : c.bits.length = n
  b' : p.bi.length = n
  l : p.fl.length = n
  f : Iso c.fa p.fi c.time p.time n
  u : Iso c.ua p.us c.time p.time n
theorem Both.ch {c : Ch} {p : Pln} {n : Nat} (h : Both c p n) : ChN c n := ⟨h.f.lx, h.u.lx, h.b⟩
theorem Both.pl {c : Ch} {p : Pln} {n : Nat} (h : Both c p n) : PlN p n := ⟨h.f.ly, h.u.ly, h.b', h.l⟩
theorem Both.touched {c : Ch} {p : Pln} {n i : Nat} (h : Both c p n) (hi : i < n) : Both (c.touched i) (p.touched i) n :=
  ⟨h.kd, h.k, by simp [Ch.touched, h.b], by simp [Pln.touched, h.b'], by simp [Pln.touched, h.l], h.f.up (show c.time ≤ c.time + 1 by omega) (show p.time ≤ p.time + 1 by omega), h.u.put hi⟩
theorem Both.filled {c : Ch} {p : Pln} {n i : Nat} (h : Both c p n) (hi : i < n) : Both (c.filled i) (p.filled i) n :=
  ⟨h.kd, h.k, by simp [Ch.filled, h.b], by simp [Pln.filled, h.b'], by simp [Pln.filled, h.l], h.f.put hi, h.u.put hi⟩
theorem Both.emptied {c : Ch} {p : Pln} {n i : Nat} (h : Both c p n) : Both (c.emptied i) (p.emptied i) n :=
  ⟨h.kd, h.k, by simp [Ch.emptied, h.b], by simp [Pln.emptied, h.b'], by simp [Pln.emptied, h.l], h.f.up (Int.le_refl _) (show p.time ≤ p.time + 1 by omega), h.u.up (Int.le_refl _) (show p.time ≤ p.time + 1 by omega)⟩
theorem Both.new {k : Str} {n : Nat} (h : KindOk k) : Both (Ch.new k n) (Pln.new k n) n := by
  have z : Iso (List.replicate n (0 : Int)) (List.replicate n (0 : Int)) 0 0 n := ⟨by simp, by simp, fun x hx => by rw [List.eq_of_mem_replicate hx]; decide, fun x hx => by rw [List.eq_of_mem_replicate hx]; decide, fun _ _ _ _ => Iff.rfl⟩
  exact ⟨h, rfl, by simp [Ch.new], by simp [Pln.new], by simp [Pln.new], z, z⟩
theorem Both.choice {c : Ch} {p : Pln} {n : Nat} {n0 : Int} {r : List Int} (h : Both c p n) (hb : ∀ i ∈ n0 :: r, 0 ≤ i ∧ i < (n : Int)) : choice c.kind c.fa c.ua n0 r = choice p.kind p.fi p.us n0 r := by
  unfold Law.choice
  rw [h.k]
  refine bst_iso fun x hx y hy => ?_
  have b1 := hb x hx
  have b2 := hb y hy
  unfold kfL
  split
  · exact h.u.iff _ _ (by omega) (by omega)
  · exact h.f.iff _ _ (by omega) (by omega)
end

section
open Mi
variable {As : List Asn} {S : Sto} {p : ChP} {c : Ch} {d : Pln} {pp : PlP} {n l k q r q' : Nat} {as bits' : List Int}
theorem bit_at {bits : List Int} (h : q < bits.length) : atI (bits.map D.int) (q : Int) = some (.int (bitAt bits q)) := atI_of (by omega) (by simp [bitAt, List.getD, h])
def Ch.at (c : Ch) (q : Nat) (bits : List Int) : Ch := { c with bits := bits, ptr := (q : Int) }
def Pln.at (d : Pln) (q : Nat) (bits : List Int) : Pln := { d with bi := bits, un := (q : Int) }
def TurnI (p : ChP) (c : Ch) (n s r q' : Nat) (as bits' : List Int) (As : List Asn) (m : Nat) (S : Sto) : Prop := ∃ (q : Nat) (bits : List Int), q < n ∧ bits.length = n ∧ clk as n m q bits = some (r, q', bits') ∧ Hs (pt s (.set (memI as) (dedupL as).length) :: (chL p (c.at q bits) ++ As)) S
/-- the hand of the clock -/
theorem turn_ok (h : Hs (chL p c ++ As) S) (hn : ChN c n) (hq : c.ptr = (q : Int)) (hq2 : q < n) (hr : rdL S l = some (as.map .int)) (hz : as.length ≤ 4000) (hc : clk as n k q c.bits = some (r, q', bits')) :
    Ok (f_Chooser_turn_pointer [.ref p.o, .ref l] S) fun v S' => v = .int r ∧ Hs (chL p (c.at q' bits') ++ As) S' := by
  have hn2 : 0 < n := by omega
  rw [f_Chooser_turn_pointer_eq]
  refine Ok.def rfl ?_
  simp (decide := true) [wpe_ret, wpe_exc, wpe_bind, wps_nx, wps_ret, wps_bk, wps_ct, wps_exc, wps_bindS, wps_seq, wps_xSeq, wps_toS, wpe_nox, defQ_ret, defQ_exc, wps_if, cn_k, cn_x, cx_n, cx_q, wpe_lst, wpe_dnew, wps_xSetF, wps_xAugF, wps_xDPut, gSub_eq, wpe_xMake, wps_xFor, wps_xForE, wpe_xLc, loopQ_ct, loopQ_bk, loopQ_ret, loopQ_exc, wpe_iteBad, wps_iteBad, oIC_wp, bList_wp, bListT_wp, oSlL_wp, oCat_wp, bListD_wp, mkRg_wp, bSet_wp, xSortSet_wp, cDiv_lit, cMul_litL, cMul_litR, rngOk_lit, rngOk_m1, -bList_tup, iR3, xLRg1, xLRg2, xErrF, xIsE, xRaise, RS.unset, RS.noexc, xNext, xAsg, gNameX, gConsX, gNilX, gTupX, xVar, xC, xOp, xUn, oI_int, oNeg_int, xB, asB_bl, xRet, xRetN, xDrop, xBreak, xCont, xCons, xNil, xTup, xCB, xCall, xCallX, xAnd, xOr, xNot, xAndV, xOrV, xNotV, xIf, xYes, xTru, truD, xIsN, xNotN, nonD, xFld, xMeth, xMethX, xBM, xDGet, xDIn, xPart, xNoPart, xSl, nox_ok, toS_ok, finX, iR1, iR2, iL, iT, iE, iZ, xAug, xAssert, str_beq, insX, putFX, putX, valX, keyD_int, keyD_str, List.lookup, oInSet, xDisp, xPCons, xPNil, keysX, mergeX, rdL_app_ge, rdL_app_self, rdL_zero, rdL_succ, at_app_ge, at_app_self, at_zero, at_succ, hr, intsOf_map, hz]
  refine wpe_allo h ?_
  intro s S h
  simp (decide := true) [wpe_ret, wpe_exc, wpe_bind, wps_nx, wps_ret, wps_bk, wps_ct, wps_exc, wps_bindS, wps_seq, wps_xSeq, wps_toS, wpe_nox, defQ_ret, defQ_exc, wps_if, cn_k, cn_x, cx_n, cx_q, wpe_lst, wpe_dnew, wps_xSetF, wps_xAugF, wps_xDPut, gSub_eq, wpe_xMake, wps_xFor, wps_xForE, wpe_xLc, loopQ_ct, loopQ_bk, loopQ_ret, loopQ_exc, wpe_iteBad, wps_iteBad, oIC_wp, bList_wp, bListT_wp, oSlL_wp, oCat_wp, bListD_wp, mkRg_wp, bSet_wp, xSortSet_wp, cDiv_lit, cMul_litL, cMul_litR, rngOk_lit, rngOk_m1, -bList_tup, iR3, xLRg1, xLRg2, xErrF, xIsE, xRaise, RS.unset, RS.noexc, xNext, xAsg, gNameX, gConsX, gNilX, gTupX, xVar, xC, xOp, xUn, oI_int, oNeg_int, xB, asB_bl, xRet, xRetN, xDrop, xBreak, xCont, xCons, xNil, xTup, xCB, xCall, xCallX, xAnd, xOr, xNot, xAndV, xOrV, xNotV, xIf, xYes, xTru, truD, xIsN, xNotN, nonD, xFld, xMeth, xMethX, xBM, xDGet, xDIn, xPart, xNoPart, xSl, nox_ok, toS_ok, finX, iR1, iR2, iL, iT, iE, iZ, xAug, xAssert, str_beq, insX, putFX, putX, valX, keyD_int, keyD_str, List.lookup, oInSet, xDisp, xPCons, xPNil, keysX, mergeX, rdL_app_ge, rdL_app_self, rdL_zero, rdL_succ, at_app_ge, at_app_self, at_zero, at_succ, f_Chooser_turn_pointer_l1]
  refine wps_while (fun m env S => ∃ (o3 : Option D), env = [some (.ref p.o), some (.ref l), some (.ref s), o3] ∧ TurnI p c n s r q' as bits' As m S) k ⟨none, rfl, q, c.bits, hq2, hn.b, hc, ?_⟩ ?_
  · rw [show c.at q c.bits = c by unfold Ch.at; rw [← hq]]
    exact h
  rintro m env S ⟨o3, rfl, q, bits, hq, hb, hc, h⟩
  simp (decide := true) [wpe_ret, wpe_exc, wpe_bind, wps_nx, wps_ret, wps_bk, wps_ct, wps_exc, wps_bindS, wps_seq, wps_xSeq, wps_toS, wpe_nox, defQ_ret, defQ_exc, wps_if, cn_k, cn_x, cx_n, cx_q, wpe_lst, wpe_dnew, wps_xSetF, wps_xAugF, wps_xDPut, gSub_eq, wpe_xMake, wps_xFor, wps_xForE, wpe_xLc, loopQ_ct, loopQ_bk, loopQ_ret, loopQ_exc, wpe_iteBad, wps_iteBad, oIC_wp, bList_wp, bListT_wp, oSlL_wp, oCat_wp, bListD_wp, mkRg_wp, bSet_wp, xSortSet_wp, cDiv_lit, cMul_litL, cMul_litR, rngOk_lit, rngOk_m1, -bList_tup, iR3, xLRg1, xLRg2, xErrF, xIsE, xRaise, RS.unset, RS.noexc, xNext, xAsg, gNameX, gConsX, gNilX, gTupX, xVar, xC, xOp, xUn, oI_int, oNeg_int, xB, asB_bl, xRet, xRetN, xDrop, xBreak, xCont, xCons, xNil, xTup, xCB, xCall, xCallX, xAnd, xOr, xNot, xAndV, xOrV, xNotV, xIf, xYes, xTru, truD, xIsN, xNotN, nonD, xFld, xMeth, xMethX, xBM, xDGet, xDIn, xPart, xNoPart, xSl, nox_ok, toS_ok, finX, iR1, iR2, iL, iT, iE, iZ, xAug, xAssert, str_beq, insX, putFX, putX, valX, keyD_int, keyD_str, List.lookup, oInSet, xDisp, xPCons, xPNil, keysX, mergeX, rdL_app_ge, rdL_app_self, rdL_zero, rdL_succ, at_app_ge, at_app_self, at_zero, at_succ]
  cases m with
  | zero => cases hc
  | succ m =>
    rw [clk] at hc
    have h1 : Hs (pt p.o (chO p (c.at q bits)) :: pt s (.set (memI as) (dedupL as).length) :: pt p.f (.lst (c.fa.map .int)) :: pt p.u (.lst (c.ua.map .int)) :: pt p.b (.lst (bits.map .int)) :: As) S := h.up 1
    have a := h1.at 0
    unfold chO at a
    have hq' : (p.o = p.o) := rfl
    simp (decide := true) [wpe_ret, wpe_exc, wpe_bind, wps_nx, wps_ret, wps_bk, wps_ct, wps_exc, wps_bindS, wps_seq, wps_xSeq, wps_toS, wpe_nox, defQ_ret, defQ_exc, wps_if, cn_k, cn_x, cx_n, cx_q, wpe_lst, wpe_dnew, wps_xSetF, wps_xAugF, wps_xDPut, gSub_eq, wpe_xMake, wps_xFor, wps_xForE, wpe_xLc, loopQ_ct, loopQ_bk, loopQ_ret, loopQ_exc, wpe_iteBad, wps_iteBad, oIC_wp, bList_wp, bListT_wp, oSlL_wp, oCat_wp, bListD_wp, mkRg_wp, bSet_wp, xSortSet_wp, cDiv_lit, cMul_litL, cMul_litR, rngOk_lit, rngOk_m1, -bList_tup, iR3, xLRg1, xLRg2, xErrF, xIsE, xRaise, RS.unset, RS.noexc, xNext, xAsg, gNameX, gConsX, gNilX, gTupX, xVar, xC, xOp, xUn, oI_int, oNeg_int, xB, asB_bl, xRet, xRetN, xDrop, xBreak, xCont, xCons, xNil, xTup, xCB, xCall, xCallX, xAnd, xOr, xNot, xAndV, xOrV, xNotV, xIf, xYes, xTru, truD, xIsN, xNotN, nonD, xFld, xMeth, xMethX, xBM, xDGet, xDIn, xPart, xNoPart, xSl, nox_ok, toS_ok, finX, iR1, iR2, iL, iT, iE, iZ, xAug, xAssert, str_beq, insX, putFX, putX, valX, keyD_int, keyD_str, List.lookup, oInSet, xDisp, xPCons, xPNil, keysX, mergeX, rdL_app_ge, rdL_app_self, rdL_zero, rdL_succ, at_app_ge, at_app_self, at_zero, at_succ, f_Chooser_turn_pointer_b1, a, bLen_ref (h1.rp 4), hb, hn2, Ch.at]
    refine wps_setF h1 (by simp) ?_
    intro S h
    have hq1 : (q + 1) % n < n := Nat.mod_lt _ hn2
    replace h : Hs (pt p.o (chO p (c.at ((q + 1) % n) bits)) :: pt s (.set (memI as) (dedupL as).length) :: pt p.f (.lst (c.fa.map .int)) :: pt p.u (.lst (c.ua.map .int)) :: pt p.b (.lst (bits.map .int)) :: As) S := by
      simp (decide := true) [putFX] at h
      rw [show ((q : Int) + 1) % (n : Int) = (((q + 1) % n : Nat) : Int) by simp] at h
      exact h
    have a := h.at 0
    unfold chO at a
    have bt := bit_at (q := q) (bits := bits) (by omega)
    by_cases ha : memI as q = true
    · rw [if_pos ha] at hc
      by_cases hb0 : bitAt bits q = 0
      · rw [if_pos hb0] at hc
        cases hc
        simp (decide := true) [wpe_ret, wpe_exc, wpe_bind, wps_nx, wps_ret, wps_bk, wps_ct, wps_exc, wps_bindS, wps_seq, wps_xSeq, wps_toS, wpe_nox, defQ_ret, defQ_exc, wps_if, cn_k, cn_x, cx_n, cx_q, wpe_lst, wpe_dnew, wps_xSetF, wps_xAugF, wps_xDPut, gSub_eq, wpe_xMake, wps_xFor, wps_xForE, wpe_xLc, loopQ_ct, loopQ_bk, loopQ_ret, loopQ_exc, wpe_iteBad, wps_iteBad, oIC_wp, bList_wp, bListT_wp, oSlL_wp, oCat_wp, bListD_wp, mkRg_wp, bSet_wp, xSortSet_wp, cDiv_lit, cMul_litL, cMul_litR, rngOk_lit, rngOk_m1, -bList_tup, iR3, xLRg1, xLRg2, xErrF, xIsE, xRaise, RS.unset, RS.noexc, xNext, xAsg, gNameX, gConsX, gNilX, gTupX, xVar, xC, xOp, xUn, oI_int, oNeg_int, xB, asB_bl, xRet, xRetN, xDrop, xBreak, xCont, xCons, xNil, xTup, xCB, xCall, xCallX, xAnd, xOr, xNot, xAndV, xOrV, xNotV, xIf, xYes, xTru, truD, xIsN, xNotN, nonD, xFld, xMeth, xMethX, xBM, xDGet, xDIn, xPart, xNoPart, xSl, nox_ok, toS_ok, finX, iR1, iR2, iL, iT, iE, iZ, xAug, xAssert, str_beq, insX, putFX, putX, valX, keyD_int, keyD_str, List.lookup, oInSet, xDisp, xPCons, xPNil, keysX, mergeX, rdL_app_ge, rdL_app_self, rdL_zero, rdL_succ, at_app_ge, at_app_self, at_zero, at_succ, a, h.at 1, ha, oIxL, h.rp 4, bt, hb0]
        exact (h.up 1).drop
      · rw [if_neg hb0] at hc
        simp (decide := true) [wpe_ret, wpe_exc, wpe_bind, wps_nx, wps_ret, wps_bk, wps_ct, wps_exc, wps_bindS, wps_seq, wps_xSeq, wps_toS, wpe_nox, defQ_ret, defQ_exc, wps_if, cn_k, cn_x, cx_n, cx_q, wpe_lst, wpe_dnew, wps_xSetF, wps_xAugF, wps_xDPut, gSub_eq, wpe_xMake, wps_xFor, wps_xForE, wpe_xLc, loopQ_ct, loopQ_bk, loopQ_ret, loopQ_exc, wpe_iteBad, wps_iteBad, oIC_wp, bList_wp, bListT_wp, oSlL_wp, oCat_wp, bListD_wp, mkRg_wp, bSet_wp, xSortSet_wp, cDiv_lit, cMul_litL, cMul_litR, rngOk_lit, rngOk_m1, -bList_tup, iR3, xLRg1, xLRg2, xErrF, xIsE, xRaise, RS.unset, RS.noexc, xNext, xAsg, gNameX, gConsX, gNilX, gTupX, xVar, xC, xOp, xUn, oI_int, oNeg_int, xB, asB_bl, xRet, xRetN, xDrop, xBreak, xCont, xCons, xNil, xTup, xCB, xCall, xCallX, xAnd, xOr, xNot, xAndV, xOrV, xNotV, xIf, xYes, xTru, truD, xIsN, xNotN, nonD, xFld, xMeth, xMethX, xBM, xDGet, xDIn, xPart, xNoPart, xSl, nox_ok, toS_ok, finX, iR1, iR2, iL, iT, iE, iZ, xAug, xAssert, str_beq, insX, putFX, putX, valX, keyD_int, keyD_str, List.lookup, oInSet, xDisp, xPCons, xPNil, keysX, mergeX, rdL_app_ge, rdL_app_self, rdL_zero, rdL_succ, at_app_ge, at_app_self, at_zero, at_succ, a, h.at 1, ha, oIxL, h.rp 4, bt, hb0]
        refine wpe_setL (h.up 4) (j := q) (by rw [List.length_map, ixN_of (by omega) (by omega)]; simp) ?_
        intro S h
        rw [putM] at h
        exact ⟨m, by omega, _, rfl, _, _, hq1, by rw [List.length_set]; exact hb, hc, ((h.dn 4).up 1)⟩
    · rw [if_neg ha] at hc
      simp (decide := true) [wpe_ret, wpe_exc, wpe_bind, wps_nx, wps_ret, wps_bk, wps_ct, wps_exc, wps_bindS, wps_seq, wps_xSeq, wps_toS, wpe_nox, defQ_ret, defQ_exc, wps_if, cn_k, cn_x, cx_n, cx_q, wpe_lst, wpe_dnew, wps_xSetF, wps_xAugF, wps_xDPut, gSub_eq, wpe_xMake, wps_xFor, wps_xForE, wpe_xLc, loopQ_ct, loopQ_bk, loopQ_ret, loopQ_exc, wpe_iteBad, wps_iteBad, oIC_wp, bList_wp, bListT_wp, oSlL_wp, oCat_wp, bListD_wp, mkRg_wp, bSet_wp, xSortSet_wp, cDiv_lit, cMul_litL, cMul_litR, rngOk_lit, rngOk_m1, -bList_tup, iR3, xLRg1, xLRg2, xErrF, xIsE, xRaise, RS.unset, RS.noexc, xNext, xAsg, gNameX, gConsX, gNilX, gTupX, xVar, xC, xOp, xUn, oI_int, oNeg_int, xB, asB_bl, xRet, xRetN, xDrop, xBreak, xCont, xCons, xNil, xTup, xCB, xCall, xCallX, xAnd, xOr, xNot, xAndV, xOrV, xNotV, xIf, xYes, xTru, truD, xIsN, xNotN, nonD, xFld, xMeth, xMethX, xBM, xDGet, xDIn, xPart, xNoPart, xSl, nox_ok, toS_ok, finX, iR1, iR2, iL, iT, iE, iZ, xAug, xAssert, str_beq, insX, putFX, putX, valX, keyD_int, keyD_str, List.lookup, oInSet, xDisp, xPCons, xPNil, keysX, mergeX, rdL_app_ge, rdL_app_self, rdL_zero, rdL_succ, at_app_ge, at_app_self, at_zero, at_succ, a, h.at 1, ha]
      exact ⟨m, by omega, _, _, hq1, hb, hc, h.up 1⟩
/-- the plain one -/
def PickI (p : PlP) (d : Pln) (n r q' : Nat) (as bits' : List Int) (As : List Asn) (m : Nat) (S : Sto) : Prop := ∃ (q : Nat) (bits : List Int), q < n ∧ bits.length = n ∧ clk as n m q bits = some (r, q', bits') ∧ Hs (plL p (d.at q bits) ++ As) S
theorem pclock_ok (h : Hs (plL pp d ++ As) S) (hn : PlN d n) (hk : d.kind = "clock") (hq : d.un = (q : Int)) (hq2 : q < n) (hn3 : n ≤ 1000) (hr : Mi.Rd As l (as.map .int)) (hc : clk as n (2 * n) q d.bi = some (r, q', bits')) :
    Ok (f_l_chooser_pick [.ref pp.d, .ref l] S) fun v S' => v = .int r ∧ Hs (plL pp (d.at q' bits') ++ As) S' := by
  have hn2 : 0 < n := by omega
  rw [f_l_chooser_pick_eq]
  refine Ok.def rfl ?_
  have a := (show Hs (pt pp.d (plO pp d) :: _) S from h).at0
  unfold plO at a
  have rb := (show Hs (pt pp.d (plO pp d) :: pt pp.f (.lst (d.fi.map .int)) :: pt pp.u (.lst (d.us.map .int)) :: pt pp.b (.lst (d.bi.map .int)) :: pt pp.l (.lst (d.fl.map .bl)) :: As) S from h).rp 3
  simp (decide := true) [wpe_ret, wpe_exc, wpe_bind, wps_nx, wps_ret, wps_bk, wps_ct, wps_exc, wps_bindS, wps_seq, wps_xSeq, wps_toS, wpe_nox, defQ_ret, defQ_exc, wps_if, cn_k, cn_x, cx_n, cx_q, wpe_lst, wpe_dnew, wps_xSetF, wps_xAugF, wps_xDPut, gSub_eq, wpe_xMake, wps_xFor, wps_xForE, wpe_xLc, loopQ_ct, loopQ_bk, loopQ_ret, loopQ_exc, wpe_iteBad, wps_iteBad, oIC_wp, bList_wp, bListT_wp, oSlL_wp, oCat_wp, bListD_wp, mkRg_wp, bSet_wp, xSortSet_wp, cDiv_lit, cMul_litL, cMul_litR, rngOk_lit, rngOk_m1, -bList_tup, iR3, xLRg1, xLRg2, xErrF, xIsE, xRaise, RS.unset, RS.noexc, xNext, xAsg, gNameX, gConsX, gNilX, gTupX, xVar, xC, xOp, xUn, oI_int, oNeg_int, xB, asB_bl, xRet, xRetN, xDrop, xBreak, xCont, xCons, xNil, xTup, xCB, xCall, xCallX, xAnd, xOr, xNot, xAndV, xOrV, xNotV, xIf, xYes, xTru, truD, xIsN, xNotN, nonD, xFld, xMeth, xMethX, xBM, xDGet, xDIn, xPart, xNoPart, xSl, nox_ok, toS_ok, finX, iR1, iR2, iL, iT, iE, iZ, xAug, xAssert, str_beq, insX, putFX, putX, valX, keyD_int, keyD_str, List.lookup, oInSet, xDisp, xPCons, xPNil, keysX, mergeX, rdL_app_ge, rdL_app_self, rdL_zero, rdL_succ, at_app_ge, at_app_self, at_zero, at_succ, oDGet, getDX, a, hk, f_l_chooser_pick_l1, bLen_ref rb, hn.b]
  refine ⟨rngOk (by omega), ?_⟩
  rw [show (2 * (n : Int)).toNat = 2 * n by omega]
  refine wps_loop (fun i env S => i ≤ 2 * n ∧ (∃ o2 o3, env = [some (.ref pp.d), some (.ref l), o2, o3, none, none]) ∧ PickI pp d n r q' as bits' As (2 * n - i) S) ⟨by omega, ⟨_, _, rfl⟩, q, d.bi, hq2, hn.b, hc, ?_⟩ (fun _ _ _ _ => trivial) ?_ ?_
  · rw [show d.at q d.bi = d by unfold Pln.at; rw [← hq]]
    exact h
  · rintro i x env S hx ⟨hi2, ⟨o2, o3, rfl⟩, q, bits, hq, hb, hc, h⟩
    obtain ⟨hi, rfl⟩ := rngD_get hx
    obtain ⟨m, hm⟩ : ∃ m, 2 * n - i = m + 1 := ⟨2 * n - i - 1, by omega⟩
    have hm2 : 2 * n - (i + 1) = m := by omega
    rw [hm, clk] at hc
    rw [hm2]
    replace h : Hs (pt pp.d (plO pp (d.at q bits)) :: pt pp.f (.lst (d.fi.map .int)) :: pt pp.u (.lst (d.us.map .int)) :: pt pp.b (.lst (bits.map .int)) :: pt pp.l (.lst (d.fl.map .bl)) :: As) S := h
    have a := h.at 0
    unfold plO at a
    simp (decide := true) [wpe_ret, wpe_exc, wpe_bind, wps_nx, wps_ret, wps_bk, wps_ct, wps_exc, wps_bindS, wps_seq, wps_xSeq, wps_toS, wpe_nox, defQ_ret, defQ_exc, wps_if, cn_k, cn_x, cx_n, cx_q, wpe_lst, wpe_dnew, wps_xSetF, wps_xAugF, wps_xDPut, gSub_eq, wpe_xMake, wps_xFor, wps_xForE, wpe_xLc, loopQ_ct, loopQ_bk, loopQ_ret, loopQ_exc, wpe_iteBad, wps_iteBad, oIC_wp, bList_wp, bListT_wp, oSlL_wp, oCat_wp, bListD_wp, mkRg_wp, bSet_wp, xSortSet_wp, cDiv_lit, cMul_litL, cMul_litR, rngOk_lit, rngOk_m1, -bList_tup, iR3, xLRg1, xLRg2, xErrF, xIsE, xRaise, RS.unset, RS.noexc, xNext, xAsg, gNameX, gConsX, gNilX, gTupX, xVar, xC, xOp, xUn, oI_int, oNeg_int, xB, asB_bl, xRet, xRetN, xDrop, xBreak, xCont, xCons, xNil, xTup, xCB, xCall, xCallX, xAnd, xOr, xNot, xAndV, xOrV, xNotV, xIf, xYes, xTru, truD, xIsN, xNotN, nonD, xFld, xMeth, xMethX, xBM, xDGet, xDIn, xPart, xNoPart, xSl, nox_ok, toS_ok, finX, iR1, iR2, iL, iT, iE, iZ, xAug, xAssert, str_beq, insX, putFX, putX, valX, keyD_int, keyD_str, List.lookup, oInSet, xDisp, xPCons, xPNil, keysX, mergeX, rdL_app_ge, rdL_app_self, rdL_zero, rdL_succ, at_app_ge, at_app_self, at_zero, at_succ, f_l_chooser_pick_b1, oDGet, getDX, a, bLen_ref (h.rp 3), hb, hn2, Pln.at]
    refine wps_putD h rfl (by simp) ?_
    intro S h
    have hq1 : (q + 1) % n < n := Nat.mod_lt _ hn2
    replace h : Hs (pt pp.d (plO pp (d.at ((q + 1) % n) bits)) :: pt pp.f (.lst (d.fi.map .int)) :: pt pp.u (.lst (d.us.map .int)) :: pt pp.b (.lst (bits.map .int)) :: pt pp.l (.lst (d.fl.map .bl)) :: As) S := by
      simp (decide := true) [putX] at h
      rw [show ((q : Int) + 1) % (n : Int) = (((q + 1) % n : Nat) : Int) by simp] at h
      exact h
    have a := h.at 0
    unfold plO at a
    have bt := bit_at (q := q) (bits := bits) (by omega)
    have rl := hr.cons.cons.cons.cons.cons _ h
    have rb := h.rp 3
    by_cases ha : memI as q = true
    · rw [if_pos ha] at hc
      by_cases hb0 : bitAt bits q = 0
      · rw [if_pos hb0] at hc
        cases hc
        simp (decide := true) [wpe_ret, wpe_exc, wpe_bind, wps_nx, wps_ret, wps_bk, wps_ct, wps_exc, wps_bindS, wps_seq, wps_xSeq, wps_toS, wpe_nox, defQ_ret, defQ_exc, wps_if, cn_k, cn_x, cx_n, cx_q, wpe_lst, wpe_dnew, wps_xSetF, wps_xAugF, wps_xDPut, gSub_eq, wpe_xMake, wps_xFor, wps_xForE, wpe_xLc, loopQ_ct, loopQ_bk, loopQ_ret, loopQ_exc, wpe_iteBad, wps_iteBad, oIC_wp, bList_wp, bListT_wp, oSlL_wp, oCat_wp, bListD_wp, mkRg_wp, bSet_wp, xSortSet_wp, cDiv_lit, cMul_litL, cMul_litR, rngOk_lit, rngOk_m1, -bList_tup, iR3, xLRg1, xLRg2, xErrF, xIsE, xRaise, RS.unset, RS.noexc, xNext, xAsg, gNameX, gConsX, gNilX, gTupX, xVar, xC, xOp, xUn, oI_int, oNeg_int, xB, asB_bl, xRet, xRetN, xDrop, xBreak, xCont, xCons, xNil, xTup, xCB, xCall, xCallX, xAnd, xOr, xNot, xAndV, xOrV, xNotV, xIf, xYes, xTru, truD, xIsN, xNotN, nonD, xFld, xMeth, xMethX, xBM, xDGet, xDIn, xPart, xNoPart, xSl, nox_ok, toS_ok, finX, iR1, iR2, iL, iT, iE, iZ, xAug, xAssert, str_beq, insX, putFX, putX, valX, keyD_int, keyD_str, List.lookup, oInSet, xDisp, xPCons, xPNil, keysX, mergeX, rdL_app_ge, rdL_app_self, rdL_zero, rdL_succ, at_app_ge, at_app_self, at_zero, at_succ, f_l_chooser_pick_t1, oDGet, getDX, a, oIn, scV, itemsOf, rl, scVs_ints, inV_ints, ha, oIxL, rb, bt, hb0]
        exact h
      · rw [if_neg hb0] at hc
        simp (decide := true) [wpe_ret, wpe_exc, wpe_bind, wps_nx, wps_ret, wps_bk, wps_ct, wps_exc, wps_bindS, wps_seq, wps_xSeq, wps_toS, wpe_nox, defQ_ret, defQ_exc, wps_if, cn_k, cn_x, cx_n, cx_q, wpe_lst, wpe_dnew, wps_xSetF, wps_xAugF, wps_xDPut, gSub_eq, wpe_xMake, wps_xFor, wps_xForE, wpe_xLc, loopQ_ct, loopQ_bk, loopQ_ret, loopQ_exc, wpe_iteBad, wps_iteBad, oIC_wp, bList_wp, bListT_wp, oSlL_wp, oCat_wp, bListD_wp, mkRg_wp, bSet_wp, xSortSet_wp, cDiv_lit, cMul_litL, cMul_litR, rngOk_lit, rngOk_m1, -bList_tup, iR3, xLRg1, xLRg2, xErrF, xIsE, xRaise, RS.unset, RS.noexc, xNext, xAsg, gNameX, gConsX, gNilX, gTupX, xVar, xC, xOp, xUn, oI_int, oNeg_int, xB, asB_bl, xRet, xRetN, xDrop, xBreak, xCont, xCons, xNil, xTup, xCB, xCall, xCallX, xAnd, xOr, xNot, xAndV, xOrV, xNotV, xIf, xYes, xTru, truD, xIsN, xNotN, nonD, xFld, xMeth, xMethX, xBM, xDGet, xDIn, xPart, xNoPart, xSl, nox_ok, toS_ok, finX, iR1, iR2, iL, iT, iE, iZ, xAug, xAssert, str_beq, insX, putFX, putX, valX, keyD_int, keyD_str, List.lookup, oInSet, xDisp, xPCons, xPNil, keysX, mergeX, rdL_app_ge, rdL_app_self, rdL_zero, rdL_succ, at_app_ge, at_app_self, at_zero, at_succ, f_l_chooser_pick_t1, oDGet, getDX, a, oIn, scV, itemsOf, rl, scVs_ints, inV_ints, ha, oIxL, rb, bt, hb0]
        refine wpe_setL (h.up 3) (j := q) (by rw [List.length_map, ixN_of (by omega) (by omega)]; simp) ?_
        intro S h
        rw [putM] at h
        exact ⟨by omega, ⟨_, _, rfl⟩, _, _, hq1, by rw [List.length_set]; exact hb, hc, (h.dn 3)⟩
    · rw [if_neg ha] at hc
      simp (decide := true) [wpe_ret, wpe_exc, wpe_bind, wps_nx, wps_ret, wps_bk, wps_ct, wps_exc, wps_bindS, wps_seq, wps_xSeq, wps_toS, wpe_nox, defQ_ret, defQ_exc, wps_if, cn_k, cn_x, cx_n, cx_q, wpe_lst, wpe_dnew, wps_xSetF, wps_xAugF, wps_xDPut, gSub_eq, wpe_xMake, wps_xFor, wps_xForE, wpe_xLc, loopQ_ct, loopQ_bk, loopQ_ret, loopQ_exc, wpe_iteBad, wps_iteBad, oIC_wp, bList_wp, bListT_wp, oSlL_wp, oCat_wp, bListD_wp, mkRg_wp, bSet_wp, xSortSet_wp, cDiv_lit, cMul_litL, cMul_litR, rngOk_lit, rngOk_m1, -bList_tup, iR3, xLRg1, xLRg2, xErrF, xIsE, xRaise, RS.unset, RS.noexc, xNext, xAsg, gNameX, gConsX, gNilX, gTupX, xVar, xC, xOp, xUn, oI_int, oNeg_int, xB, asB_bl, xRet, xRetN, xDrop, xBreak, xCont, xCons, xNil, xTup, xCB, xCall, xCallX, xAnd, xOr, xNot, xAndV, xOrV, xNotV, xIf, xYes, xTru, truD, xIsN, xNotN, nonD, xFld, xMeth, xMethX, xBM, xDGet, xDIn, xPart, xNoPart, xSl, nox_ok, toS_ok, finX, iR1, iR2, iL, iT, iE, iZ, xAug, xAssert, str_beq, insX, putFX, putX, valX, keyD_int, keyD_str, List.lookup, oInSet, xDisp, xPCons, xPNil, keysX, mergeX, rdL_app_ge, rdL_app_self, rdL_zero, rdL_succ, at_app_ge, at_app_self, at_zero, at_succ, f_l_chooser_pick_t1, oDGet, getDX, a, oIn, scV, itemsOf, rl, scVs_ints, inV_ints, ha]
      exact ⟨by omega, _, _, hq1, hb, hc, h⟩
  · rintro _ S ⟨hi2, ⟨o2, o3, rfl⟩, q, bits, hq, hb, hc, h⟩
    rw [rngD_len, Nat.sub_self] at hc
    cases hc
end

section
open Mi
/-! ### all four kinds, all frames allowed -/
def allN (n : Nat) : List Int := (List.range n).map fun i : Nat => (i : Int)
theorem allN_len {n : Nat} : (allN n).length = n := by simp [allN]
theorem allN_mem {n : Nat} {x : Int} (h : x ∈ allN n) : 0 ≤ x ∧ x < (n : Int) := by
  obtain ⟨i, hi, rfl⟩ := List.mem_map.mp h
  have := List.mem_range.mp hi
  omega
theorem allN_rng {n : Nat} : rngD 0 n = (allN n).map .int := by
  simp [rngD, allN]
theorem allN_zero {n : Nat} (h : 0 < n) : memI (allN n) ((0 : Nat) : Int) = true := memI_iff.mpr (List.mem_map.mpr ⟨0, List.mem_range.mpr h, rfl⟩)
theorem allN_cons {n : Nat} (h : 0 < n) : ∃ n0 r, allN n = n0 :: r := by
  cases e : allN n with
  | nil => have := allN_len (n := n); rw [e] at this; simp at this; omega
  | cons a r => exact ⟨a, r, rfl⟩
def Kind4 (k : Str) : Prop := KindOk k ∨ k = "clock"
def choiceL (k : Str) (f u : List Int) : List Int → Int
  | [] => 0
  | n0 :: r => choice k f u n0 r
def pickC (n : Nat) (c : Ch) : Nat × Ch := if c.kind = "clock" then (match clk (allN n) n (2 * n) c.ptr.toNat c.bits with
    | some (r, q', bits') => (r, c.at q' bits')
    | none => (0, c)) else ((choiceL c.kind c.fa c.ua (allN n)).toNat, c)
def pickD (n : Nat) (d : Pln) : Nat × Pln := if d.kind = "clock" then (match clk (allN n) n (2 * n) d.un.toNat d.bi with
    | some (r, q', bits') => (r, d.at q' bits')
    | none => (0, d)) else ((choiceL d.kind d.fi d.us (allN n)).toNat, d)
structure B4 (c : Ch) (d : Pln) (n : Nat) : Prop where
  kd : Kind4 c.kind
  k : d.kind = c.kind
  bb : d.bi = c.bits
  b : c.bits.length = n
  l : d.fl.length = n
  pp : d.un = c.ptr
  p0 : 0 ≤ c.ptr ∧ c.ptr < (n : Int)
  f : Iso c.fa d.fi c.time d.time n
  u : Iso c.ua d.us c.time d.time n
section
variable {c : Ch} {d : Pln} {n i l : Nat} {As : List Asn} {S : Sto} {p : ChP} {q : PlP}
theorem B4.ch (h : B4 c d n) : ChN c n := ⟨h.f.lx, h.u.lx, h.b⟩
theorem B4.pl (h : B4 c d n) : PlN d n := ⟨h.f.ly, h.u.ly, by rw [h.bb]; exact h.b, h.l⟩
theorem B4.touched (h : B4 c d n) (hi : i < n) : B4 (c.touched i) (d.touched i) n :=
  ⟨h.kd, h.k, by simp [Ch.touched, Pln.touched, h.bb], by simp [Ch.touched, h.b], by simp [Pln.touched, h.l], h.pp, h.p0, h.f.up (show c.time ≤ c.time + 1 by omega) (show d.time ≤ d.time + 1 by omega), h.u.put hi⟩
theorem B4.filled (h : B4 c d n) (hi : i < n) : B4 (c.filled i) (d.filled i) n :=
  ⟨h.kd, h.k, by simp [Ch.filled, Pln.filled, h.bb], by simp [Ch.filled, h.b], by simp [Pln.filled, h.l], h.pp, h.p0, h.f.put hi, h.u.put hi⟩
theorem B4.emptied (h : B4 c d n) : B4 (c.emptied i) (d.emptied i) n :=
  ⟨h.kd, h.k, by simp [Ch.emptied, Pln.emptied, h.bb], by simp [Ch.emptied, h.b], by simp [Pln.emptied, h.l], h.pp, h.p0, h.f.up (Int.le_refl _) (show d.time ≤ d.time + 1 by omega), h.u.up (Int.le_refl _) (show d.time ≤ d.time + 1 by omega)⟩
theorem B4.new {k : Str} (h : Kind4 k) (hn : 0 < n) : B4 (Ch.new k n) (Pln.new k n) n := by
  have z : Iso (List.replicate n (0 : Int)) (List.replicate n (0 : Int)) 0 0 n := ⟨by simp, by simp, fun x hx => by rw [List.eq_of_mem_replicate hx]; decide, fun x hx => by rw [List.eq_of_mem_replicate hx]; decide, fun _ _ _ _ => Iff.rfl⟩
  exact ⟨h, rfl, rfl, by simp [Ch.new], by simp [Pln.new], rfl, ⟨Int.le_refl _, show (0 : Int) < (n : Int) by omega⟩, z, z⟩
theorem choiceL_in {k : Str} {f u : List Int} (hn : 0 < n) : 0 ≤ choiceL k f u (allN n) ∧ choiceL k f u (allN n) < (n : Int) := by
  obtain ⟨n0, r, e⟩ := allN_cons hn
  have m : choiceL k f u (allN n) ∈ allN n := by
    rw [e]
    exact bst_mem
  exact allN_mem m
theorem B4.pick (h : B4 c d n) (hn : 0 < n) : (pickC n c).1 < n ∧ (pickD n d).1 = (pickC n c).1 ∧ B4 (pickC n c).2 (pickD n d).2 n := by
  unfold pickC pickD
  rw [h.k, h.bb, h.pp]
  by_cases hc : c.kind = "clock"
  · rw [if_pos hc, if_pos hc]
    obtain ⟨x, hx⟩ := clk_ok (p := c.ptr.toNat) (bits := c.bits) (allN_zero hn) hn (by have := h.p0; omega)
    obtain ⟨r, q', bits'⟩ := x
    have z := clk_in hn (by have := h.p0; omega) hx
    rw [hx]
    refine ⟨z.2.1, rfl, h.kd, h.k, rfl, ?_, h.l, rfl, ⟨?_, ?_⟩, h.f, h.u⟩
    · show bits'.length = n
      rw [z.2.2.2]; exact h.b
    · show (0 : Int) ≤ (q' : Int)
      omega
    · show (q' : Int) < (n : Int)
      have := z.2.2.1
      exact Int.ofNat_lt.mpr this
  · rw [if_neg hc, if_neg hc]
    have e : choiceL c.kind d.fi d.us (allN n) = choiceL c.kind c.fa c.ua (allN n) := by
      obtain ⟨n0, r, e⟩ := allN_cons hn
      rw [e]
      have hb : ∀ i ∈ n0 :: r, 0 ≤ i ∧ i < (n : Int) := fun i hi => allN_mem (by rw [e]; exact hi)
      refine bst_iso fun x hx y hy => ?_
      have b1 := hb x hx
      have b2 := hb y hy
      unfold kfL
      split
      · exact (h.u.iff _ _ (by omega) (by omega)).symm
      · exact (h.f.iff _ _ (by omega) (by omega)).symm
    have z := choiceL_in (k := c.kind) (f := c.fa) (u := c.ua) hn
    exact ⟨by show Int.toNat _ < n; omega, by rw [e], h⟩
theorem choose4 (h : Hs (chL p c ++ As) S) (hB : B4 c d n) (hn : 0 < n ∧ n ≤ 1000) (ht : at_ S 1 = some (.tbls tabs0)) (hr : rdL S l = some ((allN n).map .int)) :
    Ok (f_Chooser_choose [.ref p.o, .ref l] S) fun v S' => v = .int ((pickC n c).1 : Nat) ∧ Hs (chL p (pickC n c).2 ++ As) S' := by
  by_cases hc : c.kind = "clock"
  · obtain ⟨x, hx⟩ := clk_ok (p := c.ptr.toNat) (bits := c.bits) (allN_zero hn.1) hn.1 (by have := hB.p0; omega)
    obtain ⟨r, q', bits'⟩ := x
    have e : pickC n c = (r, c.at q' bits') := by
      unfold pickC
      rw [if_pos hc, hx]
    rw [e, f_Chooser_choose_eq]
    refine Ok.def rfl ?_
    have a := (show Hs (pt p.o (chO p c) :: _) S from h).at0
    unfold chO at a
    simp (decide := true) [wpe_ret, wpe_exc, wpe_bind, wps_nx, wps_ret, wps_bk, wps_ct, wps_exc, wps_bindS, wps_seq, wps_xSeq, wps_toS, wpe_nox, defQ_ret, defQ_exc, wps_if, cn_k, cn_x, cx_n, cx_q, wpe_lst, wpe_dnew, wps_xSetF, wps_xAugF, wps_xDPut, gSub_eq, wpe_xMake, wps_xFor, wps_xForE, wpe_xLc, loopQ_ct, loopQ_bk, loopQ_ret, loopQ_exc, wpe_iteBad, wps_iteBad, oIC_wp, bList_wp, bListT_wp, oSlL_wp, oCat_wp, bListD_wp, mkRg_wp, bSet_wp, xSortSet_wp, cDiv_lit, cMul_litL, cMul_litR, rngOk_lit, rngOk_m1, -bList_tup, iR3, xLRg1, xLRg2, xErrF, xIsE, xRaise, RS.unset, RS.noexc, xNext, xAsg, gNameX, gConsX, gNilX, gTupX, xVar, xC, xOp, xUn, oI_int, oNeg_int, xB, asB_bl, xRet, xRetN, xDrop, xBreak, xCont, xCons, xNil, xTup, xCB, xCall, xCallX, xAnd, xOr, xNot, xAndV, xOrV, xNotV, xIf, xYes, xTru, truD, xIsN, xNotN, nonD, xFld, xMeth, xMethX, xBM, xDGet, xDIn, xPart, xNoPart, xSl, nox_ok, toS_ok, finX, iR1, iR2, iL, iT, iE, iZ, xAug, xAssert, str_beq, insX, putFX, putX, valX, keyD_int, keyD_str, List.lookup, oInSet, xDisp, xPCons, xPNil, keysX, mergeX, rdL_app_ge, rdL_app_self, rdL_zero, rdL_succ, at_app_ge, at_app_self, at_zero, at_succ, a, hc]
    exact wpe_k (turn_ok h hB.ch (q := c.ptr.toNat) (by have := hB.p0; omega) (by have := hB.p0; omega) hr (by rw [allN_len]; omega) hx) fun v S' z => z
  · have ko : KindOk c.kind := hB.kd.resolve_right hc
    obtain ⟨n0, r, e⟩ := allN_cons hn.1
    have z := choiceL_in (k := c.kind) (f := c.fa) (u := c.ua) hn.1
    have e2 : pickC n c = ((choiceL c.kind c.fa c.ua (allN n)).toNat, c) := by
      unfold pickC
      rw [if_neg hc]
    rw [e2]
    rw [e] at hr
    refine Ok.mono (choose_ok h hB.ch ko ht hr fun i hi => allN_mem (by rw [e]; exact hi)) ?_
    rintro _ _ ⟨rfl, rfl⟩
    refine ⟨?_, h⟩
    rw [e] at z ⊢
    show D.int (choiceL _ _ _ (n0 :: r)) = _
    congr 1
    dsimp only
    omega
theorem pick4 (h : Hs (plL q d ++ As) S) (hB : B4 c d n) (hn : 0 < n ∧ n ≤ 1000) (hr : Mi.Rd As l ((allN n).map .int)) :
    Ok (f_l_chooser_pick [.ref q.d, .ref l] S) fun v S' => v = .int ((pickD n d).1 : Nat) ∧ Hs (plL q (pickD n d).2 ++ As) S' := by
  by_cases hc : d.kind = "clock"
  · obtain ⟨x, hx⟩ := clk_ok (p := d.un.toNat) (bits := d.bi) (allN_zero hn.1) hn.1 (by have := hB.p0; rw [hB.pp]; omega)
    obtain ⟨r, q', bits'⟩ := x
    have e : pickD n d = (r, d.at q' bits') := by
      unfold pickD
      rw [if_pos hc, hx]
    rw [e]
    exact pclock_ok h hB.pl hc (q := d.un.toNat) (by have := hB.p0; rw [hB.pp]; omega) (by have := hB.p0; rw [hB.pp]; omega) hn.2 hr hx
  · have ko : KindOk d.kind := by rw [hB.k] at hc ⊢; exact hB.kd.resolve_right hc
    obtain ⟨n0, r, e⟩ := allN_cons hn.1
    have z := choiceL_in (k := d.kind) (f := d.fi) (u := d.us) hn.1
    have e2 : pickD n d = ((choiceL d.kind d.fi d.us (allN n)).toNat, d) := by
      unfold pickD
      rw [if_neg hc]
    rw [e2]
    rw [e] at hr
    have lr : r.length ≤ 1000 := by have := allN_len (n := n); rw [e] at this; simp at this; omega
    refine Ok.mono (ppick_ok h hB.pl ko hr (fun i hi => allN_mem (by rw [e]; exact hi)) lr) ?_
    rintro _ S ⟨rfl, h⟩
    refine ⟨?_, h⟩
    rw [e] at z ⊢
    show D.int (choiceL _ _ _ (n0 :: r)) = _
    congr 1
    dsimp only
    omega
end
end

section
open Mi
/-! ### lists of frames -/
def frD : Option Int → D
  | none => .non
  | some i => .int i
def frV : Option Int → V
  | none => .non
  | some i => .int i
def ixF (o : Option Int) (fr : List (Option Int)) : Option Nat := fr.findIdx? fun y => y == o
theorem scVs_fr : ∀ fr : List (Option Int), scVs (fr.map frD) = some (fr.map frV)
  | [] => rfl
  | o :: r => by
    have : scV (frD o) = some (frV o) := by cases o <;> rfl
    rw [List.map_cons, scVs, this, scVs_fr r]
    rfl
theorem eqV_fr {a o : Option Int} : eqV (frV a) (frV o) = (a == o) := by cases a <;> cases o <;> rfl
theorem ix_fr {o : Option Int} {fr : List (Option Int)} : (fr.map frV).findIdx? (fun w => eqV w (frV o)) = ixF o fr := by
  rw [List.findIdx?_map]
  unfold ixF
  congr 1
  funext a
  exact eqV_fr
theorem inV_fr {o : Option Int} {fr : List (Option Int)} : inV (frV o) (fr.map frV) = (ixF o fr).isSome := by
  rw [← ix_fr, List.findIdx?_isSome]
  rfl
section
variable {S : Sto} {l n : Nat} {fr : List (Option Int)} {x : Int}
theorem oIn_int (h : rdL S l = some (fr.map frD)) : oIn false (.int x) (.ref l) S = .ok (.bl (ixF (some x) fr).isSome) S := by
  have := inV_fr (o := some x) (fr := fr)
  simp only [oIn, scV, itemsOf, h, Option.bind_some, scVs_fr]
  rw [← this]
  rfl
theorem oIn_non (h : rdL S l = some (fr.map frD)) : oIn false .non (.ref l) S = .ok (.bl (ixF none fr).isSome) S := by
  have := inV_fr (o := none) (fr := fr)
  simp only [oIn, scV, itemsOf, h, Option.bind_some, scVs_fr]
  rw [← this]
  rfl
theorem mIx_int {j : Nat} (h : rdL S l = some (fr.map frD)) (e : ixF (some x) fr = some j) : mIndex (.ref l) [.int x] S = .ok (.int (j : Nat)) S := by
  rw [← ix_fr] at e
  simp only [mIndex, h, Option.bind_some, scVs_fr, scV]
  show (match (fr.map frV).findIdx? (fun w => eqV w (frV (some x))) with
    | some j => _
    | none => _) = _
  rw [e]
theorem mIx_non {j : Nat} (h : rdL S l = some (fr.map frD)) (e : ixF none fr = some j) : mIndex (.ref l) [.non] S = .ok (.int (j : Nat)) S := by
  rw [← ix_fr] at e
  simp only [mIndex, h, Option.bind_some, scVs_fr, scV]
  show (match (fr.map frV).findIdx? (fun w => eqV w (frV none)) with
    | some j => _
    | none => _) = _
  rw [e]
theorem ixF_lt {o : Option Int} {j : Nat} (e : ixF o fr = some j) : j < fr.length := (List.findIdx?_eq_some_iff_getElem.mp e).1
theorem set_fr {j : Nat} {o : Option Int} : (fr.map frD).set j (frD o) = (fr.set j o).map frD := by rw [List.map_set]
end
/-! ### page-ins, reckoned -/
structure Ops (σ : Type) where
  t : σ → Nat → σ
  f : σ → Nat → σ
  e : σ → Nat → σ
  pk : σ → Nat × σ
section
variable {σ : Type} (O : Ops σ)
def slotP (st : σ × List (Option Int)) : Nat × σ := match ixF none st.2 with
  | some j => (j, st.1)
  | none => ((O.pk st.1).1, O.e (O.pk st.1).2 (O.pk st.1).1)
structure PiS (σ : Type) where
  s : σ
  fr : List (Option Int)
  fo : List Int
  at' : Nat
def goS (a : PiS σ) (x : Int) : PiS σ := match ixF (some x) a.fr with
  | some j => ⟨O.t a.s j, a.fr, a.fo, a.at' + 1⟩
  | none => ⟨O.f (slotP O (a.s, a.fr)).2 (slotP O (a.s, a.fr)).1, a.fr.set (slotP O (a.s, a.fr)).1 (some x), a.fo ++ [(a.at' : Int)], a.at' + 1⟩
def goP (s : σ) (n : Nat) (ts : List Int) : PiS σ := ts.foldl (goS O) ⟨s, List.replicate n none, [], 0⟩
theorem goP_snoc {s : σ} {n : Nat} {ts : List Int} {x : Int} : goP O s n (ts ++ [x]) = goS O (goP O s n ts) x := by
  unfold goP
  rw [List.foldl_append]
  rfl
theorem goP_at {s : σ} {n : Nat} (ts : List Int) : (goP O s n ts).at' = ts.length ∧ (goP O s n ts).fo.length ≤ ts.length := by
  have : ∀ (ts : List Int) (a : PiS σ), (ts.foldl (goS O) a).at' = a.at' + ts.length ∧ (ts.foldl (goS O) a).fo.length ≤ a.fo.length + ts.length := fun ts => by
    induction ts with
    | nil => intro a; exact ⟨rfl, Nat.le_refl _⟩
    | cons x r ih =>
      intro a
      rw [List.foldl_cons, List.length_cons]
      have q : (goS O a x).at' = a.at' + 1 ∧ (goS O a x).fo.length ≤ a.fo.length + 1 := by
        unfold goS
        split
        · exact ⟨rfl, Nat.le_succ _⟩
        · exact ⟨rfl, by simp⟩
      have := ih (goS O a x)
      omega
  have h := this ts ⟨s, List.replicate n none, [], 0⟩
  unfold goP
  simpa using h
end
def opsC (n : Nat) : Ops Ch := ⟨Ch.touched, Ch.filled, Ch.emptied, pickC n⟩
def opsD (n : Nat) : Ops Pln := ⟨Pln.touched, Pln.filled, Pln.emptied, pickD n⟩
structure Sim (n : Nat) (a : PiS Ch) (b : PiS Pln) : Prop where
  b4 : B4 a.s b.s n
  fr : a.fr = b.fr
  fo : a.fo = b.fo
  at' : a.at' = b.at'
  ln : a.fr.length = n
theorem Sim.slot {n : Nat} {a : PiS Ch} {b : PiS Pln} (h : Sim n a b) (hn : 0 < n) : (slotP (opsC n) (a.s, a.fr)).1 < n ∧ (slotP (opsD n) (b.s, b.fr)).1 = (slotP (opsC n) (a.s, a.fr)).1 ∧ B4 (slotP (opsC n) (a.s, a.fr)).2 (slotP (opsD n) (b.s, b.fr)).2 n := by
  unfold slotP
  dsimp only
  rw [← h.fr]
  cases e : ixF none a.fr with
  | some j => exact ⟨by have := ixF_lt e; rw [h.ln] at this; exact this, rfl, h.b4⟩
  | none =>
    obtain ⟨h1, h2, h3⟩ := h.b4.pick hn
    refine ⟨h1, h2, ?_⟩
    show B4 ((pickC n a.s).2.emptied (pickC n a.s).1) ((pickD n b.s).2.emptied (pickD n b.s).1) n
    rw [h2]
    exact h3.emptied
theorem Sim.go {n : Nat} {a : PiS Ch} {b : PiS Pln} {x : Int} (h : Sim n a b) (hn : 0 < n) : Sim n (goS (opsC n) a x) (goS (opsD n) b x) := by
  obtain ⟨s1, s2, s3⟩ := h.slot hn
  unfold goS
  rw [← h.fr]
  cases e : ixF (some x) a.fr with
  | some j =>
    have lt := ixF_lt e
    rw [h.ln] at lt
    exact ⟨h.b4.touched lt, rfl, h.fo, by dsimp only; rw [h.at'], h.ln⟩
  | none =>
    rw [h.fr] at s1 s2 s3
    rw [h.fr]
    dsimp only
    rw [s2, h.fo, h.at']
    exact ⟨s3.filled s1, rfl, rfl, rfl, by rw [List.length_set, ← h.fr]; exact h.ln⟩
theorem Sim.all {n : Nat} {k : Str} (hk : Kind4 k) (hn : 0 < n) (ts : List Int) : Sim n (goP (opsC n) (Ch.new k n) n ts) (goP (opsD n) (Pln.new k n) n ts) := by
  have : ∀ (ts : List Int) (a : PiS Ch) (b : PiS Pln), Sim n a b → Sim n (ts.foldl (goS (opsC n)) a) (ts.foldl (goS (opsD n)) b) := fun ts => by
    induction ts with
    | nil => intro a b h; exact h
    | cons x r ih => intro a b h; exact ih _ _ (h.go hn)
  exact this ts _ _ ⟨B4.new hk hn, rfl, rfl, rfl, by simp⟩
end

section
open Mi
variable {As : List Asn} {S : Sto} {n l : Nat} {ts : List Int} {k : Str}
theorem slot_eq {σ : Type} (O : Ops σ) {s : σ} {fr : List (Option Int)} : slotP O (s, fr) = match ixF none fr with
  | some j => (j, s)
  | none => ((O.pk s).1, O.e (O.pk s).2 (O.pk s).1) := rfl
theorem rgn_ok {n : Nat} (h : n ≤ 1000) : RngOk (n : Int) := rngOk (by omega)
theorem page_ins_ok (h : Hs As S) (hs : Mi.Rd As l (ts.map .int)) (hz : ts.length ≤ 1000) (hk : Kind4 k) (hn : 0 < n ∧ n ≤ 1000) (ht : Tb As) :
    Ok (f_page_ins [.ref l, .int n, .str k] S) fun v S' => ∃ q, v = .ref q ∧ Hs (pt q (.lst ((goP (opsC n) (Ch.new k n) n ts).fo.map .int)) :: As) S' := by
  rw [f_page_ins_eq]
  refine Ok.def rfl ?_
  simp (decide := true) [wpe_ret, wpe_exc, wpe_bind, wps_nx, wps_ret, wps_bk, wps_ct, wps_exc, wps_bindS, wps_seq, wps_xSeq, wps_toS, wpe_nox, defQ_ret, defQ_exc, wps_if, cn_k, cn_x, cx_n, cx_q, wpe_lst, wpe_dnew, wps_xSetF, wps_xAugF, wps_xDPut, gSub_eq, wpe_xMake, wps_xFor, wps_xForE, wpe_xLc, loopQ_ct, loopQ_bk, loopQ_ret, loopQ_exc, wpe_iteBad, wps_iteBad, oIC_wp, bList_wp, bListT_wp, oSlL_wp, oCat_wp, bListD_wp, mkRg_wp, bSet_wp, xSortSet_wp, cDiv_lit, cMul_litL, cMul_litR, rngOk_lit, rngOk_m1, -bList_tup, iR3, xLRg1, xLRg2, xErrF, xIsE, xRaise, RS.unset, RS.noexc, xNext, xAsg, gNameX, gConsX, gNilX, gTupX, xVar, xC, xOp, xUn, oI_int, oNeg_int, xB, asB_bl, xRet, xRetN, xDrop, xBreak, xCont, xCons, xNil, xTup, xCB, xCall, xCallX, xAnd, xOr, xNot, xAndV, xOrV, xNotV, xIf, xYes, xTru, truD, xIsN, xNotN, nonD, xFld, xMeth, xMethX, xBM, xDGet, xDIn, xPart, xNoPart, xSl, nox_ok, toS_ok, finX, iR1, iR2, iL, iT, iE, iZ, xAug, xAssert, str_beq, insX, putFX, putX, valX, keyD_int, keyD_str, List.lookup, oInSet, xDisp, xPCons, xPNil, keysX, mergeX, rdL_app_ge, rdL_app_self, rdL_zero, rdL_succ, at_app_ge, at_app_self, at_zero, at_succ]
  refine wpe_make (P := fun l S' => ∃ q : ChP, q.o = l ∧ Hs (chL q (Ch.new k n) ++ As) S') h (fun l S h => init_ok h hn.2) ?_
  rintro _ S ⟨p, rfl, h⟩
  simp (decide := true) [wpe_ret, wpe_exc, wpe_bind, wps_nx, wps_ret, wps_bk, wps_ct, wps_exc, wps_bindS, wps_seq, wps_xSeq, wps_toS, wpe_nox, defQ_ret, defQ_exc, wps_if, cn_k, cn_x, cx_n, cx_q, wpe_lst, wpe_dnew, wps_xSetF, wps_xAugF, wps_xDPut, gSub_eq, wpe_xMake, wps_xFor, wps_xForE, wpe_xLc, loopQ_ct, loopQ_bk, loopQ_ret, loopQ_exc, wpe_iteBad, wps_iteBad, oIC_wp, bList_wp, bListT_wp, oSlL_wp, oCat_wp, bListD_wp, mkRg_wp, bSet_wp, xSortSet_wp, cDiv_lit, cMul_litL, cMul_litR, rngOk_lit, rngOk_m1, -bList_tup, iR3, xLRg1, xLRg2, xErrF, xIsE, xRaise, RS.unset, RS.noexc, xNext, xAsg, gNameX, gConsX, gNilX, gTupX, xVar, xC, xOp, xUn, oI_int, oNeg_int, xB, asB_bl, xRet, xRetN, xDrop, xBreak, xCont, xCons, xNil, xTup, xCB, xCall, xCallX, xAnd, xOr, xNot, xAndV, xOrV, xNotV, xIf, xYes, xTru, truD, xIsN, xNotN, nonD, xFld, xMeth, xMethX, xBM, xDGet, xDIn, xPart, xNoPart, xSl, nox_ok, toS_ok, finX, iR1, iR2, iL, iT, iE, iZ, xAug, xAssert, str_beq, insX, putFX, putX, valX, keyD_int, keyD_str, List.lookup, oInSet, xDisp, xPCons, xPNil, keysX, mergeX, rdL_app_ge, rdL_app_self, rdL_zero, rdL_succ, at_app_ge, at_app_self, at_zero, at_succ, f_page_ins_c1, -gNameX, -xC]
  refine ⟨rngOk (by omega), wpe_const h hn.2 (fun _ => trivial) (fun _ _ => rfl) (fun _ _ _ => ⟨_, rfl⟩) ?_⟩
  intro pg S h
  simp (decide := true) [wpe_ret, wpe_exc, wpe_bind, wps_nx, wps_ret, wps_bk, wps_ct, wps_exc, wps_bindS, wps_seq, wps_xSeq, wps_toS, wpe_nox, defQ_ret, defQ_exc, wps_if, cn_k, cn_x, cx_n, cx_q, wpe_lst, wpe_dnew, wps_xSetF, wps_xAugF, wps_xDPut, gSub_eq, wpe_xMake, wps_xFor, wps_xForE, wpe_xLc, loopQ_ct, loopQ_bk, loopQ_ret, loopQ_exc, wpe_iteBad, wps_iteBad, oIC_wp, bList_wp, bListT_wp, oSlL_wp, oCat_wp, bListD_wp, mkRg_wp, bSet_wp, xSortSet_wp, cDiv_lit, cMul_litL, cMul_litR, rngOk_lit, rngOk_m1, -bList_tup, iR3, xLRg1, xLRg2, xErrF, xIsE, xRaise, RS.unset, RS.noexc, xNext, xAsg, gNameX, gConsX, gNilX, gTupX, xVar, xC, xOp, xUn, oI_int, oNeg_int, xB, asB_bl, xRet, xRetN, xDrop, xBreak, xCont, xCons, xNil, xTup, xCB, xCall, xCallX, xAnd, xOr, xNot, xAndV, xOrV, xNotV, xIf, xYes, xTru, truD, xIsN, xNotN, nonD, xFld, xMeth, xMethX, xBM, xDGet, xDIn, xPart, xNoPart, xSl, nox_ok, toS_ok, finX, iR1, iR2, iL, iT, iE, iZ, xAug, xAssert, str_beq, insX, putFX, putX, valX, keyD_int, keyD_str, List.lookup, oInSet, xDisp, xPCons, xPNil, keysX, mergeX, rdL_app_ge, rdL_app_self, rdL_zero, rdL_succ, at_app_ge, at_app_self, at_zero, at_succ]
  refine wpe_allo h ?_
  intro fo S h
  have hs1 : ∀ {a b c}, Mi.Rd (pt fo a :: pt pg b :: (chL p c ++ As)) l (ts.map .int) := (Rd.right hs).cons.cons
  simp (decide := true) [wpe_ret, wpe_exc, wpe_bind, wps_nx, wps_ret, wps_bk, wps_ct, wps_exc, wps_bindS, wps_seq, wps_xSeq, wps_toS, wpe_nox, defQ_ret, defQ_exc, wps_if, cn_k, cn_x, cx_n, cx_q, wpe_lst, wpe_dnew, wps_xSetF, wps_xAugF, wps_xDPut, gSub_eq, wpe_xMake, wps_xFor, wps_xForE, wpe_xLc, loopQ_ct, loopQ_bk, loopQ_ret, loopQ_exc, wpe_iteBad, wps_iteBad, oIC_wp, bList_wp, bListT_wp, oSlL_wp, oCat_wp, bListD_wp, mkRg_wp, bSet_wp, xSortSet_wp, cDiv_lit, cMul_litL, cMul_litR, rngOk_lit, rngOk_m1, -bList_tup, iR3, xLRg1, xLRg2, xErrF, xIsE, xRaise, RS.unset, RS.noexc, xNext, xAsg, gNameX, gConsX, gNilX, gTupX, xVar, xC, xOp, xUn, oI_int, oNeg_int, xB, asB_bl, xRet, xRetN, xDrop, xBreak, xCont, xCons, xNil, xTup, xCB, xCall, xCallX, xAnd, xOr, xNot, xAndV, xOrV, xNotV, xIf, xYes, xTru, truD, xIsN, xNotN, nonD, xFld, xMeth, xMethX, xBM, xDGet, xDIn, xPart, xNoPart, xSl, nox_ok, toS_ok, finX, iR1, iR2, iL, iT, iE, iZ, xAug, xAssert, str_beq, insX, putFX, putX, valX, keyD_int, keyD_str, List.lookup, oInSet, xDisp, xPCons, xPNil, keysX, mergeX, rdL_app_ge, rdL_app_self, rdL_zero, rdL_succ, at_app_ge, at_app_self, at_zero, at_succ, f_page_ins_l1, hs1 _ h]
  refine wps_loop (fun i env S => ∃ o5 o7 o8 o9, env = [some (.ref l), some (.int n), some (.str k), some (.ref p.o), some (.ref pg), o5, some (.ref fo), o7, o8, o9] ∧ Hs (pt fo (.lst ((goP (opsC n) (Ch.new k n) n (ts.take i)).fo.map .int)) :: pt pg (.lst ((goP (opsC n) (Ch.new k n) n (ts.take i)).fr.map frD)) :: (chL p (goP (opsC n) (Ch.new k n) n (ts.take i)).s ++ As)) S) ⟨_, _, _, _, rfl, ?_⟩ (fun i e S ⟨_, _, _, _, _, h⟩ => hs1 _ h) ?_ ?_
  · rw [List.take_zero]
    show Hs (pt fo (.lst []) :: pt pg (.lst ((List.replicate n none).map frD)) :: (chL p (Ch.new k n) ++ As)) S
    rw [List.map_replicate]
    exact h
  · rintro i x env S hx ⟨o5, o7, o8, o9, rfl, h⟩
    obtain ⟨y, g1, rfl⟩ := enumD_get hx
    rw [List.getElem?_map] at g1
    obtain ⟨x, gx, rfl⟩ := Option.map_eq_some_iff.mp g1
    rw [Nat.zero_add]
    have hi := (List.getElem?_eq_some_iff.mp gx).1
    have tk : ts.take (i + 1) = ts.take i ++ [x] := by rw [List.take_succ, gx]; rfl
    rw [tk, goP_snoc]
    have sim := Sim.all (n := n) (k := k) hk hn.1 (ts.take i)
    have gat := goP_at (opsC n) (s := Ch.new k n) (n := n) (ts.take i)
    rw [List.length_take, Nat.min_eq_left (by omega)] at gat
    generalize goP (opsC n) (Ch.new k n) n (ts.take i) = a at h sim gat ⊢
    generalize goP (opsD n) (Pln.new k n) n (ts.take i) = b at sim
    obtain ⟨c, fr, fos, at'⟩ := a
    dsimp only at h gat
    have slt := sim.slot hn.1
    dsimp only at slt
    have b4 : B4 c b.s n := sim.b4
    have ln : fr.length = n := sim.ln
    have rp := h.rp 1
    unfold goS
    cases e1 : ixF (some x) fr with
    | some j =>
      have lt := ixF_lt e1
      have aq := (show Hs (pt p.o (chO p c) :: _) S from h.drop.drop).at0
      unfold chO at aq
      simp (decide := true) [wpe_ret, wpe_exc, wpe_bind, wps_nx, wps_ret, wps_bk, wps_ct, wps_exc, wps_bindS, wps_seq, wps_xSeq, wps_toS, wpe_nox, defQ_ret, defQ_exc, wps_if, cn_k, cn_x, cx_n, cx_q, wpe_lst, wpe_dnew, wps_xSetF, wps_xAugF, wps_xDPut, gSub_eq, wpe_xMake, wps_xFor, wps_xForE, wpe_xLc, loopQ_ct, loopQ_bk, loopQ_ret, loopQ_exc, wpe_iteBad, wps_iteBad, oIC_wp, bList_wp, bListT_wp, oSlL_wp, oCat_wp, bListD_wp, mkRg_wp, bSet_wp, xSortSet_wp, cDiv_lit, cMul_litL, cMul_litR, rngOk_lit, rngOk_m1, -bList_tup, iR3, xLRg1, xLRg2, xErrF, xIsE, xRaise, RS.unset, RS.noexc, xNext, xAsg, gNameX, gConsX, gNilX, gTupX, xVar, xC, xOp, xUn, oI_int, oNeg_int, xB, asB_bl, xRet, xRetN, xDrop, xBreak, xCont, xCons, xNil, xTup, xCB, xCall, xCallX, xAnd, xOr, xNot, xAndV, xOrV, xNotV, xIf, xYes, xTru, truD, xIsN, xNotN, nonD, xFld, xMeth, xMethX, xBM, xDGet, xDIn, xPart, xNoPart, xSl, nox_ok, toS_ok, finX, iR1, iR2, iL, iT, iE, iZ, xAug, xAssert, str_beq, insX, putFX, putX, valX, keyD_int, keyD_str, List.lookup, oInSet, xDisp, xPCons, xPNil, keysX, mergeX, rdL_app_ge, rdL_app_self, rdL_zero, rdL_succ, at_app_ge, at_app_self, at_zero, at_succ, f_page_ins_b1, oIn_int rp, e1, aq, isLst, rp, mIx_int rp e1]
      refine wpe_k (touched_ok (Hs.mid (A := [_, _]) h) b4.ch (i := (j : Int)) (by omega) (by omega)) ?_
      rintro _ S ⟨rfl, h⟩
      simp (decide := true) [wpe_ret, wpe_exc, wpe_bind, wps_nx, wps_ret, wps_bk, wps_ct, wps_exc, wps_bindS, wps_seq, wps_xSeq, wps_toS, wpe_nox, defQ_ret, defQ_exc, wps_if, cn_k, cn_x, cx_n, cx_q, wpe_lst, wpe_dnew, wps_xSetF, wps_xAugF, wps_xDPut, gSub_eq, wpe_xMake, wps_xFor, wps_xForE, wpe_xLc, loopQ_ct, loopQ_bk, loopQ_ret, loopQ_exc, wpe_iteBad, wps_iteBad, oIC_wp, bList_wp, bListT_wp, oSlL_wp, oCat_wp, bListD_wp, mkRg_wp, bSet_wp, xSortSet_wp, cDiv_lit, cMul_litL, cMul_litR, rngOk_lit, rngOk_m1, -bList_tup, iR3, xLRg1, xLRg2, xErrF, xIsE, xRaise, RS.unset, RS.noexc, xNext, xAsg, gNameX, gConsX, gNilX, gTupX, xVar, xC, xOp, xUn, oI_int, oNeg_int, xB, asB_bl, xRet, xRetN, xDrop, xBreak, xCont, xCons, xNil, xTup, xCB, xCall, xCallX, xAnd, xOr, xNot, xAndV, xOrV, xNotV, xIf, xYes, xTru, truD, xIsN, xNotN, nonD, xFld, xMeth, xMethX, xBM, xDGet, xDIn, xPart, xNoPart, xSl, nox_ok, toS_ok, finX, iR1, iR2, iL, iT, iE, iZ, xAug, xAssert, str_beq, insX, putFX, putX, valX, keyD_int, keyD_str, List.lookup, oInSet, xDisp, xPCons, xPNil, keysX, mergeX, rdL_app_ge, rdL_app_self, rdL_zero, rdL_succ, at_app_ge, at_app_self, at_zero, at_succ]
      rw [Int.toNat_natCast] at h
      exact Hs.mid (B := [pt fo (.lst (fos.map .int)), pt pg (.lst (fr.map frD))]) h
    | none =>
      simp (decide := true) [wpe_ret, wpe_exc, wpe_bind, wps_nx, wps_ret, wps_bk, wps_ct, wps_exc, wps_bindS, wps_seq, wps_xSeq, wps_toS, wpe_nox, defQ_ret, defQ_exc, wps_if, cn_k, cn_x, cx_n, cx_q, wpe_lst, wpe_dnew, wps_xSetF, wps_xAugF, wps_xDPut, gSub_eq, wpe_xMake, wps_xFor, wps_xForE, wpe_xLc, loopQ_ct, loopQ_bk, loopQ_ret, loopQ_exc, wpe_iteBad, wps_iteBad, oIC_wp, bList_wp, bListT_wp, oSlL_wp, oCat_wp, bListD_wp, mkRg_wp, bSet_wp, xSortSet_wp, cDiv_lit, cMul_litL, cMul_litR, rngOk_lit, rngOk_m1, -bList_tup, iR3, xLRg1, xLRg2, xErrF, xIsE, xRaise, RS.unset, RS.noexc, xNext, xAsg, gNameX, gConsX, gNilX, gTupX, xVar, xC, xOp, xUn, oI_int, oNeg_int, xB, asB_bl, xRet, xRetN, xDrop, xBreak, xCont, xCons, xNil, xTup, xCB, xCall, xCallX, xAnd, xOr, xNot, xAndV, xOrV, xNotV, xIf, xYes, xTru, truD, xIsN, xNotN, nonD, xFld, xMeth, xMethX, xBM, xDGet, xDIn, xPart, xNoPart, xSl, nox_ok, toS_ok, finX, iR1, iR2, iL, iT, iE, iZ, xAug, xAssert, str_beq, insX, putFX, putX, valX, keyD_int, keyD_str, List.lookup, oInSet, xDisp, xPCons, xPNil, keysX, mergeX, rdL_app_ge, rdL_app_self, rdL_zero, rdL_succ, at_app_ge, at_app_self, at_zero, at_succ, f_page_ins_b1, oIn_int rp, e1]
      have aq := (show Hs (pt p.o (chO p c) :: _) S from h.drop.drop).at0
      unfold chO at aq
      rw [slot_eq] at slt ⊢
      cases e2 : ixF none fr with
      | some j =>
        have lt := ixF_lt e2
        simp (decide := true) [wpe_ret, wpe_exc, wpe_bind, wps_nx, wps_ret, wps_bk, wps_ct, wps_exc, wps_bindS, wps_seq, wps_xSeq, wps_toS, wpe_nox, defQ_ret, defQ_exc, wps_if, cn_k, cn_x, cx_n, cx_q, wpe_lst, wpe_dnew, wps_xSetF, wps_xAugF, wps_xDPut, gSub_eq, wpe_xMake, wps_xFor, wps_xForE, wpe_xLc, loopQ_ct, loopQ_bk, loopQ_ret, loopQ_exc, wpe_iteBad, wps_iteBad, oIC_wp, bList_wp, bListT_wp, oSlL_wp, oCat_wp, bListD_wp, mkRg_wp, bSet_wp, xSortSet_wp, cDiv_lit, cMul_litL, cMul_litR, rngOk_lit, rngOk_m1, -bList_tup, iR3, xLRg1, xLRg2, xErrF, xIsE, xRaise, RS.unset, RS.noexc, xNext, xAsg, gNameX, gConsX, gNilX, gTupX, xVar, xC, xOp, xUn, oI_int, oNeg_int, xB, asB_bl, xRet, xRetN, xDrop, xBreak, xCont, xCons, xNil, xTup, xCB, xCall, xCallX, xAnd, xOr, xNot, xAndV, xOrV, xNotV, xIf, xYes, xTru, truD, xIsN, xNotN, nonD, xFld, xMeth, xMethX, xBM, xDGet, xDIn, xPart, xNoPart, xSl, nox_ok, toS_ok, finX, iR1, iR2, iL, iT, iE, iZ, xAug, xAssert, str_beq, insX, putFX, putX, valX, keyD_int, keyD_str, List.lookup, oInSet, xDisp, xPCons, xPNil, keysX, mergeX, rdL_app_ge, rdL_app_self, rdL_zero, rdL_succ, at_app_ge, at_app_self, at_zero, at_succ, oIn_non rp, e2, isLst, rp, mIx_non rp e2]
        refine wpe_setL (h.up 1) (j := j) (by rw [List.length_map, ixN_of (by omega) (by omega)]; simp) ?_
        intro S h
        rw [show D.int x = frD (some x) from rfl, set_fr] at h
        have aq := (show Hs (pt p.o (chO p c) :: _) S from h.drop.drop).at0
        unfold chO at aq
        simp (decide := true) [wpe_ret, wpe_exc, wpe_bind, wps_nx, wps_ret, wps_bk, wps_ct, wps_exc, wps_bindS, wps_seq, wps_xSeq, wps_toS, wpe_nox, defQ_ret, defQ_exc, wps_if, cn_k, cn_x, cx_n, cx_q, wpe_lst, wpe_dnew, wps_xSetF, wps_xAugF, wps_xDPut, gSub_eq, wpe_xMake, wps_xFor, wps_xForE, wpe_xLc, loopQ_ct, loopQ_bk, loopQ_ret, loopQ_exc, wpe_iteBad, wps_iteBad, oIC_wp, bList_wp, bListT_wp, oSlL_wp, oCat_wp, bListD_wp, mkRg_wp, bSet_wp, xSortSet_wp, cDiv_lit, cMul_litL, cMul_litR, rngOk_lit, rngOk_m1, -bList_tup, iR3, xLRg1, xLRg2, xErrF, xIsE, xRaise, RS.unset, RS.noexc, xNext, xAsg, gNameX, gConsX, gNilX, gTupX, xVar, xC, xOp, xUn, oI_int, oNeg_int, xB, asB_bl, xRet, xRetN, xDrop, xBreak, xCont, xCons, xNil, xTup, xCB, xCall, xCallX, xAnd, xOr, xNot, xAndV, xOrV, xNotV, xIf, xYes, xTru, truD, xIsN, xNotN, nonD, xFld, xMeth, xMethX, xBM, xDGet, xDIn, xPart, xNoPart, xSl, nox_ok, toS_ok, finX, iR1, iR2, iL, iT, iE, iZ, xAug, xAssert, str_beq, insX, putFX, putX, valX, keyD_int, keyD_str, List.lookup, oInSet, xDisp, xPCons, xPNil, keysX, mergeX, rdL_app_ge, rdL_app_self, rdL_zero, rdL_succ, at_app_ge, at_app_self, at_zero, at_succ, aq]
        refine wpe_k (filled_ok (Hs.mid (A := [_, _]) h) b4.ch (i := ((j : Nat) : Int)) (by omega) (by omega)) ?_
        rintro _ S ⟨rfl, h⟩
        rw [Int.toNat_natCast] at h
        replace h := Hs.mid (B := [pt pg (.lst ((fr.set j (some x)).map frD)), pt fo (.lst (fos.map .int))]) h
        have rf := (show Hs (pt pg _ :: pt fo (.lst (fos.map .int)) :: _) S from h).rp 1
        simp (decide := true) [wpe_ret, wpe_exc, wpe_bind, wps_nx, wps_ret, wps_bk, wps_ct, wps_exc, wps_bindS, wps_seq, wps_xSeq, wps_toS, wpe_nox, defQ_ret, defQ_exc, wps_if, cn_k, cn_x, cx_n, cx_q, wpe_lst, wpe_dnew, wps_xSetF, wps_xAugF, wps_xDPut, gSub_eq, wpe_xMake, wps_xFor, wps_xForE, wpe_xLc, loopQ_ct, loopQ_bk, loopQ_ret, loopQ_exc, wpe_iteBad, wps_iteBad, oIC_wp, bList_wp, bListT_wp, oSlL_wp, oCat_wp, bListD_wp, mkRg_wp, bSet_wp, xSortSet_wp, cDiv_lit, cMul_litL, cMul_litR, rngOk_lit, rngOk_m1, -bList_tup, iR3, xLRg1, xLRg2, xErrF, xIsE, xRaise, RS.unset, RS.noexc, xNext, xAsg, gNameX, gConsX, gNilX, gTupX, xVar, xC, xOp, xUn, oI_int, oNeg_int, xB, asB_bl, xRet, xRetN, xDrop, xBreak, xCont, xCons, xNil, xTup, xCB, xCall, xCallX, xAnd, xOr, xNot, xAndV, xOrV, xNotV, xIf, xYes, xTru, truD, xIsN, xNotN, nonD, xFld, xMeth, xMethX, xBM, xDGet, xDIn, xPart, xNoPart, xSl, nox_ok, toS_ok, finX, iR1, iR2, iL, iT, iE, iZ, xAug, xAssert, str_beq, insX, putFX, putX, valX, keyD_int, keyD_str, List.lookup, oInSet, xDisp, xPCons, xPNil, keysX, mergeX, rdL_app_ge, rdL_app_self, rdL_zero, rdL_succ, at_app_ge, at_app_self, at_zero, at_succ, isLst, rf]
        refine wpe_append (h.up 1) (by rw [List.length_map]; omega) ?_
        intro S h
        refine ⟨_, _, _, _, rfl, ?_⟩
        rw [List.map_append, gat.1]
        exact h
      | none =>
        rw [e2] at slt
        dsimp only [opsC] at slt
        obtain ⟨J, c1, hJ⟩ : ∃ J c1, pickC n c = (J, c1) := ⟨_, _, rfl⟩
        have pk := b4.pick hn.1
        rw [hJ] at pk slt
        dsimp only at pk slt
        have b1 := pk.2.2
        simp (decide := true) [wpe_ret, wpe_exc, wpe_bind, wps_nx, wps_ret, wps_bk, wps_ct, wps_exc, wps_bindS, wps_seq, wps_xSeq, wps_toS, wpe_nox, defQ_ret, defQ_exc, wps_if, cn_k, cn_x, cx_n, cx_q, wpe_lst, wpe_dnew, wps_xSetF, wps_xAugF, wps_xDPut, gSub_eq, wpe_xMake, wps_xFor, wps_xForE, wpe_xLc, loopQ_ct, loopQ_bk, loopQ_ret, loopQ_exc, wpe_iteBad, wps_iteBad, oIC_wp, bList_wp, bListT_wp, oSlL_wp, oCat_wp, bListD_wp, mkRg_wp, bSet_wp, xSortSet_wp, cDiv_lit, cMul_litL, cMul_litR, rngOk_lit, rngOk_m1, -bList_tup, iR3, xLRg1, xLRg2, xErrF, xIsE, xRaise, RS.unset, RS.noexc, xNext, xAsg, gNameX, gConsX, gNilX, gTupX, xVar, xC, xOp, xUn, oI_int, oNeg_int, xB, asB_bl, xRet, xRetN, xDrop, xBreak, xCont, xCons, xNil, xTup, xCB, xCall, xCallX, xAnd, xOr, xNot, xAndV, xOrV, xNotV, xIf, xYes, xTru, truD, xIsN, xNotN, nonD, xFld, xMeth, xMethX, xBM, xDGet, xDIn, xPart, xNoPart, xSl, nox_ok, toS_ok, finX, iR1, iR2, iL, iT, iE, iZ, xAug, xAssert, str_beq, insX, putFX, putX, valX, keyD_int, keyD_str, List.lookup, oInSet, xDisp, xPCons, xPNil, keysX, mergeX, rdL_app_ge, rdL_app_self, rdL_zero, rdL_succ, at_app_ge, at_app_self, at_zero, at_succ, oIn_non rp, e2, aq]
        refine ⟨rgOk (by omega), ?_⟩
        refine wpe_allo h ?_
        intro H S h
        rw [allN_rng] at h
        have tb := Tb.right (As := pt H (.lst ((allN n).map .int)) :: pt fo (.lst (fos.map .int)) :: pt pg (.lst (fr.map frD)) :: chL p c) ht S h
        simp (decide := true) [wpe_ret, wpe_exc, wpe_bind, wps_nx, wps_ret, wps_bk, wps_ct, wps_exc, wps_bindS, wps_seq, wps_xSeq, wps_toS, wpe_nox, defQ_ret, defQ_exc, wps_if, cn_k, cn_x, cx_n, cx_q, wpe_lst, wpe_dnew, wps_xSetF, wps_xAugF, wps_xDPut, gSub_eq, wpe_xMake, wps_xFor, wps_xForE, wpe_xLc, loopQ_ct, loopQ_bk, loopQ_ret, loopQ_exc, wpe_iteBad, wps_iteBad, oIC_wp, bList_wp, bListT_wp, oSlL_wp, oCat_wp, bListD_wp, mkRg_wp, bSet_wp, xSortSet_wp, cDiv_lit, cMul_litL, cMul_litR, rngOk_lit, rngOk_m1, -bList_tup, iR3, xLRg1, xLRg2, xErrF, xIsE, xRaise, RS.unset, RS.noexc, xNext, xAsg, gNameX, gConsX, gNilX, gTupX, xVar, xC, xOp, xUn, oI_int, oNeg_int, xB, asB_bl, xRet, xRetN, xDrop, xBreak, xCont, xCons, xNil, xTup, xCB, xCall, xCallX, xAnd, xOr, xNot, xAndV, xOrV, xNotV, xIf, xYes, xTru, truD, xIsN, xNotN, nonD, xFld, xMeth, xMethX, xBM, xDGet, xDIn, xPart, xNoPart, xSl, nox_ok, toS_ok, finX, iR1, iR2, iL, iT, iE, iZ, xAug, xAssert, str_beq, insX, putFX, putX, valX, keyD_int, keyD_str, List.lookup, oInSet, xDisp, xPCons, xPNil, keysX, mergeX, rdL_app_ge, rdL_app_self, rdL_zero, rdL_succ, at_app_ge, at_app_self, at_zero, at_succ]
        refine wpe_k (choose4 (Hs.mid (A := [_, _, _]) h) b4 hn tb (h.rp 0)) ?_
        rw [hJ]
        rintro _ S ⟨rfl, h⟩
        replace h := Hs.mid (B := [pt H (.lst ((allN n).map .int)), pt fo (.lst (fos.map .int)), pt pg (.lst (fr.map frD))]) h
        replace h := h.drop
        have aq := (show Hs (pt p.o (chO p c1) :: _) S from h.drop.drop).at0
        unfold chO at aq
        simp (decide := true) [wpe_ret, wpe_exc, wpe_bind, wps_nx, wps_ret, wps_bk, wps_ct, wps_exc, wps_bindS, wps_seq, wps_xSeq, wps_toS, wpe_nox, defQ_ret, defQ_exc, wps_if, cn_k, cn_x, cx_n, cx_q, wpe_lst, wpe_dnew, wps_xSetF, wps_xAugF, wps_xDPut, gSub_eq, wpe_xMake, wps_xFor, wps_xForE, wpe_xLc, loopQ_ct, loopQ_bk, loopQ_ret, loopQ_exc, wpe_iteBad, wps_iteBad, oIC_wp, bList_wp, bListT_wp, oSlL_wp, oCat_wp, bListD_wp, mkRg_wp, bSet_wp, xSortSet_wp, cDiv_lit, cMul_litL, cMul_litR, rngOk_lit, rngOk_m1, -bList_tup, iR3, xLRg1, xLRg2, xErrF, xIsE, xRaise, RS.unset, RS.noexc, xNext, xAsg, gNameX, gConsX, gNilX, gTupX, xVar, xC, xOp, xUn, oI_int, oNeg_int, xB, asB_bl, xRet, xRetN, xDrop, xBreak, xCont, xCons, xNil, xTup, xCB, xCall, xCallX, xAnd, xOr, xNot, xAndV, xOrV, xNotV, xIf, xYes, xTru, truD, xIsN, xNotN, nonD, xFld, xMeth, xMethX, xBM, xDGet, xDIn, xPart, xNoPart, xSl, nox_ok, toS_ok, finX, iR1, iR2, iL, iT, iE, iZ, xAug, xAssert, str_beq, insX, putFX, putX, valX, keyD_int, keyD_str, List.lookup, oInSet, xDisp, xPCons, xPNil, keysX, mergeX, rdL_app_ge, rdL_app_self, rdL_zero, rdL_succ, at_app_ge, at_app_self, at_zero, at_succ, aq]
        refine wpe_k (emptied_ok (Hs.mid (A := [_, _]) h) b1.ch (i := ((J : Nat) : Int)) (by omega) (by omega)) ?_
        rintro _ S ⟨rfl, h⟩
        rw [Int.toNat_natCast] at h
        replace h := Hs.mid (B := [pt fo (.lst (fos.map .int)), pt pg (.lst (fr.map frD))]) h
        simp (decide := true) [wpe_ret, wpe_exc, wpe_bind, wps_nx, wps_ret, wps_bk, wps_ct, wps_exc, wps_bindS, wps_seq, wps_xSeq, wps_toS, wpe_nox, defQ_ret, defQ_exc, wps_if, cn_k, cn_x, cx_n, cx_q, wpe_lst, wpe_dnew, wps_xSetF, wps_xAugF, wps_xDPut, gSub_eq, wpe_xMake, wps_xFor, wps_xForE, wpe_xLc, loopQ_ct, loopQ_bk, loopQ_ret, loopQ_exc, wpe_iteBad, wps_iteBad, oIC_wp, bList_wp, bListT_wp, oSlL_wp, oCat_wp, bListD_wp, mkRg_wp, bSet_wp, xSortSet_wp, cDiv_lit, cMul_litL, cMul_litR, rngOk_lit, rngOk_m1, -bList_tup, iR3, xLRg1, xLRg2, xErrF, xIsE, xRaise, RS.unset, RS.noexc, xNext, xAsg, gNameX, gConsX, gNilX, gTupX, xVar, xC, xOp, xUn, oI_int, oNeg_int, xB, asB_bl, xRet, xRetN, xDrop, xBreak, xCont, xCons, xNil, xTup, xCB, xCall, xCallX, xAnd, xOr, xNot, xAndV, xOrV, xNotV, xIf, xYes, xTru, truD, xIsN, xNotN, nonD, xFld, xMeth, xMethX, xBM, xDGet, xDIn, xPart, xNoPart, xSl, nox_ok, toS_ok, finX, iR1, iR2, iL, iT, iE, iZ, xAug, xAssert, str_beq, insX, putFX, putX, valX, keyD_int, keyD_str, List.lookup, oInSet, xDisp, xPCons, xPNil, keysX, mergeX, rdL_app_ge, rdL_app_self, rdL_zero, rdL_succ, at_app_ge, at_app_self, at_zero, at_succ]
        refine wpe_setL (h.up 1) (j := J) (by rw [List.length_map, ixN_of (by omega) (by omega)]; simp) ?_
        intro S h
        rw [show D.int x = frD (some x) from rfl, set_fr] at h
        have aq := (show Hs (pt p.o (chO p (c1.emptied J)) :: _) S from h.drop.drop).at0
        unfold chO at aq
        simp (decide := true) [wpe_ret, wpe_exc, wpe_bind, wps_nx, wps_ret, wps_bk, wps_ct, wps_exc, wps_bindS, wps_seq, wps_xSeq, wps_toS, wpe_nox, defQ_ret, defQ_exc, wps_if, cn_k, cn_x, cx_n, cx_q, wpe_lst, wpe_dnew, wps_xSetF, wps_xAugF, wps_xDPut, gSub_eq, wpe_xMake, wps_xFor, wps_xForE, wpe_xLc, loopQ_ct, loopQ_bk, loopQ_ret, loopQ_exc, wpe_iteBad, wps_iteBad, oIC_wp, bList_wp, bListT_wp, oSlL_wp, oCat_wp, bListD_wp, mkRg_wp, bSet_wp, xSortSet_wp, cDiv_lit, cMul_litL, cMul_litR, rngOk_lit, rngOk_m1, -bList_tup, iR3, xLRg1, xLRg2, xErrF, xIsE, xRaise, RS.unset, RS.noexc, xNext, xAsg, gNameX, gConsX, gNilX, gTupX, xVar, xC, xOp, xUn, oI_int, oNeg_int, xB, asB_bl, xRet, xRetN, xDrop, xBreak, xCont, xCons, xNil, xTup, xCB, xCall, xCallX, xAnd, xOr, xNot, xAndV, xOrV, xNotV, xIf, xYes, xTru, truD, xIsN, xNotN, nonD, xFld, xMeth, xMethX, xBM, xDGet, xDIn, xPart, xNoPart, xSl, nox_ok, toS_ok, finX, iR1, iR2, iL, iT, iE, iZ, xAug, xAssert, str_beq, insX, putFX, putX, valX, keyD_int, keyD_str, List.lookup, oInSet, xDisp, xPCons, xPNil, keysX, mergeX, rdL_app_ge, rdL_app_self, rdL_zero, rdL_succ, at_app_ge, at_app_self, at_zero, at_succ, aq]
        refine wpe_k (filled_ok (Hs.mid (A := [_, _]) h) b1.ch.emptied (i := ((J : Nat) : Int)) (by omega) (by omega)) ?_
        rintro _ S ⟨rfl, h⟩
        rw [Int.toNat_natCast] at h
        replace h := Hs.mid (B := [pt pg (.lst ((fr.set J (some x)).map frD)), pt fo (.lst (fos.map .int))]) h
        have rf := (show Hs (pt pg _ :: pt fo (.lst (fos.map .int)) :: _) S from h).rp 1
        simp (decide := true) [wpe_ret, wpe_exc, wpe_bind, wps_nx, wps_ret, wps_bk, wps_ct, wps_exc, wps_bindS, wps_seq, wps_xSeq, wps_toS, wpe_nox, defQ_ret, defQ_exc, wps_if, cn_k, cn_x, cx_n, cx_q, wpe_lst, wpe_dnew, wps_xSetF, wps_xAugF, wps_xDPut, gSub_eq, wpe_xMake, wps_xFor, wps_xForE, wpe_xLc, loopQ_ct, loopQ_bk, loopQ_ret, loopQ_exc, wpe_iteBad, wps_iteBad, oIC_wp, bList_wp, bListT_wp, oSlL_wp, oCat_wp, bListD_wp, mkRg_wp, bSet_wp, xSortSet_wp, cDiv_lit, cMul_litL, cMul_litR, rngOk_lit, rngOk_m1, -bList_tup, iR3, xLRg1, xLRg2, xErrF, xIsE, xRaise, RS.unset, RS.noexc, xNext, xAsg, gNameX, gConsX, gNilX, gTupX, xVar, xC, xOp, xUn, oI_int, oNeg_int, xB, asB_bl, xRet, xRetN, xDrop, xBreak, xCont, xCons, xNil, xTup, xCB, xCall, xCallX, xAnd, xOr, xNot, xAndV, xOrV, xNotV, xIf, xYes, xTru, truD, xIsN, xNotN, nonD, xFld, xMeth, xMethX, xBM, xDGet, xDIn, xPart, xNoPart, xSl, nox_ok, toS_ok, finX, iR1, iR2, iL, iT, iE, iZ, xAug, xAssert, str_beq, insX, putFX, putX, valX, keyD_int, keyD_str, List.lookup, oInSet, xDisp, xPCons, xPNil, keysX, mergeX, rdL_app_ge, rdL_app_self, rdL_zero, rdL_succ, at_app_ge, at_app_self, at_zero, at_succ, isLst, rf]
        refine wpe_append (h.up 1) (by rw [List.length_map]; omega) ?_
        intro S h
        refine ⟨_, _, _, _, rfl, ?_⟩
        rw [show (opsC n).pk c = (J, c1) from hJ, List.map_append, gat.1]
        exact h
  · rintro _ S ⟨o5, o7, o8, o9, rfl, h⟩
    rw [enumD_len, List.length_map, List.take_length] at h
    simp (decide := true) [wpe_ret, wpe_exc, wpe_bind, wps_nx, wps_ret, wps_bk, wps_ct, wps_exc, wps_bindS, wps_seq, wps_xSeq, wps_toS, wpe_nox, defQ_ret, defQ_exc, wps_if, cn_k, cn_x, cx_n, cx_q, wpe_lst, wpe_dnew, wps_xSetF, wps_xAugF, wps_xDPut, gSub_eq, wpe_xMake, wps_xFor, wps_xForE, wpe_xLc, loopQ_ct, loopQ_bk, loopQ_ret, loopQ_exc, wpe_iteBad, wps_iteBad, oIC_wp, bList_wp, bListT_wp, oSlL_wp, oCat_wp, bListD_wp, mkRg_wp, bSet_wp, xSortSet_wp, cDiv_lit, cMul_litL, cMul_litR, rngOk_lit, rngOk_m1, -bList_tup, iR3, xLRg1, xLRg2, xErrF, xIsE, xRaise, RS.unset, RS.noexc, xNext, xAsg, gNameX, gConsX, gNilX, gTupX, xVar, xC, xOp, xUn, oI_int, oNeg_int, xB, asB_bl, xRet, xRetN, xDrop, xBreak, xCont, xCons, xNil, xTup, xCB, xCall, xCallX, xAnd, xOr, xNot, xAndV, xOrV, xNotV, xIf, xYes, xTru, truD, xIsN, xNotN, nonD, xFld, xMeth, xMethX, xBM, xDGet, xDIn, xPart, xNoPart, xSl, nox_ok, toS_ok, finX, iR1, iR2, iL, iT, iE, iZ, xAug, xAssert, str_beq, insX, putFX, putX, valX, keyD_int, keyD_str, List.lookup, oInSet, xDisp, xPCons, xPNil, keysX, mergeX, rdL_app_ge, rdL_app_self, rdL_zero, rdL_succ, at_app_ge, at_app_self, at_zero, at_succ]
    exact (((((((((h.up 1).drop).up 1).drop).up 1).drop).up 1).drop).up 1).drop
end

section
open Mi
variable {As : List Asn} {S : Sto} {n l : Nat} {ts : List Int} {k : Str}
theorem wpe_all {K : Cn D} {ok : Sto → Prop} {env0 : Mi.Env} {fe : Mi.Env → Sto → R D} {fg : XG} (h : Hs As S) (hn : n ≤ 1000) (hok : ∀ S, ok S) (turn : ∀ (i : Nat) (S : Sto), ∃ e', fg (.int (i : Int)) env0 S = .ok e' S ∧ fe e' S = .ok (.int (i : Int)) S)
    (k : ∀ l S', Hs (pt l (.lst ((allN n).map .int)) :: As) S' → K.k (.ref l) S') : wpe (compX ok fg xYes fe env0 S.length (rngD 0 n) (S ++ [.lst []])) := by
  refine wpe_compQ (fun i acc => acc = (allN i).map .int) h rfl (fun _ _ _ => hok _) ?_ (by rw [rngD_len]; omega) ?_
  · rintro i x acc Bs S hx rfl h
    obtain ⟨hlt, rfl⟩ := rngD_get hx
    obtain ⟨e', t1, t2⟩ := turn i S
    rw [Int.zero_add, t1]
    show wpe (K := _) (fe e' S)
    rw [t2]
    refine ⟨?_, h⟩
    simp [allN, List.range_succ]
  · rintro q S acc rfl _ h
    rw [rngD_len] at h
    exact k q S h
theorem lpage_ins_ok (h : Hs As S) (hs : Mi.Rd As l (ts.map .int)) (hz : ts.length ≤ 1000) (hk : Kind4 k) (hn : 0 < n ∧ n ≤ 1000) :
    Ok (f_l_page_ins [.ref l, .int n, .str k] S) fun v S' => ∃ q, v = .ref q ∧ Hs (pt q (.lst ((goP (opsD n) (Pln.new k n) n ts).fo.map .int)) :: As) S' := by
  rw [f_l_page_ins_eq]
  refine Ok.def rfl ?_
  simp (decide := true) [wpe_ret, wpe_exc, wpe_bind, wps_nx, wps_ret, wps_bk, wps_ct, wps_exc, wps_bindS, wps_seq, wps_xSeq, wps_toS, wpe_nox, defQ_ret, defQ_exc, wps_if, cn_k, cn_x, cx_n, cx_q, wpe_lst, wpe_dnew, wps_xSetF, wps_xAugF, wps_xDPut, gSub_eq, wpe_xMake, wps_xFor, wps_xForE, wpe_xLc, loopQ_ct, loopQ_bk, loopQ_ret, loopQ_exc, wpe_iteBad, wps_iteBad, oIC_wp, bList_wp, bListT_wp, oSlL_wp, oCat_wp, bListD_wp, mkRg_wp, bSet_wp, xSortSet_wp, cDiv_lit, cMul_litL, cMul_litR, rngOk_lit, rngOk_m1, -bList_tup, iR3, xLRg1, xLRg2, xErrF, xIsE, xRaise, RS.unset, RS.noexc, xNext, xAsg, gNameX, gConsX, gNilX, gTupX, xVar, xC, xOp, xUn, oI_int, oNeg_int, xB, asB_bl, xRet, xRetN, xDrop, xBreak, xCont, xCons, xNil, xTup, xCB, xCall, xCallX, xAnd, xOr, xNot, xAndV, xOrV, xNotV, xIf, xYes, xTru, truD, xIsN, xNotN, nonD, xFld, xMeth, xMethX, xBM, xDGet, xDIn, xPart, xNoPart, xSl, nox_ok, toS_ok, finX, iR1, iR2, iL, iT, iE, iZ, xAug, xAssert, str_beq, insX, putFX, putX, valX, keyD_int, keyD_str, List.lookup, oInSet, xDisp, xPCons, xPNil, keysX, mergeX, rdL_app_ge, rdL_app_self, rdL_zero, rdL_succ, at_app_ge, at_app_self, at_zero, at_succ]
  refine wpe_k (pnew_ok h hn.2) ?_
  rintro _ S ⟨p, rfl, h⟩
  simp (decide := true) [wpe_ret, wpe_exc, wpe_bind, wps_nx, wps_ret, wps_bk, wps_ct, wps_exc, wps_bindS, wps_seq, wps_xSeq, wps_toS, wpe_nox, defQ_ret, defQ_exc, wps_if, cn_k, cn_x, cx_n, cx_q, wpe_lst, wpe_dnew, wps_xSetF, wps_xAugF, wps_xDPut, gSub_eq, wpe_xMake, wps_xFor, wps_xForE, wpe_xLc, loopQ_ct, loopQ_bk, loopQ_ret, loopQ_exc, wpe_iteBad, wps_iteBad, oIC_wp, bList_wp, bListT_wp, oSlL_wp, oCat_wp, bListD_wp, mkRg_wp, bSet_wp, xSortSet_wp, cDiv_lit, cMul_litL, cMul_litR, rngOk_lit, rngOk_m1, -bList_tup, iR3, xLRg1, xLRg2, xErrF, xIsE, xRaise, RS.unset, RS.noexc, xNext, xAsg, gNameX, gConsX, gNilX, gTupX, xVar, xC, xOp, xUn, oI_int, oNeg_int, xB, asB_bl, xRet, xRetN, xDrop, xBreak, xCont, xCons, xNil, xTup, xCB, xCall, xCallX, xAnd, xOr, xNot, xAndV, xOrV, xNotV, xIf, xYes, xTru, truD, xIsN, xNotN, nonD, xFld, xMeth, xMethX, xBM, xDGet, xDIn, xPart, xNoPart, xSl, nox_ok, toS_ok, finX, iR1, iR2, iL, iT, iE, iZ, xAug, xAssert, str_beq, insX, putFX, putX, valX, keyD_int, keyD_str, List.lookup, oInSet, xDisp, xPCons, xPNil, keysX, mergeX, rdL_app_ge, rdL_app_self, rdL_zero, rdL_succ, at_app_ge, at_app_self, at_zero, at_succ, f_l_page_ins_c1, -gNameX, -xC]
  refine ⟨rngOk (by omega), wpe_const h hn.2 (fun _ => trivial) (fun _ _ => rfl) (fun _ _ _ => ⟨_, rfl⟩) ?_⟩
  intro pg S h
  simp (decide := true) [wpe_ret, wpe_exc, wpe_bind, wps_nx, wps_ret, wps_bk, wps_ct, wps_exc, wps_bindS, wps_seq, wps_xSeq, wps_toS, wpe_nox, defQ_ret, defQ_exc, wps_if, cn_k, cn_x, cx_n, cx_q, wpe_lst, wpe_dnew, wps_xSetF, wps_xAugF, wps_xDPut, gSub_eq, wpe_xMake, wps_xFor, wps_xForE, wpe_xLc, loopQ_ct, loopQ_bk, loopQ_ret, loopQ_exc, wpe_iteBad, wps_iteBad, oIC_wp, bList_wp, bListT_wp, oSlL_wp, oCat_wp, bListD_wp, mkRg_wp, bSet_wp, xSortSet_wp, cDiv_lit, cMul_litL, cMul_litR, rngOk_lit, rngOk_m1, -bList_tup, iR3, xLRg1, xLRg2, xErrF, xIsE, xRaise, RS.unset, RS.noexc, xNext, xAsg, gNameX, gConsX, gNilX, gTupX, xVar, xC, xOp, xUn, oI_int, oNeg_int, xB, asB_bl, xRet, xRetN, xDrop, xBreak, xCont, xCons, xNil, xTup, xCB, xCall, xCallX, xAnd, xOr, xNot, xAndV, xOrV, xNotV, xIf, xYes, xTru, truD, xIsN, xNotN, nonD, xFld, xMeth, xMethX, xBM, xDGet, xDIn, xPart, xNoPart, xSl, nox_ok, toS_ok, finX, iR1, iR2, iL, iT, iE, iZ, xAug, xAssert, str_beq, insX, putFX, putX, valX, keyD_int, keyD_str, List.lookup, oInSet, xDisp, xPCons, xPNil, keysX, mergeX, rdL_app_ge, rdL_app_self, rdL_zero, rdL_succ, at_app_ge, at_app_self, at_zero, at_succ]
  refine wpe_allo h ?_
  intro fo S h
  have hs1 : ∀ {a b c}, Mi.Rd (pt fo a :: pt pg b :: (plL p c ++ As)) l (ts.map .int) := (Rd.right hs).cons.cons
  simp (decide := true) [wpe_ret, wpe_exc, wpe_bind, wps_nx, wps_ret, wps_bk, wps_ct, wps_exc, wps_bindS, wps_seq, wps_xSeq, wps_toS, wpe_nox, defQ_ret, defQ_exc, wps_if, cn_k, cn_x, cx_n, cx_q, wpe_lst, wpe_dnew, wps_xSetF, wps_xAugF, wps_xDPut, gSub_eq, wpe_xMake, wps_xFor, wps_xForE, wpe_xLc, loopQ_ct, loopQ_bk, loopQ_ret, loopQ_exc, wpe_iteBad, wps_iteBad, oIC_wp, bList_wp, bListT_wp, oSlL_wp, oCat_wp, bListD_wp, mkRg_wp, bSet_wp, xSortSet_wp, cDiv_lit, cMul_litL, cMul_litR, rngOk_lit, rngOk_m1, -bList_tup, iR3, xLRg1, xLRg2, xErrF, xIsE, xRaise, RS.unset, RS.noexc, xNext, xAsg, gNameX, gConsX, gNilX, gTupX, xVar, xC, xOp, xUn, oI_int, oNeg_int, xB, asB_bl, xRet, xRetN, xDrop, xBreak, xCont, xCons, xNil, xTup, xCB, xCall, xCallX, xAnd, xOr, xNot, xAndV, xOrV, xNotV, xIf, xYes, xTru, truD, xIsN, xNotN, nonD, xFld, xMeth, xMethX, xBM, xDGet, xDIn, xPart, xNoPart, xSl, nox_ok, toS_ok, finX, iR1, iR2, iL, iT, iE, iZ, xAug, xAssert, str_beq, insX, putFX, putX, valX, keyD_int, keyD_str, List.lookup, oInSet, xDisp, xPCons, xPNil, keysX, mergeX, rdL_app_ge, rdL_app_self, rdL_zero, rdL_succ, at_app_ge, at_app_self, at_zero, at_succ, f_l_page_ins_l1, bLen_ref (hs1 _ h)]
  refine ⟨rngOk (by omega), ?_⟩
  refine wps_loop (fun i env S => ∃ o5 o7 o8, env = [some (.ref l), some (.int n), some (.str k), some (.ref p.d), some (.ref pg), o5, some (.ref fo), o7, o8] ∧ Hs (pt fo (.lst ((goP (opsD n) (Pln.new k n) n (ts.take i)).fo.map .int)) :: pt pg (.lst ((goP (opsD n) (Pln.new k n) n (ts.take i)).fr.map frD)) :: (plL p (goP (opsD n) (Pln.new k n) n (ts.take i)).s ++ As)) S) ⟨_, _, _, rfl, ?_⟩ (fun _ _ _ _ => trivial) ?_ ?_
  · rw [List.take_zero]
    show Hs (pt fo (.lst []) :: pt pg (.lst ((List.replicate n none).map frD)) :: (plL p (Pln.new k n) ++ As)) S
    rw [List.map_replicate]
    exact h
  · rintro i x env S hx ⟨o5, o7, o8, rfl, h⟩
    obtain ⟨hi, rfl⟩ := rngD_get hx
    rw [Int.zero_add]
    obtain ⟨x, gx⟩ : ∃ x, ts[i]? = some x := ⟨_, List.getElem?_eq_getElem hi⟩
    have tk : ts.take (i + 1) = ts.take i ++ [x] := by rw [List.take_succ, gx]; rfl
    have ax : atI (ts.map D.int) (i : Int) = some (.int x) := atI_int (by omega) (by rw [Int.toNat_natCast]; exact gx)
    rw [tk, goP_snoc]
    have sim := Sim.all (n := n) (k := k) hk hn.1 (ts.take i)
    have gat := goP_at (opsD n) (s := Pln.new k n) (n := n) (ts.take i)
    rw [List.length_take, Nat.min_eq_left (by omega)] at gat
    generalize goP (opsD n) (Pln.new k n) n (ts.take i) = b at h sim gat ⊢
    generalize goP (opsC n) (Ch.new k n) n (ts.take i) = a at sim
    obtain ⟨c, fr, fos, at'⟩ := b
    dsimp only at h gat
    have slt := sim.slot hn.1
    rw [sim.fr] at slt
    dsimp only at slt
    have b4 : B4 a.s c n := sim.b4
    have ln : fr.length = n := by rw [← sim.ln, sim.fr]
    have rp := h.rp 1
    have rt := hs1 _ h
    unfold goS
    cases e1 : ixF (some x) fr with
    | some j =>
      have lt := ixF_lt e1
      simp (decide := true) [wpe_ret, wpe_exc, wpe_bind, wps_nx, wps_ret, wps_bk, wps_ct, wps_exc, wps_bindS, wps_seq, wps_xSeq, wps_toS, wpe_nox, defQ_ret, defQ_exc, wps_if, cn_k, cn_x, cx_n, cx_q, wpe_lst, wpe_dnew, wps_xSetF, wps_xAugF, wps_xDPut, gSub_eq, wpe_xMake, wps_xFor, wps_xForE, wpe_xLc, loopQ_ct, loopQ_bk, loopQ_ret, loopQ_exc, wpe_iteBad, wps_iteBad, oIC_wp, bList_wp, bListT_wp, oSlL_wp, oCat_wp, bListD_wp, mkRg_wp, bSet_wp, xSortSet_wp, cDiv_lit, cMul_litL, cMul_litR, rngOk_lit, rngOk_m1, -bList_tup, iR3, xLRg1, xLRg2, xErrF, xIsE, xRaise, RS.unset, RS.noexc, xNext, xAsg, gNameX, gConsX, gNilX, gTupX, xVar, xC, xOp, xUn, oI_int, oNeg_int, xB, asB_bl, xRet, xRetN, xDrop, xBreak, xCont, xCons, xNil, xTup, xCB, xCall, xCallX, xAnd, xOr, xNot, xAndV, xOrV, xNotV, xIf, xYes, xTru, truD, xIsN, xNotN, nonD, xFld, xMeth, xMethX, xBM, xDGet, xDIn, xPart, xNoPart, xSl, nox_ok, toS_ok, finX, iR1, iR2, iL, iT, iE, iZ, xAug, xAssert, str_beq, insX, putFX, putX, valX, keyD_int, keyD_str, List.lookup, oInSet, xDisp, xPCons, xPNil, keysX, mergeX, rdL_app_ge, rdL_app_self, rdL_zero, rdL_succ, at_app_ge, at_app_self, at_zero, at_succ, f_l_page_ins_b1, oIxL, rt, ax, oIn_int rp, e1, isLst, rp, mIx_int rp e1]
      refine wpe_k (ptouched_ok (Hs.mid (A := [_, _]) h) b4.pl (i := (j : Int)) (by omega) (by omega)) ?_
      rintro _ S ⟨rfl, h⟩
      simp (decide := true) [wpe_ret, wpe_exc, wpe_bind, wps_nx, wps_ret, wps_bk, wps_ct, wps_exc, wps_bindS, wps_seq, wps_xSeq, wps_toS, wpe_nox, defQ_ret, defQ_exc, wps_if, cn_k, cn_x, cx_n, cx_q, wpe_lst, wpe_dnew, wps_xSetF, wps_xAugF, wps_xDPut, gSub_eq, wpe_xMake, wps_xFor, wps_xForE, wpe_xLc, loopQ_ct, loopQ_bk, loopQ_ret, loopQ_exc, wpe_iteBad, wps_iteBad, oIC_wp, bList_wp, bListT_wp, oSlL_wp, oCat_wp, bListD_wp, mkRg_wp, bSet_wp, xSortSet_wp, cDiv_lit, cMul_litL, cMul_litR, rngOk_lit, rngOk_m1, -bList_tup, iR3, xLRg1, xLRg2, xErrF, xIsE, xRaise, RS.unset, RS.noexc, xNext, xAsg, gNameX, gConsX, gNilX, gTupX, xVar, xC, xOp, xUn, oI_int, oNeg_int, xB, asB_bl, xRet, xRetN, xDrop, xBreak, xCont, xCons, xNil, xTup, xCB, xCall, xCallX, xAnd, xOr, xNot, xAndV, xOrV, xNotV, xIf, xYes, xTru, truD, xIsN, xNotN, nonD, xFld, xMeth, xMethX, xBM, xDGet, xDIn, xPart, xNoPart, xSl, nox_ok, toS_ok, finX, iR1, iR2, iL, iT, iE, iZ, xAug, xAssert, str_beq, insX, putFX, putX, valX, keyD_int, keyD_str, List.lookup, oInSet, xDisp, xPCons, xPNil, keysX, mergeX, rdL_app_ge, rdL_app_self, rdL_zero, rdL_succ, at_app_ge, at_app_self, at_zero, at_succ]
      rw [Int.toNat_natCast] at h
      exact Hs.mid (B := [pt fo (.lst (fos.map .int)), pt pg (.lst (fr.map frD))]) h
    | none =>
      have rf := h.rp 0
      simp (decide := true) [wpe_ret, wpe_exc, wpe_bind, wps_nx, wps_ret, wps_bk, wps_ct, wps_exc, wps_bindS, wps_seq, wps_xSeq, wps_toS, wpe_nox, defQ_ret, defQ_exc, wps_if, cn_k, cn_x, cx_n, cx_q, wpe_lst, wpe_dnew, wps_xSetF, wps_xAugF, wps_xDPut, gSub_eq, wpe_xMake, wps_xFor, wps_xForE, wpe_xLc, loopQ_ct, loopQ_bk, loopQ_ret, loopQ_exc, wpe_iteBad, wps_iteBad, oIC_wp, bList_wp, bListT_wp, oSlL_wp, oCat_wp, bListD_wp, mkRg_wp, bSet_wp, xSortSet_wp, cDiv_lit, cMul_litL, cMul_litR, rngOk_lit, rngOk_m1, -bList_tup, iR3, xLRg1, xLRg2, xErrF, xIsE, xRaise, RS.unset, RS.noexc, xNext, xAsg, gNameX, gConsX, gNilX, gTupX, xVar, xC, xOp, xUn, oI_int, oNeg_int, xB, asB_bl, xRet, xRetN, xDrop, xBreak, xCont, xCons, xNil, xTup, xCB, xCall, xCallX, xAnd, xOr, xNot, xAndV, xOrV, xNotV, xIf, xYes, xTru, truD, xIsN, xNotN, nonD, xFld, xMeth, xMethX, xBM, xDGet, xDIn, xPart, xNoPart, xSl, nox_ok, toS_ok, finX, iR1, iR2, iL, iT, iE, iZ, xAug, xAssert, str_beq, insX, putFX, putX, valX, keyD_int, keyD_str, List.lookup, oInSet, xDisp, xPCons, xPNil, keysX, mergeX, rdL_app_ge, rdL_app_self, rdL_zero, rdL_succ, at_app_ge, at_app_self, at_zero, at_succ, f_l_page_ins_b1, oIxL, rt, ax, oIn_int rp, e1, isLst, rf]
      refine wpe_append h (by rw [List.length_map]; omega) ?_
      intro S h
      have rp := h.rp 1
      rw [slot_eq, slot_eq] at slt
      rw [slot_eq]
      cases e2 : ixF none fr with
      | some j =>
        have lt := ixF_lt e2
        have rt := hs1 _ h
        simp (decide := true) [wpe_ret, wpe_exc, wpe_bind, wps_nx, wps_ret, wps_bk, wps_ct, wps_exc, wps_bindS, wps_seq, wps_xSeq, wps_toS, wpe_nox, defQ_ret, defQ_exc, wps_if, cn_k, cn_x, cx_n, cx_q, wpe_lst, wpe_dnew, wps_xSetF, wps_xAugF, wps_xDPut, gSub_eq, wpe_xMake, wps_xFor, wps_xForE, wpe_xLc, loopQ_ct, loopQ_bk, loopQ_ret, loopQ_exc, wpe_iteBad, wps_iteBad, oIC_wp, bList_wp, bListT_wp, oSlL_wp, oCat_wp, bListD_wp, mkRg_wp, bSet_wp, xSortSet_wp, cDiv_lit, cMul_litL, cMul_litR, rngOk_lit, rngOk_m1, -bList_tup, iR3, xLRg1, xLRg2, xErrF, xIsE, xRaise, RS.unset, RS.noexc, xNext, xAsg, gNameX, gConsX, gNilX, gTupX, xVar, xC, xOp, xUn, oI_int, oNeg_int, xB, asB_bl, xRet, xRetN, xDrop, xBreak, xCont, xCons, xNil, xTup, xCB, xCall, xCallX, xAnd, xOr, xNot, xAndV, xOrV, xNotV, xIf, xYes, xTru, truD, xIsN, xNotN, nonD, xFld, xMeth, xMethX, xBM, xDGet, xDIn, xPart, xNoPart, xSl, nox_ok, toS_ok, finX, iR1, iR2, iL, iT, iE, iZ, xAug, xAssert, str_beq, insX, putFX, putX, valX, keyD_int, keyD_str, List.lookup, oInSet, xDisp, xPCons, xPNil, keysX, mergeX, rdL_app_ge, rdL_app_self, rdL_zero, rdL_succ, at_app_ge, at_app_self, at_zero, at_succ, oIn_non rp, e2, isLst, rp, mIx_non rp e2, oIxL, rt, ax]
        refine wpe_setL (h.up 1) (j := j) (by rw [List.length_map, ixN_of (by omega) (by omega)]; simp) ?_
        intro S h
        rw [show D.int x = frD (some x) from rfl, set_fr] at h
        simp (decide := true) [wpe_ret, wpe_exc, wpe_bind, wps_nx, wps_ret, wps_bk, wps_ct, wps_exc, wps_bindS, wps_seq, wps_xSeq, wps_toS, wpe_nox, defQ_ret, defQ_exc, wps_if, cn_k, cn_x, cx_n, cx_q, wpe_lst, wpe_dnew, wps_xSetF, wps_xAugF, wps_xDPut, gSub_eq, wpe_xMake, wps_xFor, wps_xForE, wpe_xLc, loopQ_ct, loopQ_bk, loopQ_ret, loopQ_exc, wpe_iteBad, wps_iteBad, oIC_wp, bList_wp, bListT_wp, oSlL_wp, oCat_wp, bListD_wp, mkRg_wp, bSet_wp, xSortSet_wp, cDiv_lit, cMul_litL, cMul_litR, rngOk_lit, rngOk_m1, -bList_tup, iR3, xLRg1, xLRg2, xErrF, xIsE, xRaise, RS.unset, RS.noexc, xNext, xAsg, gNameX, gConsX, gNilX, gTupX, xVar, xC, xOp, xUn, oI_int, oNeg_int, xB, asB_bl, xRet, xRetN, xDrop, xBreak, xCont, xCons, xNil, xTup, xCB, xCall, xCallX, xAnd, xOr, xNot, xAndV, xOrV, xNotV, xIf, xYes, xTru, truD, xIsN, xNotN, nonD, xFld, xMeth, xMethX, xBM, xDGet, xDIn, xPart, xNoPart, xSl, nox_ok, toS_ok, finX, iR1, iR2, iL, iT, iE, iZ, xAug, xAssert, str_beq, insX, putFX, putX, valX, keyD_int, keyD_str, List.lookup, oInSet, xDisp, xPCons, xPNil, keysX, mergeX, rdL_app_ge, rdL_app_self, rdL_zero, rdL_succ, at_app_ge, at_app_self, at_zero, at_succ]
        refine wpe_k (pfilled_ok (Hs.mid (A := [_, _]) h) b4.pl (i := ((j : Nat) : Int)) (by omega) (by omega)) ?_
        rintro _ S ⟨rfl, h⟩
        rw [Int.toNat_natCast] at h
        replace h := Hs.mid (B := [pt pg (.lst ((fr.set j (some x)).map frD)), pt fo (.lst (fos.map .int ++ [.int (i : Int)]))]) h
        refine ⟨_, _, _, rfl, ?_⟩
        rw [List.map_append, gat.1]
        exact h.up 1
      | none =>
        rw [e2] at slt
        dsimp only [opsD, opsC] at slt
        obtain ⟨J, c1, hJ⟩ : ∃ J c1, pickD n c = (J, c1) := ⟨_, _, rfl⟩
        have pk := b4.pick hn.1
        rw [hJ] at pk slt
        dsimp only at pk slt
        have b1 := pk.2.2
        have lj : J < n := by rw [pk.2.1]; exact pk.1
        simp (decide := true) [wpe_ret, wpe_exc, wpe_bind, wps_nx, wps_ret, wps_bk, wps_ct, wps_exc, wps_bindS, wps_seq, wps_xSeq, wps_toS, wpe_nox, defQ_ret, defQ_exc, wps_if, cn_k, cn_x, cx_n, cx_q, wpe_lst, wpe_dnew, wps_xSetF, wps_xAugF, wps_xDPut, gSub_eq, wpe_xMake, wps_xFor, wps_xForE, wpe_xLc, loopQ_ct, loopQ_bk, loopQ_ret, loopQ_exc, wpe_iteBad, wps_iteBad, oIC_wp, bList_wp, bListT_wp, oSlL_wp, oCat_wp, bListD_wp, mkRg_wp, bSet_wp, xSortSet_wp, cDiv_lit, cMul_litL, cMul_litR, rngOk_lit, rngOk_m1, -bList_tup, iR3, xLRg1, xLRg2, xErrF, xIsE, xRaise, RS.unset, RS.noexc, xNext, xAsg, gNameX, gConsX, gNilX, gTupX, xVar, xC, xOp, xUn, oI_int, oNeg_int, xB, asB_bl, xRet, xRetN, xDrop, xBreak, xCont, xCons, xNil, xTup, xCB, xCall, xCallX, xAnd, xOr, xNot, xAndV, xOrV, xNotV, xIf, xYes, xTru, truD, xIsN, xNotN, nonD, xFld, xMeth, xMethX, xBM, xDGet, xDIn, xPart, xNoPart, xSl, nox_ok, toS_ok, finX, iR1, iR2, iL, iT, iE, iZ, xAug, xAssert, str_beq, insX, putFX, putX, valX, keyD_int, keyD_str, List.lookup, oInSet, xDisp, xPCons, xPNil, keysX, mergeX, rdL_app_ge, rdL_app_self, rdL_zero, rdL_succ, at_app_ge, at_app_self, at_zero, at_succ, oIn_non rp, e2, f_l_page_ins_c2, -gNameX]
        refine ⟨rngOk (by omega), wpe_all h hn.2 (fun _ => trivial) (fun i S => ⟨_, rfl, rfl⟩) ?_⟩
        intro H S h
        simp (decide := true) [wpe_ret, wpe_exc, wpe_bind, wps_nx, wps_ret, wps_bk, wps_ct, wps_exc, wps_bindS, wps_seq, wps_xSeq, wps_toS, wpe_nox, defQ_ret, defQ_exc, wps_if, cn_k, cn_x, cx_n, cx_q, wpe_lst, wpe_dnew, wps_xSetF, wps_xAugF, wps_xDPut, gSub_eq, wpe_xMake, wps_xFor, wps_xForE, wpe_xLc, loopQ_ct, loopQ_bk, loopQ_ret, loopQ_exc, wpe_iteBad, wps_iteBad, oIC_wp, bList_wp, bListT_wp, oSlL_wp, oCat_wp, bListD_wp, mkRg_wp, bSet_wp, xSortSet_wp, cDiv_lit, cMul_litL, cMul_litR, rngOk_lit, rngOk_m1, -bList_tup, iR3, xLRg1, xLRg2, xErrF, xIsE, xRaise, RS.unset, RS.noexc, xNext, xAsg, gNameX, gConsX, gNilX, gTupX, xVar, xC, xOp, xUn, oI_int, oNeg_int, xB, asB_bl, xRet, xRetN, xDrop, xBreak, xCont, xCons, xNil, xTup, xCB, xCall, xCallX, xAnd, xOr, xNot, xAndV, xOrV, xNotV, xIf, xYes, xTru, truD, xIsN, xNotN, nonD, xFld, xMeth, xMethX, xBM, xDGet, xDIn, xPart, xNoPart, xSl, nox_ok, toS_ok, finX, iR1, iR2, iL, iT, iE, iZ, xAug, xAssert, str_beq, insX, putFX, putX, valX, keyD_int, keyD_str, List.lookup, oInSet, xDisp, xPCons, xPNil, keysX, mergeX, rdL_app_ge, rdL_app_self, rdL_zero, rdL_succ, at_app_ge, at_app_self, at_zero, at_succ]
        refine wpe_k (pick4 (Hs.mid (A := [_, _, _]) h) b4 hn (Mi.Rd.pt 0)) ?_
        rw [hJ]
        rintro _ S ⟨rfl, h⟩
        replace h := Hs.mid (B := [pt H (.lst ((allN n).map .int)), pt fo (.lst (fos.map .int ++ [.int (i : Int)])), pt pg (.lst (fr.map frD))]) h
        replace h := h.drop
        simp (decide := true) [wpe_ret, wpe_exc, wpe_bind, wps_nx, wps_ret, wps_bk, wps_ct, wps_exc, wps_bindS, wps_seq, wps_xSeq, wps_toS, wpe_nox, defQ_ret, defQ_exc, wps_if, cn_k, cn_x, cx_n, cx_q, wpe_lst, wpe_dnew, wps_xSetF, wps_xAugF, wps_xDPut, gSub_eq, wpe_xMake, wps_xFor, wps_xForE, wpe_xLc, loopQ_ct, loopQ_bk, loopQ_ret, loopQ_exc, wpe_iteBad, wps_iteBad, oIC_wp, bList_wp, bListT_wp, oSlL_wp, oCat_wp, bListD_wp, mkRg_wp, bSet_wp, xSortSet_wp, cDiv_lit, cMul_litL, cMul_litR, rngOk_lit, rngOk_m1, -bList_tup, iR3, xLRg1, xLRg2, xErrF, xIsE, xRaise, RS.unset, RS.noexc, xNext, xAsg, gNameX, gConsX, gNilX, gTupX, xVar, xC, xOp, xUn, oI_int, oNeg_int, xB, asB_bl, xRet, xRetN, xDrop, xBreak, xCont, xCons, xNil, xTup, xCB, xCall, xCallX, xAnd, xOr, xNot, xAndV, xOrV, xNotV, xIf, xYes, xTru, truD, xIsN, xNotN, nonD, xFld, xMeth, xMethX, xBM, xDGet, xDIn, xPart, xNoPart, xSl, nox_ok, toS_ok, finX, iR1, iR2, iL, iT, iE, iZ, xAug, xAssert, str_beq, insX, putFX, putX, valX, keyD_int, keyD_str, List.lookup, oInSet, xDisp, xPCons, xPNil, keysX, mergeX, rdL_app_ge, rdL_app_self, rdL_zero, rdL_succ, at_app_ge, at_app_self, at_zero, at_succ]
        refine wpe_k (pemptied_ok (Hs.mid (A := [_, _]) h) b1.pl (i := ((J : Nat) : Int)) (by omega) (by omega)) ?_
        rintro _ S ⟨rfl, h⟩
        rw [Int.toNat_natCast] at h
        replace h := Hs.mid (B := [pt fo (.lst (fos.map .int ++ [.int (i : Int)])), pt pg (.lst (fr.map frD))]) h
        have rt := hs1 _ h
        simp (decide := true) [wpe_ret, wpe_exc, wpe_bind, wps_nx, wps_ret, wps_bk, wps_ct, wps_exc, wps_bindS, wps_seq, wps_xSeq, wps_toS, wpe_nox, defQ_ret, defQ_exc, wps_if, cn_k, cn_x, cx_n, cx_q, wpe_lst, wpe_dnew, wps_xSetF, wps_xAugF, wps_xDPut, gSub_eq, wpe_xMake, wps_xFor, wps_xForE, wpe_xLc, loopQ_ct, loopQ_bk, loopQ_ret, loopQ_exc, wpe_iteBad, wps_iteBad, oIC_wp, bList_wp, bListT_wp, oSlL_wp, oCat_wp, bListD_wp, mkRg_wp, bSet_wp, xSortSet_wp, cDiv_lit, cMul_litL, cMul_litR, rngOk_lit, rngOk_m1, -bList_tup, iR3, xLRg1, xLRg2, xErrF, xIsE, xRaise, RS.unset, RS.noexc, xNext, xAsg, gNameX, gConsX, gNilX, gTupX, xVar, xC, xOp, xUn, oI_int, oNeg_int, xB, asB_bl, xRet, xRetN, xDrop, xBreak, xCont, xCons, xNil, xTup, xCB, xCall, xCallX, xAnd, xOr, xNot, xAndV, xOrV, xNotV, xIf, xYes, xTru, truD, xIsN, xNotN, nonD, xFld, xMeth, xMethX, xBM, xDGet, xDIn, xPart, xNoPart, xSl, nox_ok, toS_ok, finX, iR1, iR2, iL, iT, iE, iZ, xAug, xAssert, str_beq, insX, putFX, putX, valX, keyD_int, keyD_str, List.lookup, oInSet, xDisp, xPCons, xPNil, keysX, mergeX, rdL_app_ge, rdL_app_self, rdL_zero, rdL_succ, at_app_ge, at_app_self, at_zero, at_succ, oIxL, rt, ax]
        refine wpe_setL (Hs.up 1 h) (j := J) (by rw [List.length_map, ixN_of (by omega) (by omega)]; simp) ?_
        intro S h
        rw [show D.int x = frD (some x) from rfl, set_fr] at h
        simp (decide := true) [wpe_ret, wpe_exc, wpe_bind, wps_nx, wps_ret, wps_bk, wps_ct, wps_exc, wps_bindS, wps_seq, wps_xSeq, wps_toS, wpe_nox, defQ_ret, defQ_exc, wps_if, cn_k, cn_x, cx_n, cx_q, wpe_lst, wpe_dnew, wps_xSetF, wps_xAugF, wps_xDPut, gSub_eq, wpe_xMake, wps_xFor, wps_xForE, wpe_xLc, loopQ_ct, loopQ_bk, loopQ_ret, loopQ_exc, wpe_iteBad, wps_iteBad, oIC_wp, bList_wp, bListT_wp, oSlL_wp, oCat_wp, bListD_wp, mkRg_wp, bSet_wp, xSortSet_wp, cDiv_lit, cMul_litL, cMul_litR, rngOk_lit, rngOk_m1, -bList_tup, iR3, xLRg1, xLRg2, xErrF, xIsE, xRaise, RS.unset, RS.noexc, xNext, xAsg, gNameX, gConsX, gNilX, gTupX, xVar, xC, xOp, xUn, oI_int, oNeg_int, xB, asB_bl, xRet, xRetN, xDrop, xBreak, xCont, xCons, xNil, xTup, xCB, xCall, xCallX, xAnd, xOr, xNot, xAndV, xOrV, xNotV, xIf, xYes, xTru, truD, xIsN, xNotN, nonD, xFld, xMeth, xMethX, xBM, xDGet, xDIn, xPart, xNoPart, xSl, nox_ok, toS_ok, finX, iR1, iR2, iL, iT, iE, iZ, xAug, xAssert, str_beq, insX, putFX, putX, valX, keyD_int, keyD_str, List.lookup, oInSet, xDisp, xPCons, xPNil, keysX, mergeX, rdL_app_ge, rdL_app_self, rdL_zero, rdL_succ, at_app_ge, at_app_self, at_zero, at_succ]
        have pe : PlN (c1.emptied J) n := (b1.emptied (i := J)).pl
        refine wpe_k (pfilled_ok (Hs.mid (A := [_, _]) h) pe (i := ((J : Nat) : Int)) (by omega) (by omega)) ?_
        rintro _ S ⟨rfl, h⟩
        rw [Int.toNat_natCast] at h
        replace h := Hs.mid (B := [pt pg (.lst ((fr.set J (some x)).map frD)), pt fo (.lst (fos.map .int ++ [.int (i : Int)]))]) h
        refine ⟨_, _, _, rfl, ?_⟩
        rw [show (opsD n).pk c = (J, c1) from hJ, List.map_append, gat.1]
        exact h.up 1
  · rintro _ S ⟨o5, o7, o8, rfl, h⟩
    rw [rngD_len, List.take_length] at h
    simp (decide := true) [wpe_ret, wpe_exc, wpe_bind, wps_nx, wps_ret, wps_bk, wps_ct, wps_exc, wps_bindS, wps_seq, wps_xSeq, wps_toS, wpe_nox, defQ_ret, defQ_exc, wps_if, cn_k, cn_x, cx_n, cx_q, wpe_lst, wpe_dnew, wps_xSetF, wps_xAugF, wps_xDPut, gSub_eq, wpe_xMake, wps_xFor, wps_xForE, wpe_xLc, loopQ_ct, loopQ_bk, loopQ_ret, loopQ_exc, wpe_iteBad, wps_iteBad, oIC_wp, bList_wp, bListT_wp, oSlL_wp, oCat_wp, bListD_wp, mkRg_wp, bSet_wp, xSortSet_wp, cDiv_lit, cMul_litL, cMul_litR, rngOk_lit, rngOk_m1, -bList_tup, iR3, xLRg1, xLRg2, xErrF, xIsE, xRaise, RS.unset, RS.noexc, xNext, xAsg, gNameX, gConsX, gNilX, gTupX, xVar, xC, xOp, xUn, oI_int, oNeg_int, xB, asB_bl, xRet, xRetN, xDrop, xBreak, xCont, xCons, xNil, xTup, xCB, xCall, xCallX, xAnd, xOr, xNot, xAndV, xOrV, xNotV, xIf, xYes, xTru, truD, xIsN, xNotN, nonD, xFld, xMeth, xMethX, xBM, xDGet, xDIn, xPart, xNoPart, xSl, nox_ok, toS_ok, finX, iR1, iR2, iL, iT, iE, iZ, xAug, xAssert, str_beq, insX, putFX, putX, valX, keyD_int, keyD_str, List.lookup, oInSet, xDisp, xPCons, xPNil, keysX, mergeX, rdL_app_ge, rdL_app_self, rdL_zero, rdL_succ, at_app_ge, at_app_self, at_zero, at_succ]
    exact (((((((((((h.up 1).drop).up 1).drop).up 1).drop).up 1).drop).up 1).drop).up 1).drop
end

section
open Mi
theorem len_ok {S : Sto} {l : Nat} {xs : List D} (h : rdL S l = some xs) : bLen [.ref l] S = .ok (.int xs.length) S := bLen_ref h
end

section
open Mi
section
variable {As : List Asn} {S : Sto} {l0 l : Nat} {ns ls : List Int}
theorem four {q : Int} (hq : 0 ≤ q ∧ q < 4) : ∃ b : Int, L2.atI [D.int 1, D.int 7, D.int 1000003, D.int (-5)] q = some (.int b) ∧ -10 ≤ b ∧ b ≤ 1000003 := by
  have : q = 0 ∨ q = 1 ∨ q = 2 ∨ q = 3 := by omega
  rcases this with rfl | rfl | rfl | rfl
  · exact ⟨1, rfl, by omega, by omega⟩
  · exact ⟨7, rfl, by omega, by omega⟩
  · exact ⟨1000003, rfl, by omega, by omega⟩
  · exact ⟨-5, rfl, by omega, by omega⟩
theorem three {q : Int} (hq : 0 ≤ q ∧ q < 3) : ∃ b : Int, L2.atI [D.int 0, D.int 4, D.int 1000000000] q = some (.int b) := by
  have : q = 0 ∨ q = 1 ∨ q = 2 := by omega
  rcases this with rfl | rfl | rfl
  · exact ⟨0, rfl⟩
  · exact ⟨4, rfl⟩
  · exact ⟨1000000000, rfl⟩
theorem names_ok {m : Int} (h : Hs As S) (hn : Mi.Rd As l0 (ns.map .int)) (hl : ns.length ≤ 63) (hm : 1 ≤ m ∧ m ≤ 100) : Ok (f_l_names [.ref l0, .int m] S) fun v S' => ∃ (p : Nat) (xs : List Int), v = .ref p ∧ Hs (pt p (.lst (xs.map .int)) :: As) S' ∧ 1 ≤ xs.length ∧ xs.length ≤ 100 := by
  rw [f_l_names_eq]
  refine Ok.def rfl ?_
  simp (decide := true) [wpe_ret, wpe_exc, wpe_bind, wps_nx, wps_ret, wps_bk, wps_ct, wps_exc, wps_bindS, wps_seq, wps_xSeq, wps_toS, wpe_nox, defQ_ret, defQ_exc, wps_if, cn_k, cn_x, cx_n, cx_q, wpe_lst, wpe_dnew, wps_xSetF, wps_xAugF, wps_xDPut, gSub_eq, wpe_xMake, wps_xFor, wps_xForE, wpe_xLc, loopQ_ct, loopQ_bk, loopQ_ret, loopQ_exc, wpe_iteBad, wps_iteBad, oIC_wp, bList_wp, bListT_wp, oSlL_wp, oCat_wp, bListD_wp, mkRg_wp, bSet_wp, xSortSet_wp, cDiv_lit, cMul_litL, cMul_litR, rngOk_lit, rngOk_m1, -bList_tup, iR3, xLRg1, xLRg2, xErrF, xIsE, xRaise, RS.unset, RS.noexc, xNext, xAsg, gNameX, gConsX, gNilX, gTupX, xVar, xC, xOp, xUn, oI_int, oNeg_int, xB, asB_bl, xRet, xRetN, xDrop, xBreak, xCont, xCons, xNil, xTup, xCB, xCall, xCallX, xAnd, xOr, xNot, xAndV, xOrV, xNotV, xIf, xYes, xTru, truD, xIsN, xNotN, nonD, xFld, xMeth, xMethX, xBM, xDGet, xDIn, xPart, xNoPart, xSl, nox_ok, toS_ok, finX, iR1, iR2, iL, iT, iE, iZ, xAug, xAssert, str_beq, insX, putFX, putX, valX, keyD_int, keyD_str, List.lookup, oInSet, xDisp, xPCons, xPNil, keysX, mergeX, rdL_app_ge, rdL_app_self, rdL_zero, rdL_succ, at_app_ge, at_app_self, at_zero, at_succ]
  refine wpe_k (num_ok (hn _ h) hl (by unfold NumOk; omega)) ?_
  rintro _ S ⟨rfl, q, rfl, q0, q1⟩
  simp (decide := true) [wpe_ret, wpe_exc, wpe_bind, wps_nx, wps_ret, wps_bk, wps_ct, wps_exc, wps_bindS, wps_seq, wps_xSeq, wps_toS, wpe_nox, defQ_ret, defQ_exc, wps_if, cn_k, cn_x, cx_n, cx_q, wpe_lst, wpe_dnew, wps_xSetF, wps_xAugF, wps_xDPut, gSub_eq, wpe_xMake, wps_xFor, wps_xForE, wpe_xLc, loopQ_ct, loopQ_bk, loopQ_ret, loopQ_exc, wpe_iteBad, wps_iteBad, oIC_wp, bList_wp, bListT_wp, oSlL_wp, oCat_wp, bListD_wp, mkRg_wp, bSet_wp, xSortSet_wp, cDiv_lit, cMul_litL, cMul_litR, rngOk_lit, rngOk_m1, -bList_tup, iR3, xLRg1, xLRg2, xErrF, xIsE, xRaise, RS.unset, RS.noexc, xNext, xAsg, gNameX, gConsX, gNilX, gTupX, xVar, xC, xOp, xUn, oI_int, oNeg_int, xB, asB_bl, xRet, xRetN, xDrop, xBreak, xCont, xCons, xNil, xTup, xCB, xCall, xCallX, xAnd, xOr, xNot, xAndV, xOrV, xNotV, xIf, xYes, xTru, truD, xIsN, xNotN, nonD, xFld, xMeth, xMethX, xBM, xDGet, xDIn, xPart, xNoPart, xSl, nox_ok, toS_ok, finX, iR1, iR2, iL, iT, iE, iZ, xAug, xAssert, str_beq, insX, putFX, putX, valX, keyD_int, keyD_str, List.lookup, oInSet, xDisp, xPCons, xPNil, keysX, mergeX, rdL_app_ge, rdL_app_self, rdL_zero, rdL_succ, at_app_ge, at_app_self, at_zero, at_succ]
  refine wpe_k (num_ok (hn _ h) hl (by unfold NumOk; omega)) ?_
  rintro _ S ⟨rfl, t, rfl, t0, t1⟩
  simp (decide := true) [wpe_ret, wpe_exc, wpe_bind, wps_nx, wps_ret, wps_bk, wps_ct, wps_exc, wps_bindS, wps_seq, wps_xSeq, wps_toS, wpe_nox, defQ_ret, defQ_exc, wps_if, cn_k, cn_x, cx_n, cx_q, wpe_lst, wpe_dnew, wps_xSetF, wps_xAugF, wps_xDPut, gSub_eq, wpe_xMake, wps_xFor, wps_xForE, wpe_xLc, loopQ_ct, loopQ_bk, loopQ_ret, loopQ_exc, wpe_iteBad, wps_iteBad, oIC_wp, bList_wp, bListT_wp, oSlL_wp, oCat_wp, bListD_wp, mkRg_wp, bSet_wp, xSortSet_wp, cDiv_lit, cMul_litL, cMul_litR, rngOk_lit, rngOk_m1, -bList_tup, iR3, xLRg1, xLRg2, xErrF, xIsE, xRaise, RS.unset, RS.noexc, xNext, xAsg, gNameX, gConsX, gNilX, gTupX, xVar, xC, xOp, xUn, oI_int, oNeg_int, xB, asB_bl, xRet, xRetN, xDrop, xBreak, xCont, xCons, xNil, xTup, xCB, xCall, xCallX, xAnd, xOr, xNot, xAndV, xOrV, xNotV, xIf, xYes, xTru, truD, xIsN, xNotN, nonD, xFld, xMeth, xMethX, xBM, xDGet, xDIn, xPart, xNoPart, xSl, nox_ok, toS_ok, finX, iR1, iR2, iL, iT, iE, iZ, xAug, xAssert, str_beq, insX, putFX, putX, valX, keyD_int, keyD_str, List.lookup, oInSet, xDisp, xPCons, xPNil, keysX, mergeX, rdL_app_ge, rdL_app_self, rdL_zero, rdL_succ, at_app_ge, at_app_self, at_zero, at_succ]
  refine wpe_allo h ?_
  intro a S h
  simp (decide := true) [wpe_ret, wpe_exc, wpe_bind, wps_nx, wps_ret, wps_bk, wps_ct, wps_exc, wps_bindS, wps_seq, wps_xSeq, wps_toS, wpe_nox, defQ_ret, defQ_exc, wps_if, cn_k, cn_x, cx_n, cx_q, wpe_lst, wpe_dnew, wps_xSetF, wps_xAugF, wps_xDPut, gSub_eq, wpe_xMake, wps_xFor, wps_xForE, wpe_xLc, loopQ_ct, loopQ_bk, loopQ_ret, loopQ_exc, wpe_iteBad, wps_iteBad, oIC_wp, bList_wp, bListT_wp, oSlL_wp, oCat_wp, bListD_wp, mkRg_wp, bSet_wp, xSortSet_wp, cDiv_lit, cMul_litL, cMul_litR, rngOk_lit, rngOk_m1, -bList_tup, iR3, xLRg1, xLRg2, xErrF, xIsE, xRaise, RS.unset, RS.noexc, xNext, xAsg, gNameX, gConsX, gNilX, gTupX, xVar, xC, xOp, xUn, oI_int, oNeg_int, xB, asB_bl, xRet, xRetN, xDrop, xBreak, xCont, xCons, xNil, xTup, xCB, xCall, xCallX, xAnd, xOr, xNot, xAndV, xOrV, xNotV, xIf, xYes, xTru, truD, xIsN, xNotN, nonD, xFld, xMeth, xMethX, xBM, xDGet, xDIn, xPart, xNoPart, xSl, nox_ok, toS_ok, finX, iR1, iR2, iL, iT, iE, iZ, xAug, xAssert, str_beq, insX, putFX, putX, valX, keyD_int, keyD_str, List.lookup, oInSet, xDisp, xPCons, xPNil, keysX, mergeX, rdL_app_ge, rdL_app_self, rdL_zero, rdL_succ, at_app_ge, at_app_self, at_zero, at_succ]
  refine wpe_k (num_ok (hn _ h.drop) hl (by unfold NumOk; omega)) ?_
  rintro _ S ⟨rfl, r, rfl, r0, r1⟩
  obtain ⟨wd, hw, w0, w1⟩ := four ⟨r0, r1⟩
  simp (decide := true) [wpe_ret, wpe_exc, wpe_bind, wps_nx, wps_ret, wps_bk, wps_ct, wps_exc, wps_bindS, wps_seq, wps_xSeq, wps_toS, wpe_nox, defQ_ret, defQ_exc, wps_if, cn_k, cn_x, cx_n, cx_q, wpe_lst, wpe_dnew, wps_xSetF, wps_xAugF, wps_xDPut, gSub_eq, wpe_xMake, wps_xFor, wps_xForE, wpe_xLc, loopQ_ct, loopQ_bk, loopQ_ret, loopQ_exc, wpe_iteBad, wps_iteBad, oIC_wp, bList_wp, bListT_wp, oSlL_wp, oCat_wp, bListD_wp, mkRg_wp, bSet_wp, xSortSet_wp, cDiv_lit, cMul_litL, cMul_litR, rngOk_lit, rngOk_m1, -bList_tup, iR3, xLRg1, xLRg2, xErrF, xIsE, xRaise, RS.unset, RS.noexc, xNext, xAsg, gNameX, gConsX, gNilX, gTupX, xVar, xC, xOp, xUn, oI_int, oNeg_int, xB, asB_bl, xRet, xRetN, xDrop, xBreak, xCont, xCons, xNil, xTup, xCB, xCall, xCallX, xAnd, xOr, xNot, xAndV, xOrV, xNotV, xIf, xYes, xTru, truD, xIsN, xNotN, nonD, xFld, xMeth, xMethX, xBM, xDGet, xDIn, xPart, xNoPart, xSl, nox_ok, toS_ok, finX, iR1, iR2, iL, iT, iE, iZ, xAug, xAssert, str_beq, insX, putFX, putX, valX, keyD_int, keyD_str, List.lookup, oInSet, xDisp, xPCons, xPNil, keysX, mergeX, rdL_app_ge, rdL_app_self, rdL_zero, rdL_succ, at_app_ge, at_app_self, at_zero, at_succ, oIxL, h.rp 0, hw]
  refine wpe_allo h ?_
  intro a S h
  simp (decide := true) [wpe_ret, wpe_exc, wpe_bind, wps_nx, wps_ret, wps_bk, wps_ct, wps_exc, wps_bindS, wps_seq, wps_xSeq, wps_toS, wpe_nox, defQ_ret, defQ_exc, wps_if, cn_k, cn_x, cx_n, cx_q, wpe_lst, wpe_dnew, wps_xSetF, wps_xAugF, wps_xDPut, gSub_eq, wpe_xMake, wps_xFor, wps_xForE, wpe_xLc, loopQ_ct, loopQ_bk, loopQ_ret, loopQ_exc, wpe_iteBad, wps_iteBad, oIC_wp, bList_wp, bListT_wp, oSlL_wp, oCat_wp, bListD_wp, mkRg_wp, bSet_wp, xSortSet_wp, cDiv_lit, cMul_litL, cMul_litR, rngOk_lit, rngOk_m1, -bList_tup, iR3, xLRg1, xLRg2, xErrF, xIsE, xRaise, RS.unset, RS.noexc, xNext, xAsg, gNameX, gConsX, gNilX, gTupX, xVar, xC, xOp, xUn, oI_int, oNeg_int, xB, asB_bl, xRet, xRetN, xDrop, xBreak, xCont, xCons, xNil, xTup, xCB, xCall, xCallX, xAnd, xOr, xNot, xAndV, xOrV, xNotV, xIf, xYes, xTru, truD, xIsN, xNotN, nonD, xFld, xMeth, xMethX, xBM, xDGet, xDIn, xPart, xNoPart, xSl, nox_ok, toS_ok, finX, iR1, iR2, iL, iT, iE, iZ, xAug, xAssert, str_beq, insX, putFX, putX, valX, keyD_int, keyD_str, List.lookup, oInSet, xDisp, xPCons, xPNil, keysX, mergeX, rdL_app_ge, rdL_app_self, rdL_zero, rdL_succ, at_app_ge, at_app_self, at_zero, at_succ]
  refine wpe_k (num_ok (hn _ h.drop.drop) hl (by unfold NumOk; omega)) ?_
  rintro _ S ⟨rfl, u, rfl, u0, u1⟩
  obtain ⟨lo, hlo⟩ := three ⟨u0, u1⟩
  simp (decide := true) [wpe_ret, wpe_exc, wpe_bind, wps_nx, wps_ret, wps_bk, wps_ct, wps_exc, wps_bindS, wps_seq, wps_xSeq, wps_toS, wpe_nox, defQ_ret, defQ_exc, wps_if, cn_k, cn_x, cx_n, cx_q, wpe_lst, wpe_dnew, wps_xSetF, wps_xAugF, wps_xDPut, gSub_eq, wpe_xMake, wps_xFor, wps_xForE, wpe_xLc, loopQ_ct, loopQ_bk, loopQ_ret, loopQ_exc, wpe_iteBad, wps_iteBad, oIC_wp, bList_wp, bListT_wp, oSlL_wp, oCat_wp, bListD_wp, mkRg_wp, bSet_wp, xSortSet_wp, cDiv_lit, cMul_litL, cMul_litR, rngOk_lit, rngOk_m1, -bList_tup, iR3, xLRg1, xLRg2, xErrF, xIsE, xRaise, RS.unset, RS.noexc, xNext, xAsg, gNameX, gConsX, gNilX, gTupX, xVar, xC, xOp, xUn, oI_int, oNeg_int, xB, asB_bl, xRet, xRetN, xDrop, xBreak, xCont, xCons, xNil, xTup, xCB, xCall, xCallX, xAnd, xOr, xNot, xAndV, xOrV, xNotV, xIf, xYes, xTru, truD, xIsN, xNotN, nonD, xFld, xMeth, xMethX, xBM, xDGet, xDIn, xPart, xNoPart, xSl, nox_ok, toS_ok, finX, iR1, iR2, iL, iT, iE, iZ, xAug, xAssert, str_beq, insX, putFX, putX, valX, keyD_int, keyD_str, List.lookup, oInSet, xDisp, xPCons, xPNil, keysX, mergeX, rdL_app_ge, rdL_app_self, rdL_zero, rdL_succ, at_app_ge, at_app_self, at_zero, at_succ, oIxL, h.rp 0, hlo, f_l_names_c1]
  refine ⟨rngOk (by omega), ?_⟩
  replace h := h.drop.drop
  refine wpe_compQ (fun i acc => AllInt acc ∧ acc.length = i) h ⟨AllInt.nil, rfl⟩ (fun _ _ _ => trivial) ?_ (by rw [rngD_len]; omega) ?_
  · rintro i x acc Bs S hx ⟨ha, hc⟩ h
    obtain ⟨hi, rfl⟩ := rngD_get hx
    simp (decide := true) [wpe_ret, wpe_exc, wpe_bind, wps_nx, wps_ret, wps_bk, wps_ct, wps_exc, wps_bindS, wps_seq, wps_xSeq, wps_toS, wpe_nox, defQ_ret, defQ_exc, wps_if, cn_k, cn_x, cx_n, cx_q, wpe_lst, wpe_dnew, wps_xSetF, wps_xAugF, wps_xDPut, gSub_eq, wpe_xMake, wps_xFor, wps_xForE, wpe_xLc, loopQ_ct, loopQ_bk, loopQ_ret, loopQ_exc, wpe_iteBad, wps_iteBad, oIC_wp, bList_wp, bListT_wp, oSlL_wp, oCat_wp, bListD_wp, mkRg_wp, bSet_wp, xSortSet_wp, cDiv_lit, cMul_litL, cMul_litR, rngOk_lit, rngOk_m1, -bList_tup, iR3, xLRg1, xLRg2, xErrF, xIsE, xRaise, RS.unset, RS.noexc, xNext, xAsg, gNameX, gConsX, gNilX, gTupX, xVar, xC, xOp, xUn, oI_int, oNeg_int, xB, asB_bl, xRet, xRetN, xDrop, xBreak, xCont, xCons, xNil, xTup, xCB, xCall, xCallX, xAnd, xOr, xNot, xAndV, xOrV, xNotV, xIf, xYes, xTru, truD, xIsN, xNotN, nonD, xFld, xMeth, xMethX, xBM, xDGet, xDIn, xPart, xNoPart, xSl, nox_ok, toS_ok, finX, iR1, iR2, iL, iT, iE, iZ, xAug, xAssert, str_beq, insX, putFX, putX, valX, keyD_int, keyD_str, List.lookup, oInSet, xDisp, xPCons, xPNil, keysX, mergeX, rdL_app_ge, rdL_app_self, rdL_zero, rdL_succ, at_app_ge, at_app_self, at_zero, at_succ, wipeE]
    exact ⟨cMul_l (by omega), cMul_l (by omega), ⟨ha.snoc, hc⟩, h⟩
  · rintro p S acc ⟨⟨xs, rfl⟩, hi⟩ _ h
    rw [List.length_map, rngD_len] at hi
    exact ⟨p, xs, rfl, h, by omega, by omega⟩
theorem trace_ok {nm : List Int} (h : Hs As S) (hn : Mi.Rd As l0 (ns.map .int)) (hl : ns.length ≤ 63) (hr : Mi.Rd As l (nm.map .int)) (hm : 1 ≤ nm.length ∧ nm.length ≤ 100) : Ok (f_l_trace [.ref l0, .ref l] S) fun v S' => ∃ (p : Nat) (xs : List Int), v = .ref p ∧ Hs (pt p (.lst (xs.map .int)) :: As) S' ∧ xs.length ≤ 50 := by
  rw [f_l_trace_eq]
  refine Ok.def rfl ?_
  simp (decide := true) [wpe_ret, wpe_exc, wpe_bind, wps_nx, wps_ret, wps_bk, wps_ct, wps_exc, wps_bindS, wps_seq, wps_xSeq, wps_toS, wpe_nox, defQ_ret, defQ_exc, wps_if, cn_k, cn_x, cx_n, cx_q, wpe_lst, wpe_dnew, wps_xSetF, wps_xAugF, wps_xDPut, gSub_eq, wpe_xMake, wps_xFor, wps_xForE, wpe_xLc, loopQ_ct, loopQ_bk, loopQ_ret, loopQ_exc, wpe_iteBad, wps_iteBad, oIC_wp, bList_wp, bListT_wp, oSlL_wp, oCat_wp, bListD_wp, mkRg_wp, bSet_wp, xSortSet_wp, cDiv_lit, cMul_litL, cMul_litR, rngOk_lit, rngOk_m1, -bList_tup, iR3, xLRg1, xLRg2, xErrF, xIsE, xRaise, RS.unset, RS.noexc, xNext, xAsg, gNameX, gConsX, gNilX, gTupX, xVar, xC, xOp, xUn, oI_int, oNeg_int, xB, asB_bl, xRet, xRetN, xDrop, xBreak, xCont, xCons, xNil, xTup, xCB, xCall, xCallX, xAnd, xOr, xNot, xAndV, xOrV, xNotV, xIf, xYes, xTru, truD, xIsN, xNotN, nonD, xFld, xMeth, xMethX, xBM, xDGet, xDIn, xPart, xNoPart, xSl, nox_ok, toS_ok, finX, iR1, iR2, iL, iT, iE, iZ, xAug, xAssert, str_beq, insX, putFX, putX, valX, keyD_int, keyD_str, List.lookup, oInSet, xDisp, xPCons, xPNil, keysX, mergeX, rdL_app_ge, rdL_app_self, rdL_zero, rdL_succ, at_app_ge, at_app_self, at_zero, at_succ]
  refine wpe_allo h ?_
  intro p S h
  simp (decide := true) [wpe_ret, wpe_exc, wpe_bind, wps_nx, wps_ret, wps_bk, wps_ct, wps_exc, wps_bindS, wps_seq, wps_xSeq, wps_toS, wpe_nox, defQ_ret, defQ_exc, wps_if, cn_k, cn_x, cx_n, cx_q, wpe_lst, wpe_dnew, wps_xSetF, wps_xAugF, wps_xDPut, gSub_eq, wpe_xMake, wps_xFor, wps_xForE, wpe_xLc, loopQ_ct, loopQ_bk, loopQ_ret, loopQ_exc, wpe_iteBad, wps_iteBad, oIC_wp, bList_wp, bListT_wp, oSlL_wp, oCat_wp, bListD_wp, mkRg_wp, bSet_wp, xSortSet_wp, cDiv_lit, cMul_litL, cMul_litR, rngOk_lit, rngOk_m1, -bList_tup, iR3, xLRg1, xLRg2, xErrF, xIsE, xRaise, RS.unset, RS.noexc, xNext, xAsg, gNameX, gConsX, gNilX, gTupX, xVar, xC, xOp, xUn, oI_int, oNeg_int, xB, asB_bl, xRet, xRetN, xDrop, xBreak, xCont, xCons, xNil, xTup, xCB, xCall, xCallX, xAnd, xOr, xNot, xAndV, xOrV, xNotV, xIf, xYes, xTru, truD, xIsN, xNotN, nonD, xFld, xMeth, xMethX, xBM, xDGet, xDIn, xPart, xNoPart, xSl, nox_ok, toS_ok, finX, iR1, iR2, iL, iT, iE, iZ, xAug, xAssert, str_beq, insX, putFX, putX, valX, keyD_int, keyD_str, List.lookup, oInSet, xDisp, xPCons, xPNil, keysX, mergeX, rdL_app_ge, rdL_app_self, rdL_zero, rdL_succ, at_app_ge, at_app_self, at_zero, at_succ, f_l_trace_l1]
  refine wpe_k (num_ok (hn.cons _ h) hl (by unfold NumOk; omega)) ?_
  rintro _ S ⟨rfl, q, rfl, q0, q1⟩
  simp (decide := true) [wpe_ret, wpe_exc, wpe_bind, wps_nx, wps_ret, wps_bk, wps_ct, wps_exc, wps_bindS, wps_seq, wps_xSeq, wps_toS, wpe_nox, defQ_ret, defQ_exc, wps_if, cn_k, cn_x, cx_n, cx_q, wpe_lst, wpe_dnew, wps_xSetF, wps_xAugF, wps_xDPut, gSub_eq, wpe_xMake, wps_xFor, wps_xForE, wpe_xLc, loopQ_ct, loopQ_bk, loopQ_ret, loopQ_exc, wpe_iteBad, wps_iteBad, oIC_wp, bList_wp, bListT_wp, oSlL_wp, oCat_wp, bListD_wp, mkRg_wp, bSet_wp, xSortSet_wp, cDiv_lit, cMul_litL, cMul_litR, rngOk_lit, rngOk_m1, -bList_tup, iR3, xLRg1, xLRg2, xErrF, xIsE, xRaise, RS.unset, RS.noexc, xNext, xAsg, gNameX, gConsX, gNilX, gTupX, xVar, xC, xOp, xUn, oI_int, oNeg_int, xB, asB_bl, xRet, xRetN, xDrop, xBreak, xCont, xCons, xNil, xTup, xCB, xCall, xCallX, xAnd, xOr, xNot, xAndV, xOrV, xNotV, xIf, xYes, xTru, truD, xIsN, xNotN, nonD, xFld, xMeth, xMethX, xBM, xDGet, xDIn, xPart, xNoPart, xSl, nox_ok, toS_ok, finX, iR1, iR2, iL, iT, iE, iZ, xAug, xAssert, str_beq, insX, putFX, putX, valX, keyD_int, keyD_str, List.lookup, oInSet, xDisp, xPCons, xPNil, keysX, mergeX, rdL_app_ge, rdL_app_self, rdL_zero, rdL_succ, at_app_ge, at_app_self, at_zero, at_succ]
  refine ⟨rngOk (by omega), ?_⟩
  refine wps_loop (fun i env S => ∃ (o3 o4 o5 : Option D) (xs : List Int), env = [some (.ref l0), some (.ref l), some (.ref p), o3, o4, o5] ∧ Hs (pt p (.lst (xs.map .int)) :: As) S ∧ xs.length = i) ⟨_, _, _, [], rfl, h, rfl⟩ (fun _ _ _ _ => trivial) ?_ ?_
  · rintro i x env S hx ⟨o3, o4, o5, xs, rfl, h, hi⟩
    obtain ⟨hlt, rfl⟩ := rngD_get hx
    obtain ⟨a, ha⟩ : ∃ a : Int, a = 1 + (i : Int) := ⟨_, rfl⟩
    rw [← ha]
    simp (decide := true) [wpe_ret, wpe_exc, wpe_bind, wps_nx, wps_ret, wps_bk, wps_ct, wps_exc, wps_bindS, wps_seq, wps_xSeq, wps_toS, wpe_nox, defQ_ret, defQ_exc, wps_if, cn_k, cn_x, cx_n, cx_q, wpe_lst, wpe_dnew, wps_xSetF, wps_xAugF, wps_xDPut, gSub_eq, wpe_xMake, wps_xFor, wps_xForE, wpe_xLc, loopQ_ct, loopQ_bk, loopQ_ret, loopQ_exc, wpe_iteBad, wps_iteBad, oIC_wp, bList_wp, bListT_wp, oSlL_wp, oCat_wp, bListD_wp, mkRg_wp, bSet_wp, xSortSet_wp, cDiv_lit, cMul_litL, cMul_litR, rngOk_lit, rngOk_m1, -bList_tup, iR3, xLRg1, xLRg2, xErrF, xIsE, xRaise, RS.unset, RS.noexc, xNext, xAsg, gNameX, gConsX, gNilX, gTupX, xVar, xC, xOp, xUn, oI_int, oNeg_int, xB, asB_bl, xRet, xRetN, xDrop, xBreak, xCont, xCons, xNil, xTup, xCB, xCall, xCallX, xAnd, xOr, xNot, xAndV, xOrV, xNotV, xIf, xYes, xTru, truD, xIsN, xNotN, nonD, xFld, xMeth, xMethX, xBM, xDGet, xDIn, xPart, xNoPart, xSl, nox_ok, toS_ok, finX, iR1, iR2, iL, iT, iE, iZ, xAug, xAssert, str_beq, insX, putFX, putX, valX, keyD_int, keyD_str, List.lookup, oInSet, xDisp, xPCons, xPNil, keysX, mergeX, rdL_app_ge, rdL_app_self, rdL_zero, rdL_succ, at_app_ge, at_app_self, at_zero, at_succ, f_l_trace_b1]
    refine wpe_k (num_ok (hn.cons _ h) hl (by unfold NumOk; omega)) ?_
    rintro _ S ⟨rfl, kd, rfl, k0, k1⟩
    simp (decide := true) [wpe_ret, wpe_exc, wpe_bind, wps_nx, wps_ret, wps_bk, wps_ct, wps_exc, wps_bindS, wps_seq, wps_xSeq, wps_toS, wpe_nox, defQ_ret, defQ_exc, wps_if, cn_k, cn_x, cx_n, cx_q, wpe_lst, wpe_dnew, wps_xSetF, wps_xAugF, wps_xDPut, gSub_eq, wpe_xMake, wps_xFor, wps_xForE, wpe_xLc, loopQ_ct, loopQ_bk, loopQ_ret, loopQ_exc, wpe_iteBad, wps_iteBad, oIC_wp, bList_wp, bListT_wp, oSlL_wp, oCat_wp, bListD_wp, mkRg_wp, bSet_wp, xSortSet_wp, cDiv_lit, cMul_litL, cMul_litR, rngOk_lit, rngOk_m1, -bList_tup, iR3, xLRg1, xLRg2, xErrF, xIsE, xRaise, RS.unset, RS.noexc, xNext, xAsg, gNameX, gConsX, gNilX, gTupX, xVar, xC, xOp, xUn, oI_int, oNeg_int, xB, asB_bl, xRet, xRetN, xDrop, xBreak, xCont, xCons, xNil, xTup, xCB, xCall, xCallX, xAnd, xOr, xNot, xAndV, xOrV, xNotV, xIf, xYes, xTru, truD, xIsN, xNotN, nonD, xFld, xMeth, xMethX, xBM, xDGet, xDIn, xPart, xNoPart, xSl, nox_ok, toS_ok, finX, iR1, iR2, iL, iT, iE, iZ, xAug, xAssert, str_beq, insX, putFX, putX, valX, keyD_int, keyD_str, List.lookup, oInSet, xDisp, xPCons, xPNil, keysX, mergeX, rdL_app_ge, rdL_app_self, rdL_zero, rdL_succ, at_app_ge, at_app_self, at_zero, at_succ, len_ok (hr.cons _ h)]
    refine wpe_k (num_ok (hn.cons _ h) hl (by unfold NumOk; omega)) ?_
    rintro _ S ⟨rfl, t, rfl, t0, t1⟩
    obtain ⟨y, hy⟩ : ∃ y, nm[t.toNat]? = some y := ⟨_, List.getElem?_eq_getElem (by omega)⟩
    simp (decide := true) [wpe_ret, wpe_exc, wpe_bind, wps_nx, wps_ret, wps_bk, wps_ct, wps_exc, wps_bindS, wps_seq, wps_xSeq, wps_toS, wpe_nox, defQ_ret, defQ_exc, wps_if, cn_k, cn_x, cx_n, cx_q, wpe_lst, wpe_dnew, wps_xSetF, wps_xAugF, wps_xDPut, gSub_eq, wpe_xMake, wps_xFor, wps_xForE, wpe_xLc, loopQ_ct, loopQ_bk, loopQ_ret, loopQ_exc, wpe_iteBad, wps_iteBad, oIC_wp, bList_wp, bListT_wp, oSlL_wp, oCat_wp, bListD_wp, mkRg_wp, bSet_wp, xSortSet_wp, cDiv_lit, cMul_litL, cMul_litR, rngOk_lit, rngOk_m1, -bList_tup, iR3, xLRg1, xLRg2, xErrF, xIsE, xRaise, RS.unset, RS.noexc, xNext, xAsg, gNameX, gConsX, gNilX, gTupX, xVar, xC, xOp, xUn, oI_int, oNeg_int, xB, asB_bl, xRet, xRetN, xDrop, xBreak, xCont, xCons, xNil, xTup, xCB, xCall, xCallX, xAnd, xOr, xNot, xAndV, xOrV, xNotV, xIf, xYes, xTru, truD, xIsN, xNotN, nonD, xFld, xMeth, xMethX, xBM, xDGet, xDIn, xPart, xNoPart, xSl, nox_ok, toS_ok, finX, iR1, iR2, iL, iT, iE, iZ, xAug, xAssert, str_beq, insX, putFX, putX, valX, keyD_int, keyD_str, List.lookup, oInSet, xDisp, xPCons, xPNil, keysX, mergeX, rdL_app_ge, rdL_app_self, rdL_zero, rdL_succ, at_app_ge, at_app_self, at_zero, at_succ, oIxL, hr.cons _ h, atI_int t0 hy]
    refine wps_k (N := fun e S' => ∃ y, e = [some (.ref l0), some (.ref l), some (.ref p), some (.int a), some (.int kd), some (.int y)] ∧ Hs (pt p (.lst (xs.map .int)) :: As) S') (Q := fun _ => False) ?_ ?_ (fun _ z => z.elim)
    · refine wps_ite (fun _ => ?_) (fun _ => ⟨y, rfl, h⟩)
      have e0 := Int.emod_nonneg a (show (nm.length : Int) ≠ 0 by omega)
      have e1 := Int.emod_lt_of_pos a (show 0 < (nm.length : Int) by omega)
      obtain ⟨z, hz⟩ : ∃ z, nm[(a % (nm.length : Int)).toNat]? = some z := ⟨_, List.getElem?_eq_getElem (by omega)⟩
      simp (decide := true) [wpe_ret, wpe_exc, wpe_bind, wps_nx, wps_ret, wps_bk, wps_ct, wps_exc, wps_bindS, wps_seq, wps_xSeq, wps_toS, wpe_nox, defQ_ret, defQ_exc, wps_if, cn_k, cn_x, cx_n, cx_q, wpe_lst, wpe_dnew, wps_xSetF, wps_xAugF, wps_xDPut, gSub_eq, wpe_xMake, wps_xFor, wps_xForE, wpe_xLc, loopQ_ct, loopQ_bk, loopQ_ret, loopQ_exc, wpe_iteBad, wps_iteBad, oIC_wp, bList_wp, bListT_wp, oSlL_wp, oCat_wp, bListD_wp, mkRg_wp, bSet_wp, xSortSet_wp, cDiv_lit, cMul_litL, cMul_litR, rngOk_lit, rngOk_m1, -bList_tup, iR3, xLRg1, xLRg2, xErrF, xIsE, xRaise, RS.unset, RS.noexc, xNext, xAsg, gNameX, gConsX, gNilX, gTupX, xVar, xC, xOp, xUn, oI_int, oNeg_int, xB, asB_bl, xRet, xRetN, xDrop, xBreak, xCont, xCons, xNil, xTup, xCB, xCall, xCallX, xAnd, xOr, xNot, xAndV, xOrV, xNotV, xIf, xYes, xTru, truD, xIsN, xNotN, nonD, xFld, xMeth, xMethX, xBM, xDGet, xDIn, xPart, xNoPart, xSl, nox_ok, toS_ok, finX, iR1, iR2, iL, iT, iE, iZ, xAug, xAssert, str_beq, insX, putFX, putX, valX, keyD_int, keyD_str, List.lookup, oInSet, xDisp, xPCons, xPNil, keysX, mergeX, rdL_app_ge, rdL_app_self, rdL_zero, rdL_succ, at_app_ge, at_app_self, at_zero, at_succ, oIxL, hr.cons _ h, len_ok (hr.cons _ h), atI_int e0 hz]
      exact ⟨by omega, h⟩
    rintro _ S ⟨y, rfl, h⟩
    simp (decide := true) [wpe_ret, wpe_exc, wpe_bind, wps_nx, wps_ret, wps_bk, wps_ct, wps_exc, wps_bindS, wps_seq, wps_xSeq, wps_toS, wpe_nox, defQ_ret, defQ_exc, wps_if, cn_k, cn_x, cx_n, cx_q, wpe_lst, wpe_dnew, wps_xSetF, wps_xAugF, wps_xDPut, gSub_eq, wpe_xMake, wps_xFor, wps_xForE, wpe_xLc, loopQ_ct, loopQ_bk, loopQ_ret, loopQ_exc, wpe_iteBad, wps_iteBad, oIC_wp, bList_wp, bListT_wp, oSlL_wp, oCat_wp, bListD_wp, mkRg_wp, bSet_wp, xSortSet_wp, cDiv_lit, cMul_litL, cMul_litR, rngOk_lit, rngOk_m1, -bList_tup, iR3, xLRg1, xLRg2, xErrF, xIsE, xRaise, RS.unset, RS.noexc, xNext, xAsg, gNameX, gConsX, gNilX, gTupX, xVar, xC, xOp, xUn, oI_int, oNeg_int, xB, asB_bl, xRet, xRetN, xDrop, xBreak, xCont, xCons, xNil, xTup, xCB, xCall, xCallX, xAnd, xOr, xNot, xAndV, xOrV, xNotV, xIf, xYes, xTru, truD, xIsN, xNotN, nonD, xFld, xMeth, xMethX, xBM, xDGet, xDIn, xPart, xNoPart, xSl, nox_ok, toS_ok, finX, iR1, iR2, iL, iT, iE, iZ, xAug, xAssert, str_beq, insX, putFX, putX, valX, keyD_int, keyD_str, List.lookup, oInSet, xDisp, xPCons, xPNil, keysX, mergeX, rdL_app_ge, rdL_app_self, rdL_zero, rdL_succ, at_app_ge, at_app_self, at_zero, at_succ]
    refine wpe_k (P := fun (b : Bool) S' => S' = S ∧ (b = true → 0 < xs.length)) ?_ ?_
    · unfold Ok f_l_trace_t1
      simp (decide := true) [wpe_ret, wpe_exc, wpe_bind, wps_nx, wps_ret, wps_bk, wps_ct, wps_exc, wps_bindS, wps_seq, wps_xSeq, wps_toS, wpe_nox, defQ_ret, defQ_exc, wps_if, cn_k, cn_x, cx_n, cx_q, wpe_lst, wpe_dnew, wps_xSetF, wps_xAugF, wps_xDPut, gSub_eq, wpe_xMake, wps_xFor, wps_xForE, wpe_xLc, loopQ_ct, loopQ_bk, loopQ_ret, loopQ_exc, wpe_iteBad, wps_iteBad, oIC_wp, bList_wp, bListT_wp, oSlL_wp, oCat_wp, bListD_wp, mkRg_wp, bSet_wp, xSortSet_wp, cDiv_lit, cMul_litL, cMul_litR, rngOk_lit, rngOk_m1, -bList_tup, iR3, xLRg1, xLRg2, xErrF, xIsE, xRaise, RS.unset, RS.noexc, xNext, xAsg, gNameX, gConsX, gNilX, gTupX, xVar, xC, xOp, xUn, oI_int, oNeg_int, xB, asB_bl, xRet, xRetN, xDrop, xBreak, xCont, xCons, xNil, xTup, xCB, xCall, xCallX, xAnd, xOr, xNot, xAndV, xOrV, xNotV, xIf, xYes, xTru, truD, xIsN, xNotN, nonD, xFld, xMeth, xMethX, xBM, xDGet, xDIn, xPart, xNoPart, xSl, nox_ok, toS_ok, finX, iR1, iR2, iL, iT, iE, iZ, xAug, xAssert, str_beq, insX, putFX, putX, valX, keyD_int, keyD_str, List.lookup, oInSet, xDisp, xPCons, xPNil, keysX, mergeX, rdL_app_ge, rdL_app_self, rdL_zero, rdL_succ, at_app_ge, at_app_self, at_zero, at_succ, len_ok (h.rp 0)]
      refine wpe_ite (fun _ => ?_) (fun _ => ?_)
      · simp (decide := true) [wpe_ret, wpe_exc, wpe_bind, wps_nx, wps_ret, wps_bk, wps_ct, wps_exc, wps_bindS, wps_seq, wps_xSeq, wps_toS, wpe_nox, defQ_ret, defQ_exc, wps_if, cn_k, cn_x, cx_n, cx_q, wpe_lst, wpe_dnew, wps_xSetF, wps_xAugF, wps_xDPut, gSub_eq, wpe_xMake, wps_xFor, wps_xForE, wpe_xLc, loopQ_ct, loopQ_bk, loopQ_ret, loopQ_exc, wpe_iteBad, wps_iteBad, oIC_wp, bList_wp, bListT_wp, oSlL_wp, oCat_wp, bListD_wp, mkRg_wp, bSet_wp, xSortSet_wp, cDiv_lit, cMul_litL, cMul_litR, rngOk_lit, rngOk_m1, -bList_tup, iR3, xLRg1, xLRg2, xErrF, xIsE, xRaise, RS.unset, RS.noexc, xNext, xAsg, gNameX, gConsX, gNilX, gTupX, xVar, xC, xOp, xUn, oI_int, oNeg_int, xB, asB_bl, xRet, xRetN, xDrop, xBreak, xCont, xCons, xNil, xTup, xCB, xCall, xCallX, xAnd, xOr, xNot, xAndV, xOrV, xNotV, xIf, xYes, xTru, truD, xIsN, xNotN, nonD, xFld, xMeth, xMethX, xBM, xDGet, xDIn, xPart, xNoPart, xSl, nox_ok, toS_ok, finX, iR1, iR2, iL, iT, iE, iZ, xAug, xAssert, str_beq, insX, putFX, putX, valX, keyD_int, keyD_str, List.lookup, oInSet, xDisp, xPCons, xPNil, keysX, mergeX, rdL_app_ge, rdL_app_self, rdL_zero, rdL_succ, at_app_ge, at_app_self, at_zero, at_succ, len_ok (h.rp 0)]
      · simp (decide := true) [wpe_ret, wpe_exc, wpe_bind, wps_nx, wps_ret, wps_bk, wps_ct, wps_exc, wps_bindS, wps_seq, wps_xSeq, wps_toS, wpe_nox, defQ_ret, defQ_exc, wps_if, cn_k, cn_x, cx_n, cx_q, wpe_lst, wpe_dnew, wps_xSetF, wps_xAugF, wps_xDPut, gSub_eq, wpe_xMake, wps_xFor, wps_xForE, wpe_xLc, loopQ_ct, loopQ_bk, loopQ_ret, loopQ_exc, wpe_iteBad, wps_iteBad, oIC_wp, bList_wp, bListT_wp, oSlL_wp, oCat_wp, bListD_wp, mkRg_wp, bSet_wp, xSortSet_wp, cDiv_lit, cMul_litL, cMul_litR, rngOk_lit, rngOk_m1, -bList_tup, iR3, xLRg1, xLRg2, xErrF, xIsE, xRaise, RS.unset, RS.noexc, xNext, xAsg, gNameX, gConsX, gNilX, gTupX, xVar, xC, xOp, xUn, oI_int, oNeg_int, xB, asB_bl, xRet, xRetN, xDrop, xBreak, xCont, xCons, xNil, xTup, xCB, xCall, xCallX, xAnd, xOr, xNot, xAndV, xOrV, xNotV, xIf, xYes, xTru, truD, xIsN, xNotN, nonD, xFld, xMeth, xMethX, xBM, xDGet, xDIn, xPart, xNoPart, xSl, nox_ok, toS_ok, finX, iR1, iR2, iL, iT, iE, iZ, xAug, xAssert, str_beq, insX, putFX, putX, valX, keyD_int, keyD_str, List.lookup, oInSet, xDisp, xPCons, xPNil, keysX, mergeX, rdL_app_ge, rdL_app_self, rdL_zero, rdL_succ, at_app_ge, at_app_self, at_zero, at_succ]
    rintro t S ⟨rfl, ht⟩
    simp only [cn_k]
    refine wps_k (N := fun e S' => ∃ y, e = [some (.ref l0), some (.ref l), some (.ref p), some (.int a), some (.int kd), some (.int y)] ∧ Hs (pt p (.lst (xs.map .int)) :: As) S') (Q := fun _ => False) ?_ ?_ (fun _ z => z.elim)
    · refine wps_ite (fun hq => ?_) (fun _ => ⟨y, rfl, h⟩)
      have hx := ht hq
      simp (decide := true) [wpe_ret, wpe_exc, wpe_bind, wps_nx, wps_ret, wps_bk, wps_ct, wps_exc, wps_bindS, wps_seq, wps_xSeq, wps_toS, wpe_nox, defQ_ret, defQ_exc, wps_if, cn_k, cn_x, cx_n, cx_q, wpe_lst, wpe_dnew, wps_xSetF, wps_xAugF, wps_xDPut, gSub_eq, wpe_xMake, wps_xFor, wps_xForE, wpe_xLc, loopQ_ct, loopQ_bk, loopQ_ret, loopQ_exc, wpe_iteBad, wps_iteBad, oIC_wp, bList_wp, bListT_wp, oSlL_wp, oCat_wp, bListD_wp, mkRg_wp, bSet_wp, xSortSet_wp, cDiv_lit, cMul_litL, cMul_litR, rngOk_lit, rngOk_m1, -bList_tup, iR3, xLRg1, xLRg2, xErrF, xIsE, xRaise, RS.unset, RS.noexc, xNext, xAsg, gNameX, gConsX, gNilX, gTupX, xVar, xC, xOp, xUn, oI_int, oNeg_int, xB, asB_bl, xRet, xRetN, xDrop, xBreak, xCont, xCons, xNil, xTup, xCB, xCall, xCallX, xAnd, xOr, xNot, xAndV, xOrV, xNotV, xIf, xYes, xTru, truD, xIsN, xNotN, nonD, xFld, xMeth, xMethX, xBM, xDGet, xDIn, xPart, xNoPart, xSl, nox_ok, toS_ok, finX, iR1, iR2, iL, iT, iE, iZ, xAug, xAssert, str_beq, insX, putFX, putX, valX, keyD_int, keyD_str, List.lookup, oInSet, xDisp, xPCons, xPNil, keysX, mergeX, rdL_app_ge, rdL_app_self, rdL_zero, rdL_succ, at_app_ge, at_app_self, at_zero, at_succ, len_ok (h.rp 0)]
      refine wpe_k (num_ok (hn.cons _ h) hl (by unfold NumOk; omega)) ?_
      rintro _ S ⟨rfl, t, rfl, t0, t1⟩
      obtain ⟨z, hz⟩ : ∃ z, xs[t.toNat]? = some z := ⟨_, List.getElem?_eq_getElem (by omega)⟩
      simp (decide := true) [wpe_ret, wpe_exc, wpe_bind, wps_nx, wps_ret, wps_bk, wps_ct, wps_exc, wps_bindS, wps_seq, wps_xSeq, wps_toS, wpe_nox, defQ_ret, defQ_exc, wps_if, cn_k, cn_x, cx_n, cx_q, wpe_lst, wpe_dnew, wps_xSetF, wps_xAugF, wps_xDPut, gSub_eq, wpe_xMake, wps_xFor, wps_xForE, wpe_xLc, loopQ_ct, loopQ_bk, loopQ_ret, loopQ_exc, wpe_iteBad, wps_iteBad, oIC_wp, bList_wp, bListT_wp, oSlL_wp, oCat_wp, bListD_wp, mkRg_wp, bSet_wp, xSortSet_wp, cDiv_lit, cMul_litL, cMul_litR, rngOk_lit, rngOk_m1, -bList_tup, iR3, xLRg1, xLRg2, xErrF, xIsE, xRaise, RS.unset, RS.noexc, xNext, xAsg, gNameX, gConsX, gNilX, gTupX, xVar, xC, xOp, xUn, oI_int, oNeg_int, xB, asB_bl, xRet, xRetN, xDrop, xBreak, xCont, xCons, xNil, xTup, xCB, xCall, xCallX, xAnd, xOr, xNot, xAndV, xOrV, xNotV, xIf, xYes, xTru, truD, xIsN, xNotN, nonD, xFld, xMeth, xMethX, xBM, xDGet, xDIn, xPart, xNoPart, xSl, nox_ok, toS_ok, finX, iR1, iR2, iL, iT, iE, iZ, xAug, xAssert, str_beq, insX, putFX, putX, valX, keyD_int, keyD_str, List.lookup, oInSet, xDisp, xPCons, xPNil, keysX, mergeX, rdL_app_ge, rdL_app_self, rdL_zero, rdL_succ, at_app_ge, at_app_self, at_zero, at_succ, oIxL, h.rp 0, atI_int t0 hz]
      exact h
    rintro _ S ⟨y, rfl, h⟩
    simp (decide := true) [wpe_ret, wpe_exc, wpe_bind, wps_nx, wps_ret, wps_bk, wps_ct, wps_exc, wps_bindS, wps_seq, wps_xSeq, wps_toS, wpe_nox, defQ_ret, defQ_exc, wps_if, cn_k, cn_x, cx_n, cx_q, wpe_lst, wpe_dnew, wps_xSetF, wps_xAugF, wps_xDPut, gSub_eq, wpe_xMake, wps_xFor, wps_xForE, wpe_xLc, loopQ_ct, loopQ_bk, loopQ_ret, loopQ_exc, wpe_iteBad, wps_iteBad, oIC_wp, bList_wp, bListT_wp, oSlL_wp, oCat_wp, bListD_wp, mkRg_wp, bSet_wp, xSortSet_wp, cDiv_lit, cMul_litL, cMul_litR, rngOk_lit, rngOk_m1, -bList_tup, iR3, xLRg1, xLRg2, xErrF, xIsE, xRaise, RS.unset, RS.noexc, xNext, xAsg, gNameX, gConsX, gNilX, gTupX, xVar, xC, xOp, xUn, oI_int, oNeg_int, xB, asB_bl, xRet, xRetN, xDrop, xBreak, xCont, xCons, xNil, xTup, xCB, xCall, xCallX, xAnd, xOr, xNot, xAndV, xOrV, xNotV, xIf, xYes, xTru, truD, xIsN, xNotN, nonD, xFld, xMeth, xMethX, xBM, xDGet, xDIn, xPart, xNoPart, xSl, nox_ok, toS_ok, finX, iR1, iR2, iL, iT, iE, iZ, xAug, xAssert, str_beq, insX, putFX, putX, valX, keyD_int, keyD_str, List.lookup, oInSet, xDisp, xPCons, xPNil, keysX, mergeX, rdL_app_ge, rdL_app_self, rdL_zero, rdL_succ, at_app_ge, at_app_self, at_zero, at_succ, isLst, h.rp 0]
    refine wpe_append h (by rw [List.length_map]; omega) ?_
    intro S h
    refine ⟨_, _, _, xs ++ [y], rfl, ?_, by rw [List.length_append, hi]; rfl⟩
    rw [List.map_append]
    exact h
  · rintro _ S ⟨o3, o4, o5, xs, rfl, h, hi⟩
    rw [rngD_len] at hi
    simp (decide := true) [wpe_ret, wpe_exc, wpe_bind, wps_nx, wps_ret, wps_bk, wps_ct, wps_exc, wps_bindS, wps_seq, wps_xSeq, wps_toS, wpe_nox, defQ_ret, defQ_exc, wps_if, cn_k, cn_x, cx_n, cx_q, wpe_lst, wpe_dnew, wps_xSetF, wps_xAugF, wps_xDPut, gSub_eq, wpe_xMake, wps_xFor, wps_xForE, wpe_xLc, loopQ_ct, loopQ_bk, loopQ_ret, loopQ_exc, wpe_iteBad, wps_iteBad, oIC_wp, bList_wp, bListT_wp, oSlL_wp, oCat_wp, bListD_wp, mkRg_wp, bSet_wp, xSortSet_wp, cDiv_lit, cMul_litL, cMul_litR, rngOk_lit, rngOk_m1, -bList_tup, iR3, xLRg1, xLRg2, xErrF, xIsE, xRaise, RS.unset, RS.noexc, xNext, xAsg, gNameX, gConsX, gNilX, gTupX, xVar, xC, xOp, xUn, oI_int, oNeg_int, xB, asB_bl, xRet, xRetN, xDrop, xBreak, xCont, xCons, xNil, xTup, xCB, xCall, xCallX, xAnd, xOr, xNot, xAndV, xOrV, xNotV, xIf, xYes, xTru, truD, xIsN, xNotN, nonD, xFld, xMeth, xMethX, xBM, xDGet, xDIn, xPart, xNoPart, xSl, nox_ok, toS_ok, finX, iR1, iR2, iL, iT, iE, iZ, xAug, xAssert, str_beq, insX, putFX, putX, valX, keyD_int, keyD_str, List.lookup, oInSet, xDisp, xPCons, xPNil, keysX, mergeX, rdL_app_ge, rdL_app_self, rdL_zero, rdL_succ, at_app_ge, at_app_self, at_zero, at_succ]
    exact ⟨xs, h, by omega⟩
end
end

section
open Mi
variable {As : List Asn} {S : Sto} {n l l0 tr : Nat} {ns ts : List Int} {k a : Str}
theorem kind_turn (h : Hs (pt tr (.lst (ts.map .int)) :: As) S) (ht : Tb As) (hz : ts.length ≤ 1000) (hk : Kind4 k) (hn : 0 < n ∧ n ≤ 1000) {o0 o3 o4 o7 o8 o9 o10 : Option D} :
    wps (K := ⟨fun e S' => ∃ o7 o8 o9 o10, e = [o0, some (.ref tr), some (.int n), o3, o4, some (.str a), some (.str k), o7, o8, o9, o10] ∧ Hs (pt tr (.lst (ts.map .int)) :: As) S', fun _ => False⟩) (f_law_b2 [o0, some (.ref tr), some (.int n), o3, o4, some (.str a), some (.str k), o7, o8, o9, o10] S) := by
  have sim := Sim.all (n := n) (k := k) hk hn.1 ts
  have gz := (goP_at (opsC n) (s := Ch.new k n) (n := n) ts).2
  have fo := sim.fo
  unfold f_law_b2
  simp (decide := true) [wpe_ret, wpe_exc, wpe_bind, wps_nx, wps_ret, wps_bk, wps_ct, wps_exc, wps_bindS, wps_seq, wps_xSeq, wps_toS, wpe_nox, defQ_ret, defQ_exc, wps_if, cn_k, cn_x, cx_n, cx_q, wpe_lst, wpe_dnew, wps_xSetF, wps_xAugF, wps_xDPut, gSub_eq, wpe_xMake, wps_xFor, wps_xForE, wpe_xLc, loopQ_ct, loopQ_bk, loopQ_ret, loopQ_exc, wpe_iteBad, wps_iteBad, oIC_wp, bList_wp, bListT_wp, oSlL_wp, oCat_wp, bListD_wp, mkRg_wp, bSet_wp, xSortSet_wp, cDiv_lit, cMul_litL, cMul_litR, rngOk_lit, rngOk_m1, -bList_tup, iR3, xLRg1, xLRg2, xErrF, xIsE, xRaise, RS.unset, RS.noexc, xNext, xAsg, gNameX, gConsX, gNilX, gTupX, xVar, xC, xOp, xUn, oI_int, oNeg_int, xB, asB_bl, xRet, xRetN, xDrop, xBreak, xCont, xCons, xNil, xTup, xCB, xCall, xCallX, xAnd, xOr, xNot, xAndV, xOrV, xNotV, xIf, xYes, xTru, truD, xIsN, xNotN, nonD, xFld, xMeth, xMethX, xBM, xDGet, xDIn, xPart, xNoPart, xSl, nox_ok, toS_ok, finX, iR1, iR2, iL, iT, iE, iZ, xAug, xAssert, str_beq, insX, putFX, putX, valX, keyD_int, keyD_str, List.lookup, oInSet, xDisp, xPCons, xPNil, keysX, mergeX, rdL_app_ge, rdL_app_self, rdL_zero, rdL_succ, at_app_ge, at_app_self, at_zero, at_succ]
  refine wpe_k (lpage_ins_ok h (Mi.Rd.pt 0) hz hk hn) ?_
  rintro _ S ⟨du, rfl, h⟩
  rw [← fo] at h
  simp (decide := true) [wpe_ret, wpe_exc, wpe_bind, wps_nx, wps_ret, wps_bk, wps_ct, wps_exc, wps_bindS, wps_seq, wps_xSeq, wps_toS, wpe_nox, defQ_ret, defQ_exc, wps_if, cn_k, cn_x, cx_n, cx_q, wpe_lst, wpe_dnew, wps_xSetF, wps_xAugF, wps_xDPut, gSub_eq, wpe_xMake, wps_xFor, wps_xForE, wpe_xLc, loopQ_ct, loopQ_bk, loopQ_ret, loopQ_exc, wpe_iteBad, wps_iteBad, oIC_wp, bList_wp, bListT_wp, oSlL_wp, oCat_wp, bListD_wp, mkRg_wp, bSet_wp, xSortSet_wp, cDiv_lit, cMul_litL, cMul_litR, rngOk_lit, rngOk_m1, -bList_tup, iR3, xLRg1, xLRg2, xErrF, xIsE, xRaise, RS.unset, RS.noexc, xNext, xAsg, gNameX, gConsX, gNilX, gTupX, xVar, xC, xOp, xUn, oI_int, oNeg_int, xB, asB_bl, xRet, xRetN, xDrop, xBreak, xCont, xCons, xNil, xTup, xCB, xCall, xCallX, xAnd, xOr, xNot, xAndV, xOrV, xNotV, xIf, xYes, xTru, truD, xIsN, xNotN, nonD, xFld, xMeth, xMethX, xBM, xDGet, xDIn, xPart, xNoPart, xSl, nox_ok, toS_ok, finX, iR1, iR2, iL, iT, iE, iZ, xAug, xAssert, str_beq, insX, putFX, putX, valX, keyD_int, keyD_str, List.lookup, oInSet, xDisp, xPCons, xPNil, keysX, mergeX, rdL_app_ge, rdL_app_self, rdL_zero, rdL_succ, at_app_ge, at_app_self, at_zero, at_succ, f_law_l1]
  have rg : ∀ b : Bool, RngOk (1 + (if b = true then 1 else 0)) := fun b => by cases b <;> exact rngOk (by decide)
  have fin : ∀ m : Nat, wps (K := ⟨fun e S' => ∃ o7 o8 o9 o10, e = [o0, some (.ref tr), some (.int n), o3, o4, some (.str a), some (.str k), o7, o8, o9, o10] ∧ Hs (pt tr (.lst (ts.map .int)) :: As) S', fun _ => False⟩) (finX (loopX (fun _ => True) (gNameX 8) f_law_b1 (rngD 0 m) [o0, some (.ref tr), some (.int n), o3, o4, some (.str a), some (.str k), some (.ref du), o8, o9, o10] S)) := fun m => by
    refine wps_loop (fun i env S => ∃ o8 o9 o10, env = [o0, some (.ref tr), some (.int n), o3, o4, some (.str a), some (.str k), some (.ref du), o8, o9, o10] ∧ Hs (pt du (.lst ((goP (opsC n) (Ch.new k n) n ts).fo.map .int)) :: pt tr (.lst (ts.map .int)) :: As) S) ⟨_, _, _, rfl, h⟩ (fun _ _ _ _ => trivial) ?_ ?_
    · rintro i x env S hx ⟨o8, o9, o10, rfl, h⟩
      simp (decide := true) [wpe_ret, wpe_exc, wpe_bind, wps_nx, wps_ret, wps_bk, wps_ct, wps_exc, wps_bindS, wps_seq, wps_xSeq, wps_toS, wpe_nox, defQ_ret, defQ_exc, wps_if, cn_k, cn_x, cx_n, cx_q, wpe_lst, wpe_dnew, wps_xSetF, wps_xAugF, wps_xDPut, gSub_eq, wpe_xMake, wps_xFor, wps_xForE, wpe_xLc, loopQ_ct, loopQ_bk, loopQ_ret, loopQ_exc, wpe_iteBad, wps_iteBad, oIC_wp, bList_wp, bListT_wp, oSlL_wp, oCat_wp, bListD_wp, mkRg_wp, bSet_wp, xSortSet_wp, cDiv_lit, cMul_litL, cMul_litR, rngOk_lit, rngOk_m1, -bList_tup, iR3, xLRg1, xLRg2, xErrF, xIsE, xRaise, RS.unset, RS.noexc, xNext, xAsg, gNameX, gConsX, gNilX, gTupX, xVar, xC, xOp, xUn, oI_int, oNeg_int, xB, asB_bl, xRet, xRetN, xDrop, xBreak, xCont, xCons, xNil, xTup, xCB, xCall, xCallX, xAnd, xOr, xNot, xAndV, xOrV, xNotV, xIf, xYes, xTru, truD, xIsN, xNotN, nonD, xFld, xMeth, xMethX, xBM, xDGet, xDIn, xPart, xNoPart, xSl, nox_ok, toS_ok, finX, iR1, iR2, iL, iT, iE, iZ, xAug, xAssert, str_beq, insX, putFX, putX, valX, keyD_int, keyD_str, List.lookup, oInSet, xDisp, xPCons, xPNil, keysX, mergeX, rdL_app_ge, rdL_app_self, rdL_zero, rdL_succ, at_app_ge, at_app_self, at_zero, at_succ, f_law_b1, h.rp 1]
      refine wpe_allo h ?_
      intro hd S h
      simp (decide := true) [wpe_ret, wpe_exc, wpe_bind, wps_nx, wps_ret, wps_bk, wps_ct, wps_exc, wps_bindS, wps_seq, wps_xSeq, wps_toS, wpe_nox, defQ_ret, defQ_exc, wps_if, cn_k, cn_x, cx_n, cx_q, wpe_lst, wpe_dnew, wps_xSetF, wps_xAugF, wps_xDPut, gSub_eq, wpe_xMake, wps_xFor, wps_xForE, wpe_xLc, loopQ_ct, loopQ_bk, loopQ_ret, loopQ_exc, wpe_iteBad, wps_iteBad, oIC_wp, bList_wp, bListT_wp, oSlL_wp, oCat_wp, bListD_wp, mkRg_wp, bSet_wp, xSortSet_wp, cDiv_lit, cMul_litL, cMul_litR, rngOk_lit, rngOk_m1, -bList_tup, iR3, xLRg1, xLRg2, xErrF, xIsE, xRaise, RS.unset, RS.noexc, xNext, xAsg, gNameX, gConsX, gNilX, gTupX, xVar, xC, xOp, xUn, oI_int, oNeg_int, xB, asB_bl, xRet, xRetN, xDrop, xBreak, xCont, xCons, xNil, xTup, xCB, xCall, xCallX, xAnd, xOr, xNot, xAndV, xOrV, xNotV, xIf, xYes, xTru, truD, xIsN, xNotN, nonD, xFld, xMeth, xMethX, xBM, xDGet, xDIn, xPart, xNoPart, xSl, nox_ok, toS_ok, finX, iR1, iR2, iL, iT, iE, iZ, xAug, xAssert, str_beq, insX, putFX, putX, valX, keyD_int, keyD_str, List.lookup, oInSet, xDisp, xPCons, xPNil, keysX, mergeX, rdL_app_ge, rdL_app_self, rdL_zero, rdL_succ, at_app_ge, at_app_self, at_zero, at_succ]
      have tb : Tb (pt hd (.lst (ts.map .int)) :: pt du (.lst ((goP (opsC n) (Ch.new k n) n ts).fo.map .int)) :: pt tr (.lst (ts.map .int)) :: As) := Tb.right (As := [_, _, _]) ht
      refine wpe_k (page_ins_ok h (Mi.Rd.pt 0) hz hk hn tb) ?_
      rintro _ S ⟨td, rfl, h⟩
      have s1 := same_ints (h.rp 0) (h.rp 2) (by omega)
      have s2 := oEqD_ints (neg := true) (h.rp 1) (h.rp 3)
      simp (decide := true) [wpe_ret, wpe_exc, wpe_bind, wps_nx, wps_ret, wps_bk, wps_ct, wps_exc, wps_bindS, wps_seq, wps_xSeq, wps_toS, wpe_nox, defQ_ret, defQ_exc, wps_if, cn_k, cn_x, cx_n, cx_q, wpe_lst, wpe_dnew, wps_xSetF, wps_xAugF, wps_xDPut, gSub_eq, wpe_xMake, wps_xFor, wps_xForE, wpe_xLc, loopQ_ct, loopQ_bk, loopQ_ret, loopQ_exc, wpe_iteBad, wps_iteBad, oIC_wp, bList_wp, bListT_wp, oSlL_wp, oCat_wp, bListD_wp, mkRg_wp, bSet_wp, xSortSet_wp, cDiv_lit, cMul_litL, cMul_litR, rngOk_lit, rngOk_m1, -bList_tup, iR3, xLRg1, xLRg2, xErrF, xIsE, xRaise, RS.unset, RS.noexc, xNext, xAsg, gNameX, gConsX, gNilX, gTupX, xVar, xC, xOp, xUn, oI_int, oNeg_int, xB, asB_bl, xRet, xRetN, xDrop, xBreak, xCont, xCons, xNil, xTup, xCB, xCall, xCallX, xAnd, xOr, xNot, xAndV, xOrV, xNotV, xIf, xYes, xTru, truD, xIsN, xNotN, nonD, xFld, xMeth, xMethX, xBM, xDGet, xDIn, xPart, xNoPart, xSl, nox_ok, toS_ok, finX, iR1, iR2, iL, iT, iE, iZ, xAug, xAssert, str_beq, insX, putFX, putX, valX, keyD_int, keyD_str, List.lookup, oInSet, xDisp, xPCons, xPNil, keysX, mergeX, rdL_app_ge, rdL_app_self, rdL_zero, rdL_succ, at_app_ge, at_app_self, at_zero, at_succ, f_law_t1, s1, s2, isLst, h.rp 0]
      refine wpe_append h (by rw [List.length_map]; omega) ?_
      intro S h
      exact ⟨_, _, _, rfl, h.drop.drop⟩
    · rintro _ S ⟨o8, o9, o10, rfl, h⟩
      exact ⟨_, _, _, _, rfl, h.drop⟩
  exact ⟨by by_cases e : k = a <;> simp [e] <;> exact rngOk (by decide), fin _⟩
theorem kinds4_at {t : Int} (t0 : 0 ≤ t) (t1 : t < 4) : ∃ k : Str, atI [D.str "lru", D.str "fifo", D.str "newest", D.str "clock"] t = some (.str k) := by
  have : t = 0 ∨ t = 1 ∨ t = 2 ∨ t = 3 := by omega
  rcases this with rfl | rfl | rfl | rfl <;> exact ⟨_, rfl⟩
theorem kinds4_get {i : Nat} {x : D} (h : [D.str "lru", D.str "fifo", D.str "newest", D.str "clock"][i]? = some x) : ∃ k : Str, x = .str k ∧ Kind4 k := by
  rcases i with _ | _ | _ | _ | i
  · cases h; exact ⟨"lru", rfl, .inl (.inl rfl)⟩
  · cases h; exact ⟨"fifo", rfl, .inl (.inr (.inl rfl))⟩
  · cases h; exact ⟨"newest", rfl, .inl (.inr (.inr rfl))⟩
  · cases h; exact ⟨"clock", rfl, .inr rfl⟩
  · cases h
theorem wpe_rep {K : Cn D} {q : Int} {xs : List D} (h : Hs As S) (hl : at_ S l = some (.lst xs)) (hq : 0 ≤ q ∧ q ≤ 100) (hz : xs.length * q.toNat ≤ 100000) (kk : ∀ p S', Hs (pt p (.lst (List.replicate q.toNat xs).flatten) :: As) S' → K.k (.ref p) S') : wpe (oRep (.ref l) (.int q) S) := by
  unfold oRep
  dsimp only
  rw [hl]
  dsimp only
  rw [if_pos ⟨by omega, by omega, hz⟩]
  exact kk _ _ h.new
theorem rep_ints {m : Nat} {xs : List Int} : (List.replicate m (xs.map D.int)).flatten = ((List.replicate m xs).flatten).map .int := by
  induction m with
  | zero => rfl
  | succ m ih => rw [List.replicate_succ, List.replicate_succ, List.flatten_cons, List.flatten_cons, ih, List.map_append]
theorem rep_len {m : Nat} {xs : List Int} : (List.replicate m xs).flatten.length = m * xs.length := by
  induction m with
  | zero => simp
  | succ m ih => rw [List.replicate_succ, List.flatten_cons, List.length_append, ih, Nat.succ_mul, Nat.add_comm]
theorem law_sp : ∀ (o : O) (ns : List Int), (o = .lst (ns.map .int) ∨ o = .rol (ns.map .int)) → ns.length ≤ 63 → ∃ S', f_law [.ref 0] [o, .tbls tabs0] = .ok (.bl true) S' := by
  intro o ns ho hl
  have h0 : Hs [rl 0 (ns.map .int)] [o] := Hs.oneRl (by rcases ho with rfl | rfl <;> rfl)
  have h : Hs [pt 1 (.tbls tabs0), rl 0 (ns.map .int)] [o, .tbls tabs0] := h0.new
  clear h0
  generalize [o, O.tbls tabs0] = S at h
  obtain ⟨As, hAs⟩ : ∃ As, As = [pt 1 (.tbls tabs0), rl 0 (ns.map .int)] := ⟨_, rfl⟩
  have hs : Mi.Rd As 0 (ns.map .int) := by rw [hAs]; exact Mi.Rd.rl 1
  have ht : Tb As := by rw [hAs]; exact fun S h => h.at 0
  rw [← hAs] at h
  clear hAs
  suffices Ok (f_law [.ref 0] S) (fun v _ => v = .bl true) by
    obtain ⟨v, S', e, rfl⟩ := this.ex
    exact ⟨S', e⟩
  rw [f_law_eq]
  refine Ok.def rfl ?_
  simp (decide := true) [wpe_ret, wpe_exc, wpe_bind, wps_nx, wps_ret, wps_bk, wps_ct, wps_exc, wps_bindS, wps_seq, wps_xSeq, wps_toS, wpe_nox, defQ_ret, defQ_exc, wps_if, cn_k, cn_x, cx_n, cx_q, wpe_lst, wpe_dnew, wps_xSetF, wps_xAugF, wps_xDPut, gSub_eq, wpe_xMake, wps_xFor, wps_xForE, wpe_xLc, loopQ_ct, loopQ_bk, loopQ_ret, loopQ_exc, wpe_iteBad, wps_iteBad, oIC_wp, bList_wp, bListT_wp, oSlL_wp, oCat_wp, bListD_wp, mkRg_wp, bSet_wp, xSortSet_wp, cDiv_lit, cMul_litL, cMul_litR, rngOk_lit, rngOk_m1, -bList_tup, iR3, xLRg1, xLRg2, xErrF, xIsE, xRaise, RS.unset, RS.noexc, xNext, xAsg, gNameX, gConsX, gNilX, gTupX, xVar, xC, xOp, xUn, oI_int, oNeg_int, xB, asB_bl, xRet, xRetN, xDrop, xBreak, xCont, xCons, xNil, xTup, xCB, xCall, xCallX, xAnd, xOr, xNot, xAndV, xOrV, xNotV, xIf, xYes, xTru, truD, xIsN, xNotN, nonD, xFld, xMeth, xMethX, xBM, xDGet, xDIn, xPart, xNoPart, xSl, nox_ok, toS_ok, finX, iR1, iR2, iL, iT, iE, iZ, xAug, xAssert, str_beq, insX, putFX, putX, valX, keyD_int, keyD_str, List.lookup, oInSet, xDisp, xPCons, xPNil, keysX, mergeX, rdL_app_ge, rdL_app_self, rdL_zero, rdL_succ, at_app_ge, at_app_self, at_zero, at_succ]
  refine wpe_k (names_ok h hs hl (by omega)) ?_
  rintro _ S ⟨nm, xs, rfl, h, x0, x1⟩
  simp (decide := true) [wpe_ret, wpe_exc, wpe_bind, wps_nx, wps_ret, wps_bk, wps_ct, wps_exc, wps_bindS, wps_seq, wps_xSeq, wps_toS, wpe_nox, defQ_ret, defQ_exc, wps_if, cn_k, cn_x, cx_n, cx_q, wpe_lst, wpe_dnew, wps_xSetF, wps_xAugF, wps_xDPut, gSub_eq, wpe_xMake, wps_xFor, wps_xForE, wpe_xLc, loopQ_ct, loopQ_bk, loopQ_ret, loopQ_exc, wpe_iteBad, wps_iteBad, oIC_wp, bList_wp, bListT_wp, oSlL_wp, oCat_wp, bListD_wp, mkRg_wp, bSet_wp, xSortSet_wp, cDiv_lit, cMul_litL, cMul_litR, rngOk_lit, rngOk_m1, -bList_tup, iR3, xLRg1, xLRg2, xErrF, xIsE, xRaise, RS.unset, RS.noexc, xNext, xAsg, gNameX, gConsX, gNilX, gTupX, xVar, xC, xOp, xUn, oI_int, oNeg_int, xB, asB_bl, xRet, xRetN, xDrop, xBreak, xCont, xCons, xNil, xTup, xCB, xCall, xCallX, xAnd, xOr, xNot, xAndV, xOrV, xNotV, xIf, xYes, xTru, truD, xIsN, xNotN, nonD, xFld, xMeth, xMethX, xBM, xDGet, xDIn, xPart, xNoPart, xSl, nox_ok, toS_ok, finX, iR1, iR2, iL, iT, iE, iZ, xAug, xAssert, str_beq, insX, putFX, putX, valX, keyD_int, keyD_str, List.lookup, oInSet, xDisp, xPCons, xPNil, keysX, mergeX, rdL_app_ge, rdL_app_self, rdL_zero, rdL_succ, at_app_ge, at_app_self, at_zero, at_succ]
  refine wpe_k (trace_ok h hs.cons hl (Mi.Rd.pt 0) ⟨x0, x1⟩) ?_
  rintro _ S ⟨tr, ts, rfl, h, tz⟩
  replace h := (h.up 1).drop
  simp (decide := true) [wpe_ret, wpe_exc, wpe_bind, wps_nx, wps_ret, wps_bk, wps_ct, wps_exc, wps_bindS, wps_seq, wps_xSeq, wps_toS, wpe_nox, defQ_ret, defQ_exc, wps_if, cn_k, cn_x, cx_n, cx_q, wpe_lst, wpe_dnew, wps_xSetF, wps_xAugF, wps_xDPut, gSub_eq, wpe_xMake, wps_xFor, wps_xForE, wpe_xLc, loopQ_ct, loopQ_bk, loopQ_ret, loopQ_exc, wpe_iteBad, wps_iteBad, oIC_wp, bList_wp, bListT_wp, oSlL_wp, oCat_wp, bListD_wp, mkRg_wp, bSet_wp, xSortSet_wp, cDiv_lit, cMul_litL, cMul_litR, rngOk_lit, rngOk_m1, -bList_tup, iR3, xLRg1, xLRg2, xErrF, xIsE, xRaise, RS.unset, RS.noexc, xNext, xAsg, gNameX, gConsX, gNilX, gTupX, xVar, xC, xOp, xUn, oI_int, oNeg_int, xB, asB_bl, xRet, xRetN, xDrop, xBreak, xCont, xCons, xNil, xTup, xCB, xCall, xCallX, xAnd, xOr, xNot, xAndV, xOrV, xNotV, xIf, xYes, xTru, truD, xIsN, xNotN, nonD, xFld, xMeth, xMethX, xBM, xDGet, xDIn, xPart, xNoPart, xSl, nox_ok, toS_ok, finX, iR1, iR2, iL, iT, iE, iZ, xAug, xAssert, str_beq, insX, putFX, putX, valX, keyD_int, keyD_str, List.lookup, oInSet, xDisp, xPCons, xPNil, keysX, mergeX, rdL_app_ge, rdL_app_self, rdL_zero, rdL_succ, at_app_ge, at_app_self, at_zero, at_succ]
  refine wpe_k (num_ok (hs.cons _ h) hl (by unfold NumOk; omega)) ?_
  rintro _ S1 ⟨hS1, m, rfl, m0, m1⟩
  subst hS1
  simp (decide := true) [wpe_ret, wpe_exc, wpe_bind, wps_nx, wps_ret, wps_bk, wps_ct, wps_exc, wps_bindS, wps_seq, wps_xSeq, wps_toS, wpe_nox, defQ_ret, defQ_exc, wps_if, cn_k, cn_x, cx_n, cx_q, wpe_lst, wpe_dnew, wps_xSetF, wps_xAugF, wps_xDPut, gSub_eq, wpe_xMake, wps_xFor, wps_xForE, wpe_xLc, loopQ_ct, loopQ_bk, loopQ_ret, loopQ_exc, wpe_iteBad, wps_iteBad, oIC_wp, bList_wp, bListT_wp, oSlL_wp, oCat_wp, bListD_wp, mkRg_wp, bSet_wp, xSortSet_wp, cDiv_lit, cMul_litL, cMul_litR, rngOk_lit, rngOk_m1, -bList_tup, iR3, xLRg1, xLRg2, xErrF, xIsE, xRaise, RS.unset, RS.noexc, xNext, xAsg, gNameX, gConsX, gNilX, gTupX, xVar, xC, xOp, xUn, oI_int, oNeg_int, xB, asB_bl, xRet, xRetN, xDrop, xBreak, xCont, xCons, xNil, xTup, xCB, xCall, xCallX, xAnd, xOr, xNot, xAndV, xOrV, xNotV, xIf, xYes, xTru, truD, xIsN, xNotN, nonD, xFld, xMeth, xMethX, xBM, xDGet, xDIn, xPart, xNoPart, xSl, nox_ok, toS_ok, finX, iR1, iR2, iL, iT, iE, iZ, xAug, xAssert, str_beq, insX, putFX, putX, valX, keyD_int, keyD_str, List.lookup, oInSet, xDisp, xPCons, xPNil, keysX, mergeX, rdL_app_ge, rdL_app_self, rdL_zero, rdL_succ, at_app_ge, at_app_self, at_zero, at_succ]
  refine wpe_k (num_ok (hs.cons _ h) hl (by unfold NumOk; omega)) ?_
  rintro _ S2 ⟨hS2, t, rfl, t0, t1⟩
  subst hS2
  refine wps_k (N := fun e S' => ∃ (n tr : Nat) (ts : List Int) (o3 : Option D), (0 < n ∧ n ≤ 1000) ∧ e = [some (.ref 0), some (.ref tr), some (.int (n : Int)), o3, none, none, none, none, none, none, none] ∧ ts.length ≤ 1000 ∧ Hs (pt tr (.lst (ts.map .int)) :: As) S') (Q := fun _ => False) ?_ ?_ (fun _ z => z.elim)
  · by_cases hc : t = 0
    · simp (decide := true) [wpe_ret, wpe_exc, wpe_bind, wps_nx, wps_ret, wps_bk, wps_ct, wps_exc, wps_bindS, wps_seq, wps_xSeq, wps_toS, wpe_nox, defQ_ret, defQ_exc, wps_if, cn_k, cn_x, cx_n, cx_q, wpe_lst, wpe_dnew, wps_xSetF, wps_xAugF, wps_xDPut, gSub_eq, wpe_xMake, wps_xFor, wps_xForE, wpe_xLc, loopQ_ct, loopQ_bk, loopQ_ret, loopQ_exc, wpe_iteBad, wps_iteBad, oIC_wp, bList_wp, bListT_wp, oSlL_wp, oCat_wp, bListD_wp, mkRg_wp, bSet_wp, xSortSet_wp, cDiv_lit, cMul_litL, cMul_litR, rngOk_lit, rngOk_m1, -bList_tup, iR3, xLRg1, xLRg2, xErrF, xIsE, xRaise, RS.unset, RS.noexc, xNext, xAsg, gNameX, gConsX, gNilX, gTupX, xVar, xC, xOp, xUn, oI_int, oNeg_int, xB, asB_bl, xRet, xRetN, xDrop, xBreak, xCont, xCons, xNil, xTup, xCB, xCall, xCallX, xAnd, xOr, xNot, xAndV, xOrV, xNotV, xIf, xYes, xTru, truD, xIsN, xNotN, nonD, xFld, xMeth, xMethX, xBM, xDGet, xDIn, xPart, xNoPart, xSl, nox_ok, toS_ok, finX, iR1, iR2, iL, iT, iE, iZ, xAug, xAssert, str_beq, insX, putFX, putX, valX, keyD_int, keyD_str, List.lookup, oInSet, xDisp, xPCons, xPNil, keysX, mergeX, rdL_app_ge, rdL_app_self, rdL_zero, rdL_succ, at_app_ge, at_app_self, at_zero, at_succ, hc, f_law_c1, h.rp 0]
      refine wpe_compQ (fun i acc => ∃ xs : List Int, acc = xs.map .int ∧ xs.length = i) h ⟨[], rfl, rfl⟩ (fun Bs S h => (Mi.Rd.pt (xs := ts.map .int) 0).app S h) ?_ (by rw [List.length_map]; omega) ?_
      · rintro i x acc Bs S hx ⟨xs, rfl, hi⟩ h
        rw [List.getElem?_map] at hx
        obtain ⟨y, hy, rfl⟩ := Option.map_eq_some_iff.mp hx
        simp (decide := true) [wpe_ret, wpe_exc, wpe_bind, wps_nx, wps_ret, wps_bk, wps_ct, wps_exc, wps_bindS, wps_seq, wps_xSeq, wps_toS, wpe_nox, defQ_ret, defQ_exc, wps_if, cn_k, cn_x, cx_n, cx_q, wpe_lst, wpe_dnew, wps_xSetF, wps_xAugF, wps_xDPut, gSub_eq, wpe_xMake, wps_xFor, wps_xForE, wpe_xLc, loopQ_ct, loopQ_bk, loopQ_ret, loopQ_exc, wpe_iteBad, wps_iteBad, oIC_wp, bList_wp, bListT_wp, oSlL_wp, oCat_wp, bListD_wp, mkRg_wp, bSet_wp, xSortSet_wp, cDiv_lit, cMul_litL, cMul_litR, rngOk_lit, rngOk_m1, -bList_tup, iR3, xLRg1, xLRg2, xErrF, xIsE, xRaise, RS.unset, RS.noexc, xNext, xAsg, gNameX, gConsX, gNilX, gTupX, xVar, xC, xOp, xUn, oI_int, oNeg_int, xB, asB_bl, xRet, xRetN, xDrop, xBreak, xCont, xCons, xNil, xTup, xCB, xCall, xCallX, xAnd, xOr, xNot, xAndV, xOrV, xNotV, xIf, xYes, xTru, truD, xIsN, xNotN, nonD, xFld, xMeth, xMethX, xBM, xDGet, xDIn, xPart, xNoPart, xSl, nox_ok, toS_ok, finX, iR1, iR2, iL, iT, iE, iZ, xAug, xAssert, str_beq, insX, putFX, putX, valX, keyD_int, keyD_str, List.lookup, oInSet, xDisp, xPCons, xPNil, keysX, mergeX, rdL_app_ge, rdL_app_self, rdL_zero, rdL_succ, at_app_ge, at_app_self, at_zero, at_succ, wipeE]
        exact ⟨⟨xs ++ [y + 1], by simp, by simp [hi]⟩, h⟩
      · rintro cm S acc ⟨xs, rfl, hi⟩ _ h
        rw [List.length_map] at hi
        simp (decide := true) [wpe_ret, wpe_exc, wpe_bind, wps_nx, wps_ret, wps_bk, wps_ct, wps_exc, wps_bindS, wps_seq, wps_xSeq, wps_toS, wpe_nox, defQ_ret, defQ_exc, wps_if, cn_k, cn_x, cx_n, cx_q, wpe_lst, wpe_dnew, wps_xSetF, wps_xAugF, wps_xDPut, gSub_eq, wpe_xMake, wps_xFor, wps_xForE, wpe_xLc, loopQ_ct, loopQ_bk, loopQ_ret, loopQ_exc, wpe_iteBad, wps_iteBad, oIC_wp, bList_wp, bListT_wp, oSlL_wp, oCat_wp, bListD_wp, mkRg_wp, bSet_wp, xSortSet_wp, cDiv_lit, cMul_litL, cMul_litR, rngOk_lit, rngOk_m1, -bList_tup, iR3, xLRg1, xLRg2, xErrF, xIsE, xRaise, RS.unset, RS.noexc, xNext, xAsg, gNameX, gConsX, gNilX, gTupX, xVar, xC, xOp, xUn, oI_int, oNeg_int, xB, asB_bl, xRet, xRetN, xDrop, xBreak, xCont, xCons, xNil, xTup, xCB, xCall, xCallX, xAnd, xOr, xNot, xAndV, xOrV, xNotV, xIf, xYes, xTru, truD, xIsN, xNotN, nonD, xFld, xMeth, xMethX, xBM, xDGet, xDIn, xPart, xNoPart, xSl, nox_ok, toS_ok, finX, iR1, iR2, iL, iT, iE, iZ, xAug, xAssert, str_beq, insX, putFX, putX, valX, keyD_int, keyD_str, List.lookup, oInSet, xDisp, xPCons, xPNil, keysX, mergeX, rdL_app_ge, rdL_app_self, rdL_zero, rdL_succ, at_app_ge, at_app_self, at_zero, at_succ, h.at 0, h.at 1]
        refine ⟨by omega, ?_⟩
        refine wpe_allo h ?_
        intro ct S h
        simp (decide := true) [wpe_ret, wpe_exc, wpe_bind, wps_nx, wps_ret, wps_bk, wps_ct, wps_exc, wps_bindS, wps_seq, wps_xSeq, wps_toS, wpe_nox, defQ_ret, defQ_exc, wps_if, cn_k, cn_x, cx_n, cx_q, wpe_lst, wpe_dnew, wps_xSetF, wps_xAugF, wps_xDPut, gSub_eq, wpe_xMake, wps_xFor, wps_xForE, wpe_xLc, loopQ_ct, loopQ_bk, loopQ_ret, loopQ_exc, wpe_iteBad, wps_iteBad, oIC_wp, bList_wp, bListT_wp, oSlL_wp, oCat_wp, bListD_wp, mkRg_wp, bSet_wp, xSortSet_wp, cDiv_lit, cMul_litL, cMul_litR, rngOk_lit, rngOk_m1, -bList_tup, iR3, xLRg1, xLRg2, xErrF, xIsE, xRaise, RS.unset, RS.noexc, xNext, xAsg, gNameX, gConsX, gNilX, gTupX, xVar, xC, xOp, xUn, oI_int, oNeg_int, xB, asB_bl, xRet, xRetN, xDrop, xBreak, xCont, xCons, xNil, xTup, xCB, xCall, xCallX, xAnd, xOr, xNot, xAndV, xOrV, xNotV, xIf, xYes, xTru, truD, xIsN, xNotN, nonD, xFld, xMeth, xMethX, xBM, xDGet, xDIn, xPart, xNoPart, xSl, nox_ok, toS_ok, finX, iR1, iR2, iL, iT, iE, iZ, xAug, xAssert, str_beq, insX, putFX, putX, valX, keyD_int, keyD_str, List.lookup, oInSet, xDisp, xPCons, xPNil, keysX, mergeX, rdL_app_ge, rdL_app_self, rdL_zero, rdL_succ, at_app_ge, at_app_self, at_zero, at_succ]
        refine wpe_allo h ?_
        intro ls S h
        simp (decide := true) [wpe_ret, wpe_exc, wpe_bind, wps_nx, wps_ret, wps_bk, wps_ct, wps_exc, wps_bindS, wps_seq, wps_xSeq, wps_toS, wpe_nox, defQ_ret, defQ_exc, wps_if, cn_k, cn_x, cx_n, cx_q, wpe_lst, wpe_dnew, wps_xSetF, wps_xAugF, wps_xDPut, gSub_eq, wpe_xMake, wps_xFor, wps_xForE, wpe_xLc, loopQ_ct, loopQ_bk, loopQ_ret, loopQ_exc, wpe_iteBad, wps_iteBad, oIC_wp, bList_wp, bListT_wp, oSlL_wp, oCat_wp, bListD_wp, mkRg_wp, bSet_wp, xSortSet_wp, cDiv_lit, cMul_litL, cMul_litR, rngOk_lit, rngOk_m1, -bList_tup, iR3, xLRg1, xLRg2, xErrF, xIsE, xRaise, RS.unset, RS.noexc, xNext, xAsg, gNameX, gConsX, gNilX, gTupX, xVar, xC, xOp, xUn, oI_int, oNeg_int, xB, asB_bl, xRet, xRetN, xDrop, xBreak, xCont, xCons, xNil, xTup, xCB, xCall, xCallX, xAnd, xOr, xNot, xAndV, xOrV, xNotV, xIf, xYes, xTru, truD, xIsN, xNotN, nonD, xFld, xMeth, xMethX, xBM, xDGet, xDIn, xPart, xNoPart, xSl, nox_ok, toS_ok, finX, iR1, iR2, iL, iT, iE, iZ, xAug, xAssert, str_beq, insX, putFX, putX, valX, keyD_int, keyD_str, List.lookup, oInSet, xDisp, xPCons, xPNil, keysX, mergeX, rdL_app_ge, rdL_app_self, rdL_zero, rdL_succ, at_app_ge, at_app_self, at_zero, at_succ]
        refine wpe_k (num_ok (hs.cons.cons.cons.cons _ h) hl (by unfold NumOk; omega)) ?_
        rintro _ S3 ⟨hS3, q, rfl, q0, q1⟩
        subst hS3
        obtain ⟨v, hv, v0, v1⟩ : ∃ v : Int, atI [D.int 1, D.int 3] q = some (.int v) ∧ 0 ≤ v ∧ v ≤ 3 := by
          have : q = 0 ∨ q = 1 := by omega
          rcases this with rfl | rfl
          · exact ⟨1, rfl, by omega, by omega⟩
          · exact ⟨3, rfl, by omega, by omega⟩
        have rls := h.rp 0
        simp (decide := true) [wpe_ret, wpe_exc, wpe_bind, wps_nx, wps_ret, wps_bk, wps_ct, wps_exc, wps_bindS, wps_seq, wps_xSeq, wps_toS, wpe_nox, defQ_ret, defQ_exc, wps_if, cn_k, cn_x, cx_n, cx_q, wpe_lst, wpe_dnew, wps_xSetF, wps_xAugF, wps_xDPut, gSub_eq, wpe_xMake, wps_xFor, wps_xForE, wpe_xLc, loopQ_ct, loopQ_bk, loopQ_ret, loopQ_exc, wpe_iteBad, wps_iteBad, oIC_wp, bList_wp, bListT_wp, oSlL_wp, oCat_wp, bListD_wp, mkRg_wp, bSet_wp, xSortSet_wp, cDiv_lit, cMul_litL, cMul_litR, rngOk_lit, rngOk_m1, -bList_tup, iR3, xLRg1, xLRg2, xErrF, xIsE, xRaise, RS.unset, RS.noexc, xNext, xAsg, gNameX, gConsX, gNilX, gTupX, xVar, xC, xOp, xUn, oI_int, oNeg_int, xB, asB_bl, xRet, xRetN, xDrop, xBreak, xCont, xCons, xNil, xTup, xCB, xCall, xCallX, xAnd, xOr, xNot, xAndV, xOrV, xNotV, xIf, xYes, xTru, truD, xIsN, xNotN, nonD, xFld, xMeth, xMethX, xBM, xDGet, xDIn, xPart, xNoPart, xSl, nox_ok, toS_ok, finX, iR1, iR2, iL, iT, iE, iZ, xAug, xAssert, str_beq, insX, putFX, putX, valX, keyD_int, keyD_str, List.lookup, oInSet, xDisp, xPCons, xPNil, keysX, mergeX, rdL_app_ge, rdL_app_self, rdL_zero, rdL_succ, at_app_ge, at_app_self, at_zero, at_succ, oIxL, rls, hv]
        have al := h.at 1
        rw [← List.map_append] at al
        have v3 : v.toNat ≤ 3 := by omega
        have sz : (ts ++ xs).length * v.toNat ≤ 100 * 3 := Nat.mul_le_mul (by rw [List.length_append]; omega) v3
        refine wpe_rep h al ⟨v0, by omega⟩ (by rw [List.length_map]; omega) ?_
        intro tr2 S h
        rw [rep_ints] at h
        refine ⟨(1 + m + 6).toNat, tr2, _, none, by omega, ?_, ?_, ((((((((h.up 1).drop).up 1).drop).up 1).drop).up 1).drop)⟩
        · rw [show (((1 + m + 6).toNat : Nat) : Int) = 1 + m + 6 by omega]
        · rw [rep_len, Nat.mul_comm]
          omega
    · simp (decide := true) [wpe_ret, wpe_exc, wpe_bind, wps_nx, wps_ret, wps_bk, wps_ct, wps_exc, wps_bindS, wps_seq, wps_xSeq, wps_toS, wpe_nox, defQ_ret, defQ_exc, wps_if, cn_k, cn_x, cx_n, cx_q, wpe_lst, wpe_dnew, wps_xSetF, wps_xAugF, wps_xDPut, gSub_eq, wpe_xMake, wps_xFor, wps_xForE, wpe_xLc, loopQ_ct, loopQ_bk, loopQ_ret, loopQ_exc, wpe_iteBad, wps_iteBad, oIC_wp, bList_wp, bListT_wp, oSlL_wp, oCat_wp, bListD_wp, mkRg_wp, bSet_wp, xSortSet_wp, cDiv_lit, cMul_litL, cMul_litR, rngOk_lit, rngOk_m1, -bList_tup, iR3, xLRg1, xLRg2, xErrF, xIsE, xRaise, RS.unset, RS.noexc, xNext, xAsg, gNameX, gConsX, gNilX, gTupX, xVar, xC, xOp, xUn, oI_int, oNeg_int, xB, asB_bl, xRet, xRetN, xDrop, xBreak, xCont, xCons, xNil, xTup, xCB, xCall, xCallX, xAnd, xOr, xNot, xAndV, xOrV, xNotV, xIf, xYes, xTru, truD, xIsN, xNotN, nonD, xFld, xMeth, xMethX, xBM, xDGet, xDIn, xPart, xNoPart, xSl, nox_ok, toS_ok, finX, iR1, iR2, iL, iT, iE, iZ, xAug, xAssert, str_beq, insX, putFX, putX, valX, keyD_int, keyD_str, List.lookup, oInSet, xDisp, xPCons, xPNil, keysX, mergeX, rdL_app_ge, rdL_app_self, rdL_zero, rdL_succ, at_app_ge, at_app_self, at_zero, at_succ, hc]
      exact ⟨(1 + m).toNat, by omega, tr, by omega, ts, by omega, h⟩
  rintro _ S ⟨n, tr, ts, o3, hn, rfl, tz, h⟩
  simp (decide := true) [wpe_ret, wpe_exc, wpe_bind, wps_nx, wps_ret, wps_bk, wps_ct, wps_exc, wps_bindS, wps_seq, wps_xSeq, wps_toS, wpe_nox, defQ_ret, defQ_exc, wps_if, cn_k, cn_x, cx_n, cx_q, wpe_lst, wpe_dnew, wps_xSetF, wps_xAugF, wps_xDPut, gSub_eq, wpe_xMake, wps_xFor, wps_xForE, wpe_xLc, loopQ_ct, loopQ_bk, loopQ_ret, loopQ_exc, wpe_iteBad, wps_iteBad, oIC_wp, bList_wp, bListT_wp, oSlL_wp, oCat_wp, bListD_wp, mkRg_wp, bSet_wp, xSortSet_wp, cDiv_lit, cMul_litL, cMul_litR, rngOk_lit, rngOk_m1, -bList_tup, iR3, xLRg1, xLRg2, xErrF, xIsE, xRaise, RS.unset, RS.noexc, xNext, xAsg, gNameX, gConsX, gNilX, gTupX, xVar, xC, xOp, xUn, oI_int, oNeg_int, xB, asB_bl, xRet, xRetN, xDrop, xBreak, xCont, xCons, xNil, xTup, xCB, xCall, xCallX, xAnd, xOr, xNot, xAndV, xOrV, xNotV, xIf, xYes, xTru, truD, xIsN, xNotN, nonD, xFld, xMeth, xMethX, xBM, xDGet, xDIn, xPart, xNoPart, xSl, nox_ok, toS_ok, finX, iR1, iR2, iL, iT, iE, iZ, xAug, xAssert, str_beq, insX, putFX, putX, valX, keyD_int, keyD_str, List.lookup, oInSet, xDisp, xPCons, xPNil, keysX, mergeX, rdL_app_ge, rdL_app_self, rdL_zero, rdL_succ, at_app_ge, at_app_self, at_zero, at_succ]
  refine wpe_allo h ?_
  intro ks S h
  simp (decide := true) [wpe_ret, wpe_exc, wpe_bind, wps_nx, wps_ret, wps_bk, wps_ct, wps_exc, wps_bindS, wps_seq, wps_xSeq, wps_toS, wpe_nox, defQ_ret, defQ_exc, wps_if, cn_k, cn_x, cx_n, cx_q, wpe_lst, wpe_dnew, wps_xSetF, wps_xAugF, wps_xDPut, gSub_eq, wpe_xMake, wps_xFor, wps_xForE, wpe_xLc, loopQ_ct, loopQ_bk, loopQ_ret, loopQ_exc, wpe_iteBad, wps_iteBad, oIC_wp, bList_wp, bListT_wp, oSlL_wp, oCat_wp, bListD_wp, mkRg_wp, bSet_wp, xSortSet_wp, cDiv_lit, cMul_litL, cMul_litR, rngOk_lit, rngOk_m1, -bList_tup, iR3, xLRg1, xLRg2, xErrF, xIsE, xRaise, RS.unset, RS.noexc, xNext, xAsg, gNameX, gConsX, gNilX, gTupX, xVar, xC, xOp, xUn, oI_int, oNeg_int, xB, asB_bl, xRet, xRetN, xDrop, xBreak, xCont, xCons, xNil, xTup, xCB, xCall, xCallX, xAnd, xOr, xNot, xAndV, xOrV, xNotV, xIf, xYes, xTru, truD, xIsN, xNotN, nonD, xFld, xMeth, xMethX, xBM, xDGet, xDIn, xPart, xNoPart, xSl, nox_ok, toS_ok, finX, iR1, iR2, iL, iT, iE, iZ, xAug, xAssert, str_beq, insX, putFX, putX, valX, keyD_int, keyD_str, List.lookup, oInSet, xDisp, xPCons, xPNil, keysX, mergeX, rdL_app_ge, rdL_app_self, rdL_zero, rdL_succ, at_app_ge, at_app_self, at_zero, at_succ]
  refine wpe_k (num_ok (hs.cons.cons _ h) hl (by unfold NumOk; omega)) ?_
  rintro _ S3 ⟨hS3, q, rfl, q0, q1⟩
  subst hS3
  obtain ⟨ag, hag⟩ := kinds4_at q0 q1
  have rk := h.rp 0
  simp (decide := true) [wpe_ret, wpe_exc, wpe_bind, wps_nx, wps_ret, wps_bk, wps_ct, wps_exc, wps_bindS, wps_seq, wps_xSeq, wps_toS, wpe_nox, defQ_ret, defQ_exc, wps_if, cn_k, cn_x, cx_n, cx_q, wpe_lst, wpe_dnew, wps_xSetF, wps_xAugF, wps_xDPut, gSub_eq, wpe_xMake, wps_xFor, wps_xForE, wpe_xLc, loopQ_ct, loopQ_bk, loopQ_ret, loopQ_exc, wpe_iteBad, wps_iteBad, oIC_wp, bList_wp, bListT_wp, oSlL_wp, oCat_wp, bListD_wp, mkRg_wp, bSet_wp, xSortSet_wp, cDiv_lit, cMul_litL, cMul_litR, rngOk_lit, rngOk_m1, -bList_tup, iR3, xLRg1, xLRg2, xErrF, xIsE, xRaise, RS.unset, RS.noexc, xNext, xAsg, gNameX, gConsX, gNilX, gTupX, xVar, xC, xOp, xUn, oI_int, oNeg_int, xB, asB_bl, xRet, xRetN, xDrop, xBreak, xCont, xCons, xNil, xTup, xCB, xCall, xCallX, xAnd, xOr, xNot, xAndV, xOrV, xNotV, xIf, xYes, xTru, truD, xIsN, xNotN, nonD, xFld, xMeth, xMethX, xBM, xDGet, xDIn, xPart, xNoPart, xSl, nox_ok, toS_ok, finX, iR1, iR2, iL, iT, iE, iZ, xAug, xAssert, str_beq, insX, putFX, putX, valX, keyD_int, keyD_str, List.lookup, oInSet, xDisp, xPCons, xPNil, keysX, mergeX, rdL_app_ge, rdL_app_self, rdL_zero, rdL_succ, at_app_ge, at_app_self, at_zero, at_succ, oIxL, rk, hag, f_law_l2]
  refine wps_loop (fun i env S => ∃ o6 o7 o8 o9 o10, env = [some (.ref 0), some (.ref tr), some (.int n), o3, some (.ref ks), some (.str ag), o6, o7, o8, o9, o10] ∧ Hs (pt tr (.lst (ts.map .int)) :: (pt ks (.lst [.str "lru", .str "fifo", .str "newest", .str "clock"]) :: As)) S) ⟨_, _, _, _, _, rfl, h.up 1⟩ (fun i e S ⟨_, _, _, _, _, _, h⟩ => h.rp 1) ?_ ?_
  · rintro i x env S hx ⟨o6, o7, o8, o9, o10, rfl, h⟩
    obtain ⟨k, rfl, hk⟩ := kinds4_get hx
    simp (decide := true) [wpe_ret, wpe_exc, wpe_bind, wps_nx, wps_ret, wps_bk, wps_ct, wps_exc, wps_bindS, wps_seq, wps_xSeq, wps_toS, wpe_nox, defQ_ret, defQ_exc, wps_if, cn_k, cn_x, cx_n, cx_q, wpe_lst, wpe_dnew, wps_xSetF, wps_xAugF, wps_xDPut, gSub_eq, wpe_xMake, wps_xFor, wps_xForE, wpe_xLc, loopQ_ct, loopQ_bk, loopQ_ret, loopQ_exc, wpe_iteBad, wps_iteBad, oIC_wp, bList_wp, bListT_wp, oSlL_wp, oCat_wp, bListD_wp, mkRg_wp, bSet_wp, xSortSet_wp, cDiv_lit, cMul_litL, cMul_litR, rngOk_lit, rngOk_m1, -bList_tup, iR3, xLRg1, xLRg2, xErrF, xIsE, xRaise, RS.unset, RS.noexc, xNext, xAsg, gNameX, gConsX, gNilX, gTupX, xVar, xC, xOp, xUn, oI_int, oNeg_int, xB, asB_bl, xRet, xRetN, xDrop, xBreak, xCont, xCons, xNil, xTup, xCB, xCall, xCallX, xAnd, xOr, xNot, xAndV, xOrV, xNotV, xIf, xYes, xTru, truD, xIsN, xNotN, nonD, xFld, xMeth, xMethX, xBM, xDGet, xDIn, xPart, xNoPart, xSl, nox_ok, toS_ok, finX, iR1, iR2, iL, iT, iE, iZ, xAug, xAssert, str_beq, insX, putFX, putX, valX, keyD_int, keyD_str, List.lookup, oInSet, xDisp, xPCons, xPNil, keysX, mergeX, rdL_app_ge, rdL_app_self, rdL_zero, rdL_succ, at_app_ge, at_app_self, at_zero, at_succ]
    refine wps_k (kind_turn h (Tb.right (As := [_]) ht) tz hk hn) ?_ (fun _ z => z.elim)
    rintro _ S ⟨o7, o8, o9, o10, rfl, h⟩
    exact ⟨_, _, _, _, _, rfl, h⟩
  · rintro _ S ⟨o6, o7, o8, o9, o10, rfl, h⟩
    simp (decide := true) [wpe_ret, wpe_exc, wpe_bind, wps_nx, wps_ret, wps_bk, wps_ct, wps_exc, wps_bindS, wps_seq, wps_xSeq, wps_toS, wpe_nox, defQ_ret, defQ_exc, wps_if, cn_k, cn_x, cx_n, cx_q, wpe_lst, wpe_dnew, wps_xSetF, wps_xAugF, wps_xDPut, gSub_eq, wpe_xMake, wps_xFor, wps_xForE, wpe_xLc, loopQ_ct, loopQ_bk, loopQ_ret, loopQ_exc, wpe_iteBad, wps_iteBad, oIC_wp, bList_wp, bListT_wp, oSlL_wp, oCat_wp, bListD_wp, mkRg_wp, bSet_wp, xSortSet_wp, cDiv_lit, cMul_litL, cMul_litR, rngOk_lit, rngOk_m1, -bList_tup, iR3, xLRg1, xLRg2, xErrF, xIsE, xRaise, RS.unset, RS.noexc, xNext, xAsg, gNameX, gConsX, gNilX, gTupX, xVar, xC, xOp, xUn, oI_int, oNeg_int, xB, asB_bl, xRet, xRetN, xDrop, xBreak, xCont, xCons, xNil, xTup, xCB, xCall, xCallX, xAnd, xOr, xNot, xAndV, xOrV, xNotV, xIf, xYes, xTru, truD, xIsN, xNotN, nonD, xFld, xMeth, xMethX, xBM, xDGet, xDIn, xPart, xNoPart, xSl, nox_ok, toS_ok, finX, iR1, iR2, iL, iT, iE, iZ, xAug, xAssert, str_beq, insX, putFX, putX, valX, keyD_int, keyD_str, List.lookup, oInSet, xDisp, xPCons, xPNil, keysX, mergeX, rdL_app_ge, rdL_app_self, rdL_zero, rdL_succ, at_app_ge, at_app_self, at_zero, at_succ]
end

theorem fn_lawS {P : Program} {w : World} {K : PySem.W.Frag} {mg : Str → Option Value} {base : Heap} (T : TX K mg base) : ∃ fd, FunD K "law" "law" (defArgs s_law) (defBody s_law) (defScope s_law) [] [] (He.ga K "law") fd ∧ FnOk P w K mg base CX0 (8) (He.ga K "law") fd ["_law_script"] (Mi.spLawT K tabs0) := by
  obtain ⟨fd, F, h⟩ := fn_law (P := P) (w := w) (base := base) T
  exact ⟨fd, F, h.imp (Mi.law_inT law_sp)⟩
/-! ### the head -/
def loose : List PySem.Str := (["zeros", "Chooser", "page_ins", "_law_number", "_law_is_whole", "_law_same", "_law_chooser_new", "_law_chooser_tell", "_law_chooser_pick", "_law_names", "_law_trace", "_law_page_ins"] : List PySem.Str)
abbrev R : PySem.W.OpenRow := PySem.W.OpenLaw.row PySem.Challenge.rw_lentpages_k23_page_ins
abbrev hk : PySem.W.Hook := Mi.hookT 5 fas fns fxs tabs0
def ob (s : PySem.W.SharedT) : (Bool × He.AlD) × Bool := Mi.lookT 5 fas fns fxs tabs0 (HandSHeadRun.getT s)
theorem ob_eq (s : PySem.W.SharedT) : ob s = hk.obs s.abs := Mi.lookT_eq (HandSHeadRun.getT_eq s)
theorem run (w : World) : HandSHeadRun.RunEq R (PySem.W.view R.prog [16]) hk ob 100000 loose w := by
  intro os
  kernel_rfl
end Law
open PySem PySem.W PySem.Calls PyProof.Rows
theorem PySem.Challenge.cw_lentpages_k23_page_ins_holds : PySem.Challenge.rw_lentpages_k23_page_ins.Holds := by
  w_on; o_law
  refine HandSHeadRun.head_any (r := OpenLaw.row PySem.Challenge.rw_lentpages_k23_page_ins) (q := view (OpenLaw.row PySem.Challenge.rw_lentpages_k23_page_ins).prog [16]) (H := Law.hk) (ob := Law.ob) (M := 100000) (loose := Law.loose) (d := HandSHeadRun.topDef (OpenLaw.row PySem.Challenge.rw_lentpages_k23_page_ins).prog 16) (kwd := []) Law.ob_eq
    (by kernel_rfl) (fun s => by kernel_rfl) Law.run (by kernel_rfl) (by kernel_rfl) (by kernel_rfl) (by rfl) (by first | assumption | decide +kernel) (by decide +kernel) ⟨rfl, rfl, rfl, rfl, rfl, by decide +kernel⟩ ?hw ?hc
  case hw => w_witness2
  case hc =>
    refine Mi.walk_ofET (l := PySem.Challenge.rw_lentpages_k23_page_ins) (n := 63) (k := 8) (x := "_law_script") (CX := L2.CX0) rfl (by decide) (by kernel_rfl) ⟨rfl, by decide, by decide⟩ ?F (fun _ _ _ _ z => z)
    intro w mg fa h Y G hmg0
    obtain ⟨K, KX, c⟩ := Y
    have hmg : mg ("law" : PySem.Str) = some (.ref fa) := by
      have e : (HandSHeadRun.topDef (OpenLaw.row PySem.Challenge.rw_lentpages_k23_page_ins).prog 16).name = ("law" : PySem.Str) := by kernel_rfl
      rw [← e]
      exact hmg0
    have Te : My.TxE Law.fas Law.fns Law.fxs K mg := My.TxE.of KX G c.e
    have e := hmg.symm.trans (Law.glE_law Te)
    cases e
    obtain ⟨fd, F⟩ := Law.fdE_law Te
    have mm : ∀ r ∈ Law.tabs0, He.cT K r.1 ∈ Law.tabs0.map fun p => He.cT K p.1 := fun r hr => List.mem_map.mpr ⟨r, hr, rfl⟩
    refine ⟨K, KX, fd, Law.tabs0.map (fun p => He.cT K p.1), Mi.spLawT K Law.tabs0, fun p hp => ?_, fun p hp => ?_, fun p hp => ?_, fun s v => L2.FunD.bindsA (ps := ["_law_script"]) F (fun _ _ _ _ _ _ us hl => match us, hl with | [_], _ => rfl) s [v] rfl,
      fun H a ns hl _ hT hS => ⟨a, ns, rfl, hS, hl, fun q hq => ?_, Mi.ndB_ok c.nd, fun _ => rfl⟩, fun base _ _ hTB => ?_⟩
    · obtain ⟨r, hr, rfl⟩ := List.mem_map.mp hp
      exact c.empty r hr
    · obtain ⟨r, hr, rfl⟩ := List.mem_map.mp hp
      exact c.out r hr
    · obtain ⟨r, hr, rfl⟩ := List.mem_map.mp hp
      exact PySem.W.codeHd_of_K KX (c.hd r hr)
    · obtain ⟨r, hr, rfl⟩ := List.mem_map.mp hq
      exact LamX.TabS.nil (hT _ (mm r hr))
    · have T : Law.TX K mg base := Mi.TxT.of KX G c (fun r hr => hTB _ (mm r hr))
      obtain ⟨fd2, F2, h2⟩ := Law.fn_lawS (P := (PySem.Challenge.rw_lentpages_k23_page_ins).prog) (w := w) (base := base) T
      have ef := My.FunD.same F F2
      subst ef
      exact h2
#print axioms PySem.Challenge.cw_lentpages_k23_page_ins_holds
