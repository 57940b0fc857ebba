import PyProof.Rows.All
import Wide.All
import OpenK.AllK
import Wide.FinOn
import PyProof.EqAt
import PyProof.EqKinds
import PyProof.TupleCall
import KE.KStateDown
import Lean
import HandS.ForMost
import HandS.Evl
import HandS.Steps
import HandS.Wide
import HandS.IsInst
import HandS.Defaults
import HandS.Flow
import HandS.HeadEnd
import HandS.HeadHook1
import HandS.HeadHook2
import HandS.Head0
import HandS.Head1
import HandS.Head2
import HandS.Exc
import HandS.ExcOwn
import HandS.ExcInit
import HandS.ExcField
import HandS.ExcIs
import HandS.FStr
import HandS.TryMany
import HandS.TryOnly
import HandS.HeadHook3
import HandS.HeadHook4
import KE.KExcIs
import OpenK.KCls
import HandS.Rev
import HandS.Zip
import HandS.DictComp
import HandS.StrMore
import HandS.More
import HandS.Conv
import PyProof.StrOps2
import PyProof.FitsStr
import HandS.SetFor
import HandS.Iter
import PySem.Challenge.RW_lentpages_k24_phases
set_option Elab.async false
set_option linter.all false
set_option maxRecDepth 100000
set_option maxHeartbeats 4000000
namespace My
open PySem PySem.Spec PyProof.Rows L2 Evl
/-! ### a def by its name -/
structure DefOk (P : Program) (w : World) (K : PySem.W.Frag) (mg : Str → Option Value) (base : Heap) (k : Nat) (x : Str) (ps : List Str) (dvs : List V) (sp : Sp) : Prop where
  ex : ∃ (f : Addr) (fd : FuncData) (ds : List Value), mg x = some (.ref f) ∧ PySem.W.keepIn K (.ref f) = true ∧ Binds K fd ps ds ∧ Vals dvs ds ∧ FnOk P w K mg base CX0 k f fd ps sp
section
variable {X : Cx} {k j : Nat} {x : Str} {ps : List Str} {dvs : List V} {sp : Sp} {p pos : Pos} {e : Expr} {es : List Expr} {t : TA}
theorem pe_callN (D : DefOk X.prog X.w X.K X.mg X.base k x ps dvs sp) (hr : Room j X.A)
    (ha : PA X (e :: es) t) (hk : k ≤ j := by decide) (hg : Gl X x := by rfl) (hdb : (x == ("__debug__" : Str)) = false := by decide) (he : starEach (e :: es) X.env = (false, eval e X.env) :: starEach es X.env := by rfl) (hpl : (backTo pos (starEach es X.env)).any (·.1) = false := by rfl) :
    PE X (.Call (.Name x p) (e :: es) [] pos) (tCall sp dvs E0 t) := by
  obtain ⟨f, fd, ds, h1, h2, h3, h4, h5⟩ := D.ex
  exact pe_call h5 (hr.mono hk) hg h1 h2 h3 h4 pass0 ha hdb he hpl
theorem pe_callN0 (D : DefOk X.prog X.w X.K X.mg X.base k x ps dvs sp) (hr : Room j X.A)
    (hk : k ≤ j := by decide) (hg : Gl X x := by rfl) (hdb : (x == ("__debug__" : Str)) = false := by decide) :
    PE X (.Call (.Name x p) [] [] pos) (tCall sp dvs E0 tNil) := by
  obtain ⟨f, fd, ds, h1, h2, h3, h4, h5⟩ := D.ex
  exact pe_call0 h5 (hr.mono hk) hg h1 h2 h3 h4 pass0 hdb
end
theorem DefOk.of {P : Program} {w : World} {K : PySem.W.Frag} {mg : Str → Option Value} {base : Heap} {k : Nat} {x : Str} {ps : List Str} {sp : Sp} {st : Stmt} {fd : FuncData} {f : Addr} (F : FunD K x x (defArgs st) (defBody st) (defScope st) [] [] f fd)
    (g : mg x = some (.ref f)) (b : Binds K fd ps []) (h : FnOk P w K mg base CX0 k f fd ps sp) : DefOk P w K mg base k x ps [] sp := ⟨f, fd, [], g, F.kp, b, .nil, h⟩
theorem FunD.ok0 {P : Program} {w : World} {K : PySem.W.Frag} {mg : Str → Option Value} {base : Heap} {x qual : Str} {params : Arguments} {body : List Stmt} {scope : Scope} {dvs : List V} {kws : List (Str × V)} {f : Addr} {fd : FuncData}
    {N ps : List Str} {k : Nat} {sp : Sp} (F : FunD K x qual params body scope dvs kws f fd) (S : FnScope N ps scope) (len : ∀ vs H Q E, sp vs H Q E → vs.length = ps.length)
    (hbody : ∀ (cdv : Value) (A : Around) (outer : List Env) (s : Shared) (H : Hp) (vs : List V) (Q : VK) (E : XK), Room k (A.deeper (envOfC qual scope s.heap.objs.size f cdv)) → sp vs H Q E →
      ∃ t, PSs (cxOf CX0 P w K mg base N qual scope f cdv A outer s H E).nox body t ∧ t { nx := fun _ H' => Q .non H', rt := Q } (start N vs) H) : FnOk P w K mg base CX0 (k + 1) f fd ps sp :=
  F.ok S len fun cdv A outer s H vs Q E hr h => by
    obtain ⟨t, h1, h2⟩ := hbody cdv A outer s H vs Q E hr h
    exact ⟨t, h1.nox, h2⟩
/-! ### the facts of a top by names -/
structure Tx (fa : List He.Fa) (fn : List He.DefD) (K : PySem.W.Frag) (mg : Str → Option Value) : Prop where
  says : He.SaysD fa fn K
  glo : ∀ x, (He.Fa.glo x).ok K = true → mg x = some (.ref (He.ga K x))
  fre : ∀ x, (He.Fa.free x).ok K = true → mg x = none
theorem Tx.mk' {fa : List He.Fa} {fn : List He.DefD} {K : PySem.W.Frag} {h : Heap} {mg : Str → Option Value} (X : K.In h) (G : h.Ns mainGlobals mg) (c : He.SaysD fa fn K) : Tx fa fn K mg :=
  ⟨c, fun _ h => He.glo_ok X G h, fun _ h => He.free_ok X G h⟩
/-! ### rules with their fragment named (within a block X.K is not seen as K) -/
def rLenQ (K : PySem.W.Frag) : List V → Hp → VK → Prop := fun xs H Q => ∃ p ys, xs = [.ref p] ∧ (SqL K H p ys ∨ SqT K H p ys) ∧ Q (.int ys.length) H
def rListQ (K : PySem.W.Frag) : List V → Hp → VK → Prop := fun xs H Q => ∃ p ys, xs = [.ref p] ∧ (SqL K H p ys ∨ SqT K H p ys) ∧ ∀ l, H l = none → Q (.ref l) (upd H l (.lst ys))
def rTupQ (K : PySem.W.Frag) : List V → Hp → VK → Prop := fun xs H Q => ∃ p ys, xs = [.ref p] ∧ ((SqL K H p ys ∧ ∀ l, H l = none → Q (.ref l) (upd H l (.tup ys))) ∨ (SqT K H p ys ∧ Q (.ref p) H))
section
variable {X : Cx} {K : PySem.W.Frag}
theorem ixL (K : PySem.W.Frag) (h : X.K = K := by rfl) : IxR X (rIxL K) := h ▸ ix_list
theorem ixT (K : PySem.W.Frag) (h : X.K = K := by rfl) : IxR X (rIxT K) := h ▸ ix_tup
theorem ixQ (K : PySem.W.Frag) (h : X.K = K := by rfl) : IxR X (rIx K) := h ▸ ix_seq
theorem inQ (K : PySem.W.Frag) (h : X.K = K := by rfl) : OpR X (compareOp .In) (rIn K false) := h ▸ op_in_seq
theorem niQ (K : PySem.W.Frag) (h : X.K = K := by rfl) : OpR X (compareOp .NotIn) (rIn K true) := h ▸ op_notIn_seq
theorem eqD (K : PySem.W.Frag) (hu : X.A.units + 64 < cLine) (h : X.K = K := by rfl) : OpR X (compareOp .Eq) (rEqD K) := h ▸ op_eqD hu
theorem neD (K : PySem.W.Frag) (hu : X.A.units + 64 < cLine) (h : X.K = K := by rfl) : OpR X (compareOp .NotEq) (rNeD K) := h ▸ op_neD hu
theorem catT (K : PySem.W.Frag) (h : X.K = K := by rfl) : OpR X (binaryOp .Add) (rCatT K) := h ▸ op_catT
theorem lenQ (K : PySem.W.Frag) (h : X.K = K := by rfl) : CallR X (.builtin "len") (rLenQ K) := h ▸ call_len_seq
theorem listQ (K : PySem.W.Frag) (h : X.K = K := by rfl) : CallR X (.type "list") (rListQ K) := h ▸ call_list_of
theorem tupQ (K : PySem.W.Frag) (h : X.K = K := by rfl) : CallR X (.type "tuple") (rTupQ K) := h ▸ call_tuple_of
theorem isiK (K : PySem.W.Frag) (h : X.K = K := by rfl) : CallR X (.builtin "isinstance") (rIsi K) := h ▸ call_isi
theorem isiTK (K : PySem.W.Frag) (h : X.K = K := by rfl) : CallR X (.builtin "isinstance") (rIsiT K) := h ▸ call_isiT
theorem sumK (K : PySem.W.Frag) (hc : X.calm = true) (h : X.K = K := by rfl) : CallR X (.builtin "sum") (rSum K) := h ▸ cr_sum hc
theorem maxK (K : PySem.W.Frag) (hc : X.calm = true) (h : X.K = K := by rfl) : CallR X (.builtin "max") (rMax K) := h ▸ cr_max hc
theorem minK (K : PySem.W.Frag) (hc : X.calm = true) (h : X.K = K := by rfl) : CallR X (.builtin "min") (rMin K) := h ▸ cr_min hc
theorem slL (K : PySem.W.Frag) (h : X.K = K := by rfl) : SlR X (rSlL K) := h ▸ sl_list
theorem slT (K : PySem.W.Frag) (h : X.K = K := by rfl) : SlR X (rSlT K) := h ▸ sl_tup
theorem pe_fldK (K : PySem.W.Frag) {e : Expr} {ta : TE} {f : Str} {pos : Pos} (he : PE X e ta) (hb : attributeBase e f X.env (eval e X.env) = eval e X.env) (h : X.K = K := by rfl) : PE X (.Attribute e f pos) (tFld K ta f) := h ▸ pe_fld he hb
theorem pt_truthK (K : PySem.W.Frag) {a : Expr} {ta : TE} (ha : PE X a ta) (he : ∀ whole, isTrue a X.env whole = (do let v ← whole; standAt a.pos; holding [v] (truthy v))) (h : X.K = K := by rfl) : PT X a (tTru K ta) := h ▸ pt_truth ha he
theorem pg_tupK (K : PySem.W.Frag) {es : List Expr} {k : Nat} {t : TGs} {n : Nat} {pos : Pos} (hc : X.calm = true) (hl : PGs X es t) (hn : (assignEach es X.env).length = n := by rfl) (hst : (assignEach es X.env).findIdx? (·.1) = none := by rfl) (h : X.K = K := by rfl) : PG X (.Tuple es k pos) (gTup K n t) := by
  subst h
  exact pg_tup hc hl hn hst
end
/-! ### further values -/
section
variable {K : PySem.W.Frag} {σ : L2.St} {H H' : Hp} {ta tb te tx : TE} {t u : TT} {x y z v : V} {r : R2}
theorem rv_pow {i j : Int} (h : CPow i j) : RV (rI CPow fun i j => .int (i ^ j.toNat)) (.int i) (.int j) H (.int (i ^ j.toNat)) := rv_I h
theorem rv_str {i j : Str} (h : i.length + j.length ≤ sizeLine) : RV (fun x y H Q => ∃ i j, x = .str i ∧ y = .str j ∧ i.length + j.length ≤ sizeLine ∧ Q (.str (i ++ j)) H) (.str i) (.str j) H (.str (i ++ j)) := fun H1 _ _ q => ⟨i, j, rfl, rfl, h, q H1 (Ex.refl H1)⟩
theorem rc_abs {i : Int} : RC (fun xs H Q => ∃ i, xs = [.int i] ∧ Q (.int (if i < 0 then -i else i)) H) [.int i] H (.int (if i < 0 then -i else i)) := fun H1 _ _ q => ⟨i, rfl, q H1 (Ex.refl H1)⟩
theorem rc_int {i : Int} : RC (fun xs H Q => (∃ i, xs = [.int i] ∧ Q (.int i) H) ∨ ∃ k, xs = [.bl k] ∧ Q (.int (if k then 1 else 0)) H) [.int i] H (.int i) := fun H1 _ _ q => .inl ⟨i, rfl, q H1 (Ex.refl H1)⟩
theorem rc_intb {k : Bool} : RC (fun xs H Q => (∃ i, xs = [.int i] ∧ Q (.int i) H) ∨ ∃ k, xs = [.bl k] ∧ Q (.int (if k then 1 else 0)) H) [.bl k] H (.int (if k then 1 else 0)) := fun H1 _ _ q => .inr ⟨k, rfl, q H1 (Ex.refl H1)⟩
theorem rc_max2 {i j : Int} : RC (fun xs H Q => ∃ i j, xs = [.int i, .int j] ∧ Q (.int (if j > i then j else i)) H) [.int i, .int j] H (.int (if j > i then j else i)) := fun H1 _ _ q => ⟨i, j, rfl, q H1 (Ex.refl H1)⟩
theorem rc_min2 {i j : Int} : RC (fun xs H Q => ∃ i j, xs = [.int i, .int j] ∧ Q (.int (if j < i then j else i)) H) [.int i, .int j] H (.int (if j < i then j else i)) := fun H1 _ _ q => ⟨i, j, rfl, q H1 (Ex.refl H1)⟩
theorem rc_lenL {p : Addr} {ys : List V} (h : SqL K H p ys) : RC (rLenQ K) [.ref p] H (.int ys.length) := fun H1 e _ q => ⟨p, ys, rfl, .inl (ex_l e h), q H1 (Ex.refl H1)⟩
theorem rc_lenT {p : Addr} {ys : List V} (h : SqT K H p ys) : RC (rLenQ K) [.ref p] H (.int ys.length) := fun H1 e _ q => ⟨p, ys, rfl, .inr (ex_t e h), q H1 (Ex.refl H1)⟩
theorem rc_isi {x c : V} {t u : Value} {b : Bool} (hc : ClsV c u) (ht : ∀ H1, Ex H H1 → TyX K H1 x t) (hk : PySem.W.kitOne K t u = some b) : RC (rIsi K) [x, c] H (.bl b) := fun H1 e _ q => ⟨x, c, t, u, b, rfl, hc, ht H1 e, hk, q H1 (Ex.refl H1)⟩
end
end My

namespace My
open PySem PySem.Spec PyProof.Rows L2 Evl
/-! ### data -/
section
variable {K : PySem.W.Frag} {H H' : Hp}
mutual
theorem dp_ex (e : Ex H H') : ∀ {v : V} {d : PyData}, Dp K H v d → Dp K H' v d
  | _, _, .non => .non
  | _, _, .bl b => .bl b
  | _, _, .int i => .int i
  | _, _, .str x => .str x
  | _, _, .lst h t => .lst (ex_l e h) (dpa_ex e t)
  | _, _, .tup h t => .tup (ex_t e h) (dpa_ex e t)
theorem dpa_ex (e : Ex H H') : ∀ {vs : List V} {ds : List PyData}, DpAll K H vs ds → DpAll K H' vs ds
  | _, _, .nil => .nil
  | _, _, .cons h t => .cons (dp_ex e h) (dpa_ex e t)
end
theorem dpa_len : ∀ {vs : List V} {ds : List PyData}, DpAll K H vs ds → vs.length = ds.length
  | _, _, .nil => rfl
  | _, _, .cons _ t => congrArg Nat.succ (dpa_len t)
theorem dpa_at : ∀ {vs : List V} {ds : List PyData} {i : Nat}, DpAll K H vs ds → (h : i < ds.length) → ∃ v, vs[i]? = some v ∧ Dp K H v ds[i]
  | _, _, 0, .cons h _, _ => ⟨_, rfl, h⟩
  | _, _, i + 1, .cons _ t, l => by
    obtain ⟨v, e, q⟩ := dpa_at (i := i) t (Nat.lt_of_succ_lt_succ l)
    exact ⟨v, e, q⟩
theorem dpa_app : ∀ {vs ws : List V} {ds es : List PyData}, DpAll K H vs ds → DpAll K H ws es → DpAll K H (vs ++ ws) (ds ++ es)
  | _, _, _, _, .nil, h => h
  | _, _, _, _, .cons a t, h => .cons a (dpa_app t h)
theorem dpa_ints : ∀ ns : List Int, DpAll K H (ns.map V.int) (ns.map PyData.int)
  | [] => .nil
  | n :: r => .cons (.int n) (dpa_ints r)
/-- nested at most so deep, no dict, no list over 40,000 items -/
def Dn : Nat → PyData → Prop
  | _, .none => True
  | _, .bool _ => True
  | _, .int _ => True
  | _, .str _ => True
  | n + 1, .list ds => ds.length ≤ 40000 ∧ ∀ d ∈ ds, Dn n d
  | n + 1, .tuple ds => ds.length ≤ 40000 ∧ ∀ d ∈ ds, Dn n d
  | _, _ => False
theorem Dn.up : ∀ {n : Nat} {d : PyData}, Dn n d → Dn (n + 1) d
  | _, .none, _ => by simp [Dn]
  | _, .bool _, _ => by simp [Dn]
  | _, .int _, _ => by simp [Dn]
  | _, .str _, _ => by simp [Dn]
  | 0, .list _, h => by simp [Dn] at h
  | 0, .tuple _, h => by simp [Dn] at h
  | n + 1, .list ds, h => by
    simp only [Dn] at h ⊢
    exact ⟨h.1, fun d hd => Dn.up (h.2 d hd)⟩
  | n + 1, .tuple ds, h => by
    simp only [Dn] at h ⊢
    exact ⟨h.1, fun d hd => Dn.up (h.2 d hd)⟩
  | 0, .dict _, h => by simp [Dn] at h
  | n + 1, .dict _, h => by simp [Dn] at h
theorem Dn.le {n m : Nat} {d : PyData} (h : Dn n d) (l : n ≤ m) : Dn m d := by
  induction l with
  | refl => exact h
  | step _ ih => exact ih.up
theorem dn_ints {ns : List Int} (h : ns.length ≤ 40000) : Dn 1 (.list (ns.map PyData.int)) := by
  simp only [Dn, List.length_map]
  refine ⟨h, fun d hd => ?_⟩
  obtain ⟨n, _, rfl⟩ := List.mem_map.mp hd
  simp [Dn]
/-! ### types -/
def tyN : PyData → String
  | .none => "NoneType"
  | .bool _ => "bool"
  | .int _ => "int"
  | .str _ => "str"
  | .list _ => "list"
  | .tuple _ => "tuple"
  | .dict _ => "dict"
theorem ty_l {a : Addr} {xs : List V} (h : SqL K H a xs) : TyX K H (.ref a) (.type "list") := by
  rcases h with (h | ⟨o, h⟩) | ⟨o, its, n, h1, h2, _⟩
  · exact .base (.lst h)
  · exact .base (.frz h)
  · exact .kList h1 h2
theorem ty_t {a : Addr} {xs : List V} (h : SqT K H a xs) : TyX K H (.ref a) (.type "tuple") := by
  rcases h with (h | ⟨o, h⟩) | ⟨o, its, n, h1, h2, _⟩
  · exact .base (.tup h)
  · exact .fTuple h
  · exact .kTuple h1 h2
theorem dp_ty {v : V} {d : PyData} (h : Dp K H v d) : TyX K H v (.type (tyN d)) := by
  cases h with
  | non => exact .base .non
  | bl b => exact .base (.bl b)
  | int i => exact .base (.int i)
  | str x => exact .base (.str x)
  | lst h _ => exact ty_l h
  | tup h _ => exact ty_t h
def isB (c t : String) : Bool := kitB t c == some true
/-- the classes that laws ask for -/
def askL : List String := ["int", "bool", "str", "list", "tuple"]
def askd (c : String) : Bool := askL.contains c
theorem kitB_all : ∀ t ∈ ["NoneType", "bool", "int", "str", "list", "tuple"], ∀ c ∈ askL, kitB t c = some (isB c t) := by decide +kernel
theorem kit_all {d : PyData} {v : V} (h : Dp K H v d) {c : String} (hc : askd c = true) : PySem.W.kitOne K (.type (tyN d)) (.type c) = some (isB c (tyN d)) := by
  have hm : c ∈ askL := by
    have h2 : askL.contains c = true := hc
    simpa using h2
  have ht : tyN d ∈ ["NoneType", "bool", "int", "str", "list", "tuple"] := by cases h <;> simp [tyN]
  exact kitB_all _ ht c hm
end
section
variable {K : PySem.W.Frag} {σ : L2.St} {H H' : Hp} {ta tb te tx : TE} {t u : TT} {x y z v : V} {d d2 : PyData}
theorem ev_isiD {c : String} (hx : Ev tx σ H v) (h : Dp K H v d) (hc : askd c = true) : Ev (tCB (rIsi K) (tCons tx (tCons (tC (.ty c)) tNil))) σ H (.bl (isB c (tyN d))) := fun H1 e Q q =>
  hx H1 e _ fun H2 e2 => ⟨v, .ty c, _, _, _, rfl, .ty c, dp_ty (dp_ex (e.trans e2) h), kit_all h hc, q H2 e2⟩
theorem ev_isiD2 {c1 c2 : String} (hx : Ev tx σ H v) (h : Dp K H v d) (h1 : askd c1 = true) (h2 : askd c2 = true) :
    Ev (tCB (rIsiT K) (tCons tx (tCons (tTup (tCons (tC (.ty c1)) (tCons (tC (.ty c2)) tNil))) tNil))) σ H (.bl (isB c1 (tyN d) || isB c2 (tyN d))) := fun H1 e Q q =>
  hx H1 e _ fun H2 e2 => ⟨by show 2 ≤ sizeLine; decide, fun p hp =>
    ⟨v, p, [.ty c1, .ty c2], .type (tyN d), [.type c1, .type c2], _, rfl, upd_same, .cons (.ty c1) (.cons (.ty c2) .nil), dp_ty (dp_ex ((e.trans e2).trans (Ex.new hp)) h), by
      refine kitAny_cons (b := isB c1 (tyN d)) (kit_all h h1) (fun e1 => ?_) (fun e1 => by rw [e1] <;> rfl)
      refine kitAny_cons (b := isB c2 (tyN d)) (kit_all h h2) (fun e2 => ?_) (fun e2 => by rw [e1, e2] <;> rfl)
      rw [e1, e2]
      exact kitAny_nil, q _ (e2.trans (Ex.new hp))⟩⟩
end
end My
namespace My
open PySem PySem.Spec PyProof.Rows L2 Evl
theorem FunD.same {K : PySem.W.Frag} {x qual : Str} {params : Arguments} {body : List Stmt} {scope : Scope} {dvs : List V} {kws : List (Str × V)} {f : Addr} {fd fd2 : FuncData} (F : FunD K x qual params body scope dvs kws f fd) (F2 : FunD K x qual params body scope dvs kws f fd2) : fd = fd2 := by
  obtain ⟨_, _, _, _, _, _, _, _, _, _, _, l1, _⟩ := F.ex
  obtain ⟨_, _, _, _, _, _, _, _, _, _, _, l2, _⟩ := F2.ex
  have e := l1.symm.trans l2
  injection e with e
  injection e with _ _ e _
  injection e
def spLaw (K : PySem.W.Frag) : Sp := fun vs H Q _ => ∃ (a : Addr) (ns : List Int), vs = [.ref a] ∧ SqL K H a (ns.map V.int) ∧ ns.length ≤ 63 ∧ ∀ H', Q (.bl true) H'
end My

namespace My
open PySem PySem.Spec PyProof.Rows L2 Evl
section
variable {K : PySem.W.Frag} {σ : L2.St} {H H' : Hp} {ta tb te tx : TE} {t u : TT} {x y z v : V} {D : Ends} {tu tw tz : TS} {g : TG}
/-- for over range(n), any n; a word B for a break -/
theorem q_forR1' {ta : TA} {j : Nat} {n : Int} (h : EvA ta σ H [.int n]) (hn : -(2 ^ 62) ≤ n ∧ n < 2 ^ 62) (Pv : Nat → L2.St → Hp → Prop) (B : L2.St → Hp → Prop) (h0 : ∀ H1, Ex H H1 → Pv 0 σ H1)
    (hs : ∀ (i : Nat) σ' H', (i : Int) < n → Pv i σ' H' → tu { D with nx := Pv (i + 1), ct := Pv (i + 1), bk := B } (σ'.set j (some (.int (i : Int)))) H') (hd : ∀ σ' H', Pv n.toNat σ' H' → B σ' H')
    (hb : ∀ σ' H', B σ' H' → tz D σ' H') : tCut (tFor (iRng1 ta) (gName j) tu) tz D σ H :=
  ⟨B, h H (Ex.refl H) _ fun H1 e => ⟨n, rfl, hn.1, hn.2, for_range (lo := 0) (n := n.toNat) Pv (h0 H1 e) (fun i σ' H' hi p => by
    have e0 : (0 : Int) + (i : Int) = (i : Int) := Int.zero_add _
    show tu { D with nx := Pv (i + 1), ct := Pv (i + 1), bk := B } (σ'.set j (some (.int ((0 : Int) + (i : Int))))) H'
    rw [e0]
    exact hs i σ' H' (by omega) p) hd⟩, hb⟩
theorem q_forR2' {ta : TA} {j : Nat} {lo n : Int} (h : EvA ta σ H [.int lo, .int n]) (hn : -(2 ^ 62) ≤ lo ∧ lo < 2 ^ 62 ∧ -(2 ^ 62) ≤ n ∧ n < 2 ^ 62) (Pv : Nat → L2.St → Hp → Prop) (B : L2.St → Hp → Prop) (h0 : ∀ H1, Ex H H1 → Pv 0 σ H1)
    (hs : ∀ (i : Nat) σ' H', lo + (i : Int) < n → Pv i σ' H' → tu { D with nx := Pv (i + 1), ct := Pv (i + 1), bk := B } (σ'.set j (some (.int (lo + (i : Int))))) H') (hd : ∀ σ' H', Pv (n - lo).toNat σ' H' → B σ' H')
    (hb : ∀ σ' H', B σ' H' → tz D σ' H') : tCut (tFor (iRng2 ta) (gName j) tu) tz D σ H :=
  ⟨B, h H (Ex.refl H) _ fun H1 e => ⟨lo, n, rfl, hn, for_range (lo := lo) (n := (n - lo).toNat) Pv (h0 H1 e) (fun i σ' H' hi p => hs i σ' H' (by omega) p) hd⟩, hb⟩
end
end My

namespace My
open PySem PySem.Spec PyProof.Rows L2 Evl
theorem isB_tab : isB "int" "NoneType" = false ∧ isB "bool" "NoneType" = false ∧ isB "str" "NoneType" = false ∧ isB "list" "NoneType" = false ∧ isB "tuple" "NoneType" = false ∧ isB "int" "bool" = true ∧ isB "bool" "bool" = true ∧ isB "str" "bool" = false ∧ isB "list" "bool" = false ∧ isB "tuple" "bool" = false ∧ isB "int" "int" = true ∧ isB "bool" "int" = false ∧ isB "str" "int" = false ∧ isB "list" "int" = false ∧ isB "tuple" "int" = false ∧ isB "int" "str" = false ∧ isB "bool" "str" = false ∧ isB "str" "str" = true ∧ isB "list" "str" = false ∧ isB "tuple" "str" = false ∧ isB "int" "list" = false ∧ isB "bool" "list" = false ∧ isB "str" "list" = false ∧ isB "list" "list" = true ∧ isB "tuple" "list" = false ∧ isB "int" "tuple" = false ∧ isB "bool" "tuple" = false ∧ isB "str" "tuple" = false ∧ isB "list" "tuple" = false ∧ isB "tuple" "tuple" = true := by decide +kernel
section
variable {K : PySem.W.Frag} {σ : L2.St} {H H' : Hp} {ta tb te tx : TE} {t u : TT} {x y z v : V} {D : Ends} {tu tw tz : TS} {g : TG}
theorem ev_isN (h : Ev ta σ H x) : Ev (tIsN ta) σ H (.bl (decide (x = .non))) := fun H1 e Q q => h H1 e _ fun H2 e2 => q H2 e2
theorem ev_notN (h : Ev ta σ H x) : Ev (tNotN ta) σ H (.bl (!decide (x = .non))) := fun H1 e Q q => h H1 e _ fun H2 e2 => q H2 e2
end
end My

namespace My
open PySem PySem.Spec PyProof.Rows L2 Evl
section
variable {K : PySem.W.Frag} {σ : L2.St} {H H' : Hp} {ta tb te tx : TE} {t u : TT} {x y z v : V} {D : Ends} {tu tw tz : TS} {g : TG}
theorem ev_lenN' {xs : List V} (ha : EvL ta σ H xs) : Ev (tCB (rLenQ K) (tCons ta tNil)) σ H (.int (xs.length : Int)) := fun H1 e Q q =>
  ha H1 e _ fun p H2 _ e2 h2 => ⟨p, xs, rfl, Or.inl (sq_of h2), q H2 e2⟩
theorem rv_ixQL {p : Addr} {xs : List V} {i : Int} (h : SqL K H p xs) (ha : atI xs i = some v) : RV (rIx K) (.ref p) (.int i) H v := fun H1 e _ q => .inl ⟨p, xs, i, v, rfl, rfl, ex_l e h, ha, q H1 (Ex.refl H1)⟩
theorem rv_ixQT {p : Addr} {xs : List V} {i : Int} (h : SqT K H p xs) (ha : atI xs i = some v) : RV (rIx K) (.ref p) (.int i) H v := fun H1 e _ q => .inr (.inl ⟨p, xs, i, v, rfl, rfl, ex_t e h, ha, q H1 (Ex.refl H1)⟩)
/-- a list or a tuple, by its kind -/
def SqB (K : PySem.W.Frag) (H : Hp) (b : Bool) (a : Addr) (xs : List V) : Prop := if b = true then SqL K H a xs else SqT K H a xs
theorem SqB.ex {b : Bool} {a : Addr} {xs : List V} (e : Ex H H') (h : SqB K H b a xs) : SqB K H' b a xs := by
  cases b with
  | true => exact ex_l e h
  | false => exact ex_t e h
theorem rv_ixB {b : Bool} {p : Addr} {xs : List V} {i : Int} (h : SqB K H b p xs) (ha : atI xs i = some v) : RV (rIx K) (.ref p) (.int i) H v := by
  cases b with
  | true => exact rv_ixQL h ha
  | false => exact rv_ixQT h ha
theorem rc_lenB {b : Bool} {p : Addr} {ys : List V} (h : SqB K H b p ys) : RC (rLenQ K) [.ref p] H (.int ys.length) := by
  cases b with
  | true => exact rc_lenL h
  | false => exact rc_lenT h
end
theorem given_none {n : Nat} {f : Nat → Bool} {v : Nat → V} : (given n f v).length = 0 ↔ ∀ i, i < n → f i = false := by
  unfold given
  rw [List.length_map, List.length_eq_zero_iff, List.filter_eq_nil_iff]
  constructor
  · intro h i hi
    have := h i (List.mem_range.mpr hi)
    simpa using this
  · intro h i hi
    rw [h i (List.mem_range.mp hi)]
    exact Bool.false_ne_true
/-- the sequences of one kind -/
def seqD (b : Bool) (ds : List PyData) : PyData := if b = true then .list ds else .tuple ds
theorem seqD_inj {b : Bool} {ds es : List PyData} : seqD b ds = seqD b es ↔ ds = es := by
  cases b <;> simp [seqD]
theorem dp_seq {K : PySem.W.Frag} {H : Hp} {b : Bool} {v : V} {ds : List PyData} (h : Dp K H v (seqD b ds)) : ∃ a xs, v = .ref a ∧ SqB K H b a xs ∧ DpAll K H xs ds := by
  cases b with
  | true =>
    cases h with
    | lst h t => exact ⟨_, _, rfl, h, t⟩
  | false =>
    cases h with
    | tup h t => exact ⟨_, _, rfl, h, t⟩
theorem dn_seq {n : Nat} {b : Bool} {ds : List PyData} (h : Dn n (seqD b ds)) : ∃ m, n = m + 1 ∧ ds.length ≤ 40000 ∧ ∀ d ∈ ds, Dn m d := by
  cases n with
  | zero => cases b <;> simp [Dn, seqD] at h
  | succ m => cases b <;> (simp [Dn, seqD] at h; exact ⟨m, rfl, h⟩)
end My

namespace My
open PySem PySem.Spec PyProof.Rows L2 Evl
/-! ### expressions whose values are data -/
section
variable {K : PySem.W.Frag}
def EvD (K : PySem.W.Frag) (te : TE) (σ : L2.St) (H : Hp) (d : PyData) : Prop := ∀ H1, Ex H H1 → ∀ Q : VK, (∀ v H2, Ex H1 H2 → Dp K H2 v d → Q v H2) → te σ H1 Q
def EvDs (K : PySem.W.Frag) (ta : TA) (σ : L2.St) (H : Hp) (ds : List PyData) : Prop := ∀ H1, Ex H H1 → ∀ Q : List V → Hp → Prop, (∀ vs H2, Ex H1 H2 → DpAll K H2 vs ds → Q vs H2) → ta σ H1 Q
/-- what a call hands back is data d, all else as it was -/
def RetD (K : PySem.W.Frag) (d : PyData) (H : Hp) (Q : VK) : Prop := ∀ v H2, Ex H H2 → Dp K H2 v d → Q v H2
/-- a call over data -/
def SpD (K : PySem.W.Frag) (sp : Sp) (ds : List PyData) (d : PyData) : Prop := ∀ vs H1, DpAll K H1 vs ds → ∀ Q : VK, RetD K d H1 Q → ∀ E : XK, sp vs H1 Q E
/-- a def that is a function of data -/
def spFn (K : PySem.W.Frag) (pre : List PyData → Prop) (f : List PyData → PyData) : Sp := fun vs H Q _ => ∃ ds, DpAll K H vs ds ∧ pre ds ∧ RetD K (f ds) H Q
/-- .. of which only a relation is told -/
def spRel (K : PySem.W.Frag) (pre : List PyData → Prop) (R : List PyData → PyData → Prop) : Sp := fun vs H Q _ => ∃ ds, DpAll K H vs ds ∧ pre ds ∧ ∀ d, R ds d → RetD K d H Q
theorem spFn_D {pre : List PyData → Prop} {f : List PyData → PyData} {ds : List PyData} (h : pre ds) : SpD K (spFn K pre f) ds (f ds) := fun vs H1 hv Q q E => ⟨ds, hv, h, q⟩
theorem RetD.go {d : PyData} {H H1 : Hp} {Q : VK} (k : RetD K d H Q) (e : Ex H H1) : RetD K d H1 Q := fun v H2 e2 h => k v H2 (e.trans e2) h
variable {σ : L2.St} {H H' : Hp} {ta tb te tx : TE} {t u : TT} {x y z v : V} {D : Ends} {tu tw tz : TS} {g : TG} {d e : PyData} {ds es : List PyData} {i j : Int} {b : Bool}
theorem EvD.mono (e : Ex H H') (h : EvD K te σ H d) : EvD K te σ H' d := fun H1 a Q q => h H1 (e.trans a) Q q
theorem dp_int (h : Dp K H v (.int i)) : v = .int i := by cases h; rfl
theorem dp_str {s : Str} (h : Dp K H v (.str s)) : v = .str s := by cases h; rfl
theorem dp_bool (h : Dp K H v (.bool b)) : v = .bl b := by cases h; rfl
theorem dp_none (h : Dp K H v .none) : v = .non := by cases h; rfl
theorem dp_list (h : Dp K H v (.list ds)) : ∃ a xs, v = .ref a ∧ SqL K H a xs ∧ DpAll K H xs ds := by
  cases h with
  | lst h t => exact ⟨_, _, rfl, h, t⟩
theorem dp_tup (h : Dp K H v (.tuple ds)) : ∃ a xs, v = .ref a ∧ SqT K H a xs ∧ DpAll K H xs ds := by
  cases h with
  | tup h t => exact ⟨_, _, rfl, h, t⟩
/-- a value that is data at H stays so -/
theorem evd_of (h : Ev te σ H v) (hd : Dp K H v d) : EvD K te σ H d := fun H1 e Q q => h H1 e Q fun H2 e2 => q v H2 e2 (dp_ex (e.trans e2) hd)
theorem evd_i (h : Ev te σ H (.int i)) : EvD K te σ H (.int i) := evd_of h (.int i)
theorem evd_b (h : Ev te σ H (.bl b)) : EvD K te σ H (.bool b) := evd_of h (.bl b)
theorem evd_s {s : Str} (h : Ev te σ H (.str s)) : EvD K te σ H (.str s) := evd_of h (.str s)
theorem evd_n (h : Ev te σ H .non) : EvD K te σ H .none := evd_of h .non
theorem EvD.toI (h : EvD K te σ H (.int i)) : Ev te σ H (.int i) := fun H1 e Q q => h H1 e Q fun v H2 e2 hd => dp_int hd ▸ q H2 e2
theorem EvD.toB (h : EvD K te σ H (.bool b)) : Ev te σ H (.bl b) := fun H1 e Q q => h H1 e Q fun v H2 e2 hd => dp_bool hd ▸ q H2 e2
theorem EvD.toS {s : Str} (h : EvD K te σ H (.str s)) : Ev te σ H (.str s) := fun H1 e Q q => h H1 e Q fun v H2 e2 hd => dp_str hd ▸ q H2 e2
theorem evd_var {n : Nat} (h : σ[n]? = some (some v)) (hd : Dp K H v d) : EvD K (tVar n) σ H d := evd_of (ev_var h) hd
theorem evd_int : EvD K (tC (.int i)) σ H (.int i) := evd_i ev_c
theorem evd_str {s : Str} : EvD K (tC (.str s)) σ H (.str s) := evd_s ev_c
theorem evd_bl : EvD K (tC (.bl b)) σ H (.bool b) := evd_b ev_c
theorem evd_non : EvD K (tC .non) σ H .none := evd_n ev_c
theorem evds_nil : EvDs K tNil σ H [] := fun H1 _ Q q => q [] H1 (Ex.refl H1) .nil
theorem evds_cons {tr : TA} (h : EvD K te σ H d) (hr : EvDs K tr σ H ds) : EvDs K (tCons te tr) σ H (d :: ds) := fun H1 e Q q =>
  h H1 e _ fun v H2 e2 hv => hr H2 (e.trans e2) _ fun vs H3 e3 hvs => q _ H3 (e2.trans e3) (.cons (dp_ex e3 hv) hvs)
theorem evd_call {sp : Sp} {E : XK} {ta : TA} (h : EvDs K ta σ H ds) (hs : SpD K sp ds d) : EvD K (tCall sp [] E ta) σ H d := fun H1 e Q q =>
  h H1 e _ fun vs H2 e2 hv => by
    rw [List.append_nil]
    exact hs vs H2 hv Q (fun v H3 e3 h3 => q v H3 (e2.trans e3) h3) E
theorem evd_tup {ta : TA} (h : EvDs K ta σ H ds) (hl : ds.length ≤ 100000) : EvD K (tTup ta) σ H (.tuple ds) := fun H1 e Q q =>
  h H1 e _ fun vs H2 e2 hv => ⟨by rw [dpa_len hv]; exact sz_of hl, fun p hp => q _ _ (e2.trans (Ex.new hp)) (.tup (st_of upd_same) (dpa_ex (Ex.new hp) hv))⟩
theorem evd_lst {ta : TA} (h : EvDs K ta σ H ds) (hl : ds.length ≤ 100000) : EvD K (tLst ta) σ H (.list ds) := fun H1 e Q q =>
  h H1 e _ fun vs H2 e2 hv => ⟨by rw [dpa_len hv]; exact sz_of hl, fun p hp => q _ _ (e2.trans (Ex.new hp)) (.lst (sq_of upd_same) (dpa_ex (Ex.new hp) hv))⟩
/-- the item at an int place -/
theorem dpa_atI {vs : List V} (h : DpAll K H vs ds) (ha : atI ds i = some d) : ∃ v, atI vs i = some v ∧ Dp K H v d := by
  obtain ⟨n, hn, hd⟩ := Option.bind_eq_some_iff.mp (show (ixN ds.length i).bind (fun j => ds[j]?) = some d from ha)
  obtain ⟨hlt, he⟩ := List.getElem?_eq_some_iff.mp hd
  obtain ⟨v, hv, hp⟩ := dpa_at h hlt
  refine ⟨v, ?_, he ▸ hp⟩
  show (ixN vs.length i).bind (fun j => vs[j]?) = some v
  rw [dpa_len h, hn]
  exact hv
theorem evd_ixL (ha : EvD K ta σ H (.list ds)) (hb : Ev tb σ H (.int i)) (h : atI ds i = some d) : EvD K (tOp (rIxL K) ta tb) σ H d := fun H1 e Q q =>
  ha H1 e _ fun v H2 e2 hv => hb H2 (e.trans e2) _ fun H3 e3 => by
    obtain ⟨a, xs, rfl, hs, hx⟩ := dp_list hv
    obtain ⟨w, hw, hp⟩ := dpa_atI hx h
    exact ⟨a, xs, i, w, rfl, rfl, ex_l e3 hs, hw, q w H3 (e2.trans e3) (dp_ex e3 hp)⟩
theorem evd_ixT (ha : EvD K ta σ H (.tuple ds)) (hb : Ev tb σ H (.int i)) (h : atI ds i = some d) : EvD K (tOp (rIxT K) ta tb) σ H d := fun H1 e Q q =>
  ha H1 e _ fun v H2 e2 hv => hb H2 (e.trans e2) _ fun H3 e3 => by
    obtain ⟨a, xs, rfl, hs, hx⟩ := dp_tup hv
    obtain ⟨w, hw, hp⟩ := dpa_atI hx h
    exact ⟨a, xs, i, w, rfl, rfl, ex_t e3 hs, hw, q w H3 (e2.trans e3) (dp_ex e3 hp)⟩
theorem ev_lenD (ha : EvD K ta σ H (.list ds)) : Ev (tCB (rLenQ K) (tCons ta tNil)) σ H (.int (ds.length : Int)) := fun H1 e Q q =>
  ha H1 e _ fun v H2 e2 hv => by
    obtain ⟨a, xs, rfl, hs, hx⟩ := dp_list hv
    refine ⟨a, xs, rfl, .inl hs, ?_⟩
    rw [dpa_len hx]
    exact q H2 e2
theorem ev_lenDT (ha : EvD K ta σ H (.tuple ds)) : Ev (tCB (rLenQ K) (tCons ta tNil)) σ H (.int (ds.length : Int)) := fun H1 e Q q =>
  ha H1 e _ fun v H2 e2 hv => by
    obtain ⟨a, xs, rfl, hs, hx⟩ := dp_tup hv
    refine ⟨a, xs, rfl, .inr hs, ?_⟩
    rw [dpa_len hx]
    exact q H2 e2
theorem dpa_drop : ∀ {vs : List V} {ds : List PyData} (n : Nat), DpAll K H vs ds → DpAll K H (vs.drop n) (ds.drop n)
  | _, _, 0, h => h
  | _, _, _ + 1, .nil => .nil
  | _, _, n + 1, .cons _ t => dpa_drop n t
theorem dpa_take : ∀ {vs : List V} {ds : List PyData} (n : Nat), DpAll K H vs ds → DpAll K H (vs.take n) (ds.take n)
  | _, _, 0, _ => .nil
  | _, _, _ + 1, .nil => .nil
  | _, _, n + 1, .cons h t => .cons h (dpa_take n t)
def cutD (xs : List PyData) (lo hi : Option Int) : List PyData := (xs.drop (HT.sIx xs.length 0 lo)).take (HT.sIx xs.length xs.length hi - HT.sIx xs.length 0 lo)
theorem dpa_cut {vs : List V} {lo hi : Option Int} (h : DpAll K H vs ds) : DpAll K H (cutV vs lo hi) (cutD ds lo hi) := by
  unfold cutV cutD
  rw [dpa_len h]
  exact dpa_take _ (dpa_drop _ h)
theorem evd_slL {tl th : TO} {lo hi : Option Int} (h : EvD K te σ H (.list ds)) (h1 : EvO tl σ H lo) (h2 : EvO th σ H hi) : EvD K (tSl (rSlL K) te tl th) σ H (.list (cutD ds lo hi)) := fun H0 e Q q =>
  h H0 e _ fun v H1 e1 hv => h1 H1 (e.trans e1) _ fun H2 e2 => h2 H2 ((e.trans e1).trans e2) _ fun H3 e3 => by
    obtain ⟨a, xs, rfl, hs, hx⟩ := dp_list hv
    refine ⟨a, xs, rfl, ex_l (e2.trans e3) hs, fun p hp => q _ _ (((e1.trans e2).trans e3).trans (Ex.new hp)) (.lst (sq_of upd_same) ?_)⟩
    exact dpa_ex (Ex.new hp) (dpa_cut (dpa_ex (e2.trans e3) hx))
/-- ==, != of data -/
theorem ev_eqD (ha : EvD K ta σ H d) (hb : EvD K tb σ H e) (sd : SeqAt.shaped d = true) (se : SeqAt.shaped e = true) : Ev (tOp (rEqD K) ta tb) σ H (.bl (PyData.eqv d e)) := fun H1 x Q q =>
  ha H1 x _ fun v H2 e2 hv => hb H2 (x.trans e2) _ fun u H3 e3 hu => ⟨d, e, dp_ex e3 hv, hu, sd, se, q H3 (e2.trans e3)⟩
theorem ev_neD (ha : EvD K ta σ H d) (hb : EvD K tb σ H e) (sd : SeqAt.shaped d = true) (se : SeqAt.shaped e = true) : Ev (tOp (rNeD K) ta tb) σ H (.bl (!PyData.eqv d e)) := fun H1 x Q q =>
  ha H1 x _ fun v H2 e2 hv => hb H2 (x.trans e2) _ fun u H3 e3 hu => ⟨d, e, dp_ex e3 hv, hu, sd, se, q H3 (e2.trans e3)⟩
def isNone : PyData → Bool
  | .none => true
  | _ => false
theorem isNone_iff {d : PyData} : isNone d = true ↔ d = .none := by cases d <;> simp [isNone]
theorem ev_isND (ha : EvD K ta σ H d) : Ev (tIsN ta) σ H (.bl (isNone d)) := fun H1 x Q q =>
  ha H1 x _ fun v H2 e2 hv => by
    have : decide (v = .non) = isNone d := by cases hv <;> simp [isNone]
    rw [this]
    exact q H2 e2
theorem ev_notND (ha : EvD K ta σ H d) : Ev (tNotN ta) σ H (.bl (!isNone d)) := fun H1 x Q q =>
  ha H1 x _ fun v H2 e2 hv => by
    have : decide (v = .non) = isNone d := by cases hv <;> simp [isNone]
    rw [this]
    exact q H2 e2
/-- a new list of data -/
def EvLD (K : PySem.W.Frag) (te : TE) (σ : L2.St) (H : Hp) (ds : List PyData) : Prop := ∀ H1, Ex H H1 → ∀ Q : VK, (∀ p vs H2, H1 p = none → Ex H1 H2 → H2 p = some (.lst vs) → DpAll K H2 vs ds → Q (.ref p) H2) → te σ H1 Q
theorem EvLD.toD (h : EvLD K te σ H ds) : EvD K te σ H (.list ds) := fun H1 e Q q => h H1 e Q fun p vs H2 _ e2 h2 hd => q _ H2 e2 (.lst (sq_of h2) hd)
theorem eld_lst {ta : TA} (h : EvDs K ta σ H ds) (hl : ds.length ≤ 100000) : EvLD K (tLst ta) σ H ds := fun H1 e Q q =>
  h H1 e _ fun vs H2 e2 hv => ⟨by rw [dpa_len hv]; exact sz_of hl, fun p hp => q p vs _ (fresh_back e2 hp) (e2.trans (Ex.new hp)) upd_same (dpa_ex (Ex.new hp) hv)⟩
theorem eld_list (ha : EvD K ta σ H (.list ds)) : EvLD K (tCB (rListQ K) (tCons ta tNil)) σ H ds := fun H1 e Q q =>
  ha H1 e _ fun v H2 e2 hv => by
    obtain ⟨a, xs, rfl, hs, hx⟩ := dp_list hv
    exact ⟨a, xs, rfl, .inl hs, fun l hl => q l xs _ (fresh_back e2 hl) (e2.trans (Ex.new hl)) upd_same (dpa_ex (Ex.new hl) hx)⟩
theorem eld_listT (ha : EvD K ta σ H (.tuple ds)) : EvLD K (tCB (rListQ K) (tCons ta tNil)) σ H ds := fun H1 e Q q =>
  ha H1 e _ fun v H2 e2 hv => by
    obtain ⟨a, xs, rfl, hs, hx⟩ := dp_tup hv
    exact ⟨a, xs, rfl, .inr hs, fun l hl => q l xs _ (fresh_back e2 hl) (e2.trans (Ex.new hl)) upd_same (dpa_ex (Ex.new hl) hx)⟩
theorem eld_sl {tl th : TO} {lo hi : Option Int} (h : EvD K te σ H (.list ds)) (h1 : EvO tl σ H lo) (h2 : EvO th σ H hi) : EvLD K (tSl (rSlL K) te tl th) σ H (cutD ds lo hi) := fun H0 e Q q =>
  h H0 e _ fun v H1 e1 hv => h1 H1 (e.trans e1) _ fun H2 e2 => h2 H2 ((e.trans e1).trans e2) _ fun H3 e3 => by
    obtain ⟨a, xs, rfl, hs, hx⟩ := dp_list hv
    refine ⟨a, xs, rfl, ex_l (e2.trans e3) hs, fun p hp => q p _ _ (fresh_back ((e1.trans e2).trans e3) hp) (((e1.trans e2).trans e3).trans (Ex.new hp)) upd_same ?_⟩
    exact dpa_ex (Ex.new hp) (dpa_cut (dpa_ex (e2.trans e3) hx))
/-! ### statements -/
theorem sd_asg {i : Nat} (h : EvD K te σ H d) (k : ∀ v H1, Ex H H1 → Dp K H1 v d → D.nx (σ.set i (some v)) H1) : tAsg te (gName i) D σ H := h H (Ex.refl H) _ fun v H1 e hv => k v H1 e hv
theorem qd_asg {i : Nat} (h : EvD K te σ H d) (k : ∀ v H1, Ex H H1 → Dp K H1 v d → tz D (σ.set i (some v)) H1) : tSeq (tAsg te (gName i)) tz D σ H := h H (Ex.refl H) _ fun v H1 e hv => k v H1 e hv
theorem sd_ret (h : EvD K te σ H d) (k : RetD K d H D.rt) : tRet te D σ H := h H (Ex.refl H) _ k
theorem sl_asg {i : Nat} (h : EvLD K te σ H ds) (k : ∀ p vs H1, H p = none → Ex H H1 → H1 p = some (.lst vs) → DpAll K H1 vs ds → D.nx (σ.set i (some (.ref p))) H1) : tAsg te (gName i) D σ H := h H (Ex.refl H) _ fun p vs H1 hp e h1 hd => k p vs H1 hp e h1 hd
theorem ql_asg {i : Nat} (h : EvLD K te σ H ds) (k : ∀ p vs H1, H p = none → Ex H H1 → H1 p = some (.lst vs) → DpAll K H1 vs ds → tz D (σ.set i (some (.ref p))) H1) : tSeq (tAsg te (gName i)) tz D σ H := h H (Ex.refl H) _ fun p vs H1 hp e h1 hd => k p vs H1 hp e h1 hd
/-- l.append(e), the list l at H -/
theorem qd_app {l : Addr} {xs : List V} (hl : H l = some (.lst xs)) (ha : Ev ta σ H (.ref l)) (h : EvD K te σ H d) (hz : xs.length < 100000) (k : ∀ v H1, Ex H H1 → Dp K H1 v d → tz D σ (upd H1 l (.lst (xs ++ [v])))) :
    tSeq (tDrop (tBM K "list" rAppend ta (tCons te tNil))) tz D σ H := ha H (Ex.refl H) _ fun H1 e1 =>
  ⟨Or.inl ⟨rfl, xs, sq_of (e1 l _ hl)⟩, h H1 e1 _ fun v H2 e2 hv => ⟨l, xs, v, rfl, rfl, e2 l _ (e1 l _ hl), sz_lt hz, k v H2 (e1.trans e2) hv⟩⟩
theorem sd_app {l : Addr} {xs : List V} (hl : H l = some (.lst xs)) (ha : Ev ta σ H (.ref l)) (h : EvD K te σ H d) (hz : xs.length < 100000) (k : ∀ v H1, Ex H H1 → Dp K H1 v d → D.nx σ (upd H1 l (.lst (xs ++ [v])))) :
    tDrop (tBM K "list" rAppend ta (tCons te tNil)) D σ H := ha H (Ex.refl H) _ fun H1 e1 =>
  ⟨Or.inl ⟨rfl, xs, sq_of (e1 l _ hl)⟩, h H1 e1 _ fun v H2 e2 hv => ⟨l, xs, v, rfl, rfl, e2 l _ (e1 l _ hl), sz_lt hz, k v H2 (e1.trans e2) hv⟩⟩
end
/-- all but the objects at these places is as it was -/
def ExO (L : List Addr) (H H' : Hp) : Prop := ∀ a o, a ∉ L → H a = some o → H' a = some o
theorem ExO.refl (L : List Addr) (H : Hp) : ExO L H H := fun _ _ _ h => h
theorem ExO.trans {L : List Addr} {H H1 H2 : Hp} (a : ExO L H H1) (b : ExO L H1 H2) : ExO L H H2 := fun x o n h => b x o n (a x o n h)
theorem ExO.of {L : List Addr} {H H' : Hp} (e : Ex H H') : ExO L H H' := fun a o _ h => e a o h
theorem ExO.upd {L : List Addr} {H H' : Hp} {p : Addr} {o : HO} (e : ExO L H H') (hp : p ∈ L) : ExO L H (L2.upd H' p o) := fun a u n h => by
  rw [upd_ne (fun z => n (by rw [z]; exact hp))]
  exact e a u n h
/-- what was not there at all may change -/
theorem ExO.ex {L : List Addr} {H0 H H' : Hp} (e0 : Ex H0 H) (e : ExO L H H') (hn : ∀ p ∈ L, H0 p = none) : Ex H0 H' := fun a o h =>
  e a o (fun hm => by rw [hn a hm] at h; cases h) (e0 a o h)
end My

namespace My
open PySem PySem.Spec PyProof.Rows L2 Evl
section
variable {K : PySem.W.Frag} {σ : L2.St} {H H' : Hp} {ta tb te tx : TE} {t u : TT} {x y z v : V} {D : Ends} {tu tw tz : TS} {g : TG} {d e : PyData} {ds es : List PyData} {i j : Int} {b : Bool}
/-- a call whose first argument is a new list -/
theorem ev_callL {sp : Sp} {E : XK} {tr : TA} {xs vs : List V} (h : EvL te σ H xs) (hr : EvA tr σ H vs) (hs : ∀ p H1, Ex H H1 → H1 p = some (.lst xs) → SpV sp (.ref p :: vs) H1 z) : Ev (tCall sp [] E (tCons te tr)) σ H z := fun H1 e Q q =>
  h H1 e _ fun p H2 hp e2 h2 => hr H2 (e.trans e2) _ fun H3 e3 => by
    show sp ((V.ref p :: vs) ++ []) H3 Q E
    rw [List.append_nil]
    exact hs p H3 ((e.trans e2).trans e3) (e3 _ _ h2) H3 (Ex.refl H3) Q (fun H4 e4 => q H4 ((e2.trans e3).trans e4)) E
theorem dpa_strs : ∀ ws : List Str, DpAll K H (ws.map V.str) (ws.map PyData.str)
  | [] => .nil
  | n :: r => .cons (.str n) (dpa_strs r)
theorem dn_strs {ws : List Str} {n : Nat} (h : ws.length ≤ 40000) : Dn (n + 1) (.list (ws.map PyData.str)) := by
  simp only [Dn, List.length_map]
  refine ⟨h, fun d hd => ?_⟩
  obtain ⟨x, _, rfl⟩ := List.mem_map.mp hd
  simp [Dn]
theorem dp_strs {a : Addr} {ws : List Str} (h : SqL K H a (ws.map V.str)) : Dp K H (.ref a) (.list (ws.map PyData.str)) := .lst h (dpa_strs ws)
theorem dp_ints {a : Addr} {ns : List Int} (h : SqL K H a (ns.map V.int)) : Dp K H (.ref a) (.list (ns.map PyData.int)) := .lst h (dpa_ints ns)
theorem q_whenF (h : EvT t σ H false) (k : ∀ H1, Ex H H1 → tz D σ H1) : tSeq (tIfS t tu tNext) tz D σ H := q_when (b := false) h (fun z => nomatch z) fun _ H1 e => k H1 e
theorem s_whenF (h : EvT t σ H false) (k : ∀ H1, Ex H H1 → D.nx σ H1) : tIfS t tu tNext D σ H := s_when (b := false) h (fun z => nomatch z) fun _ H1 e => k H1 e
theorem et_notT (h : EvT t σ H true) : EvT (tNot t) σ H false := et_not h
/-- for over a list that stands, behind it a word B -/
theorem q_forL' {a : Addr} {xs : List V} {tl : TE} (h : Ev tl σ H (.ref a)) (hx : SqL K H a xs) (Pv : Nat → L2.St → Hp → Prop) (B : L2.St → Hp → Prop) (h0 : ∀ H1, Ex H H1 → Pv 0 σ H1) (hl : ∀ i σ' H', i ≤ xs.length → Pv i σ' H' → SqL K H' a xs)
    (hs : ∀ i x σ' H', xs[i]? = some x → Pv i σ' H' → g x σ' H' fun σ2 H2 => tu { D with nx := Pv (i + 1), ct := Pv (i + 1), bk := B } σ2 H2) (hd : ∀ σ' H', Pv xs.length σ' H' → B σ' H')
    (hb : ∀ σ' H', B σ' H' → tz D σ' H') : tCut (tFor (iList K tl) g tu) tz D σ H :=
  ⟨B, h H (Ex.refl H) _ fun H1 e => ⟨a, rfl, ⟨xs, ex_l e hx⟩, for_list Pv (h0 H1 e) hl hs hd⟩, hb⟩
/-- .. over what an expression gives -/
theorem q_forD' {tl : TE} (h : EvD K tl σ H (.list ds)) (Pv : Addr → List V → Nat → L2.St → Hp → Prop) (B : L2.St → Hp → Prop) (h0 : ∀ a vs H1, Ex H H1 → SqL K H1 a vs → DpAll K H1 vs ds → Pv a vs 0 σ H1) (hl : ∀ a vs i σ' H', i ≤ vs.length → Pv a vs i σ' H' → SqL K H' a vs)
    (hs : ∀ a vs i x σ' H', vs[i]? = some x → Pv a vs i σ' H' → g x σ' H' fun σ2 H2 => tu { D with nx := Pv a vs (i + 1), ct := Pv a vs (i + 1), bk := B } σ2 H2) (hd : ∀ a vs σ' H', Pv a vs vs.length σ' H' → B σ' H')
    (hb : ∀ σ' H', B σ' H' → tz D σ' H') : tCut (tFor (iList K tl) g tu) tz D σ H :=
  ⟨B, h H (Ex.refl H) _ fun v H1 e hv => by
    obtain ⟨a, vs, rfl, hs2, hx⟩ := dp_list hv
    exact ⟨a, rfl, ⟨vs, hs2⟩, for_list (Pv a vs) (h0 a vs H1 e hs2 hx) (hl a vs) (hs a vs) (hd a vs)⟩, hb⟩
end
end My
namespace My
open PySem PySem.Spec PyProof.Rows L2 Evl
section
variable {K : PySem.W.Frag} {σ : L2.St} {H H' : Hp} {ta tb te tx ti t1 t2 : TE} {t u : TT} {x y z v : V} {D : Ends} {tu tw tz : TS} {g : TG} {d e : PyData} {ds es : List PyData} {i j : Int} {b : Bool}
/-- one of two new lists, by a place -/
theorem el_two {xs x1 x2 : List V} (h1 : EvL t1 σ H x1) (h2 : EvL t2 σ H x2) (hi : Ev ti σ H (.int i)) (hc : (i = 0 ∧ xs = x1) ∨ (i = 1 ∧ xs = x2)) : EvL (tOp (rIxL K) (tLst (tCons t1 (tCons t2 tNil))) ti) σ H xs := fun H1 e Q q =>
  h1 H1 e _ fun p1 H2 n1 e2 l1 => h2 H2 (e.trans e2) _ fun p2 H3 n2 e3 l2 => ⟨by show 2 ≤ sizeLine; decide, fun p hp => by
    have E3 := (e2.trans e3).trans (Ex.new (o := .lst [.ref p1, .ref p2]) hp)
    refine hi _ (e.trans E3) _ fun H4 e4 => ?_
    have a1 : H4 p1 = some (.lst x1) := e4 _ _ ((Ex.new hp) _ _ (e3 _ _ l1))
    have a2 : H4 p2 = some (.lst x2) := e4 _ _ ((Ex.new hp) _ _ l2)
    rcases hc with ⟨rfl, rfl⟩ | ⟨rfl, rfl⟩
    · exact ⟨p, [.ref p1, .ref p2], 0, .ref p1, rfl, rfl, sq_of (e4 _ _ upd_same), rfl, q p1 H4 n1 (E3.trans e4) a1⟩
    · exact ⟨p, [.ref p1, .ref p2], 1, .ref p2, rfl, rfl, sq_of (e4 _ _ upd_same), rfl, q p2 H4 (fresh_back e2 n2) (E3.trans e4) a2⟩⟩
theorem q_forNL' {xs : List V} {tl : TE} (h : EvL tl σ H xs) (Pv : Addr → Nat → L2.St → Hp → Prop) (B : L2.St → Hp → Prop) (h0 : ∀ p H1, H p = none → Ex H H1 → H1 p = some (.lst xs) → Pv p 0 σ H1) (hl : ∀ p i σ' H', i ≤ xs.length → Pv p i σ' H' → SqL K H' p xs)
    (hs : ∀ p i x σ' H', xs[i]? = some x → Pv p i σ' H' → g x σ' H' fun σ2 H2 => tu { D with nx := Pv p (i + 1), ct := Pv p (i + 1), bk := B } σ2 H2) (hd : ∀ p σ' H', Pv p xs.length σ' H' → B σ' H')
    (hb : ∀ σ' H', B σ' H' → tz D σ' H') : tCut (tFor (iList K tl) g tu) tz D σ H :=
  ⟨B, h H (Ex.refl H) _ fun p H1 hp e h1 => ⟨p, rfl, ⟨xs, sq_of h1⟩, for_list (Pv p) (h0 p H1 hp e h1) (hl p) (hs p) (hd p)⟩, hb⟩
end
end My

namespace My
open PySem PySem.Spec PyProof.Rows L2 Evl
/-! ### classes by their names -/
structure MkOk (P : Program) (w : World) (K : PySem.W.Frag) (mg : Str → Option Value) (base : Heap) (k : Nat) (x : Str) (C : Addr) (ps : List Str) (dvs : List V) (sp : Sp) : Prop where
  ex : ∃ (f : Addr) (fd : FuncData) (ds : List Value), mg x = some (.ref C) ∧ Mk K C f ∧ Binds K fd ps ds ∧ Vals dvs ds ∧ FnOk P w K mg base CX0 k f fd ps sp
structure MethOk (P : Program) (w : World) (K : PySem.W.Frag) (mg : Str → Option Value) (base : Heap) (CX : CXT) (k : Nat) (C : Addr) (m : Str) (ps : List Str) (dvs : List V) (sp : Sp) : Prop where
  cls : Cls K C
  ex : ∃ (f : Addr) (fd : FuncData) (ds : List Value), Meth K C m f ∧ Binds K fd ps ds ∧ Vals dvs ds ∧ FnOk P w K mg base CX k f fd ps sp
structure DefOkX (P : Program) (w : World) (K : PySem.W.Frag) (mg : Str → Option Value) (base : Heap) (k : Nat) (x : Str) (ps : List Str) (sp : Sp) : Prop where
  ex : ∃ (f : Addr) (fd : FuncData), mg x = some (.ref f) ∧ PySem.W.keepIn K (.ref f) = true ∧ Binds K fd ps [] ∧ FnOk P w K mg base (L2.CX P w) k f fd ps sp
/-- o.m(..) that may raise: E at the slots -/
def tMethS (C : Addr) (m : Str) (sp : Sp) (E : L2.St → XK) (ta : TE) (t : TA) : TE := fun σ H Q => ta σ H fun x H1 => ∃ a dx fs, x = .ref a ∧ H1 a = some (.ins C dx fs) ∧ fs.lookup m = none ∧
  t σ H1 fun vs H2 => sp (x :: vs) H2 Q (E σ)
section
variable {X : Cx} {k j : Nat} {x m : Str} {C : Addr} {ps : List Str} {dvs : List V} {sp : Sp} {p pos apos : Pos} {e o : Expr} {es : List Expr} {ta : TE} {t : TA} {W : WX}
theorem pe_makeN (D : MkOk X.prog X.w X.K X.mg X.base k x C ps dvs sp) (hr : Room j X.A) (ha : PA X (e :: es) t) (hk : k + 1 ≤ j := by decide) (hg : Gl X x := by rfl) (hdb : (x == ("__debug__" : Str)) = false := by decide)
    (he : starEach (e :: es) X.env = (false, eval e X.env) :: starEach es X.env := by rfl) (hpl : (backTo pos (starEach es X.env)).any (·.1) = false := by rfl) : PE X (.Call (.Name x p) (e :: es) [] pos) (tMake C sp dvs E0 t) := by
  obtain ⟨f, fd, ds, h1, h2, h3, h4, h5⟩ := D.ex
  exact pe_make h2 h5 (hr.mono hk) hg h1 h3 h4 pass0 ha hdb he hpl
theorem pe_makeN0 (D : MkOk X.prog X.w X.K X.mg X.base k x C ps dvs sp) (hr : Room j X.A) (hk : k + 1 ≤ j := by decide) (hg : Gl X x := by rfl) (hdb : (x == ("__debug__" : Str)) = false := by decide) : PE X (.Call (.Name x p) [] [] pos) (tMake C sp dvs E0 tNil) := by
  obtain ⟨f, fd, ds, h1, h2, h3, h4, h5⟩ := D.ex
  exact pe_make0 h2 h5 (hr.mono hk) hg h1 h3 h4 pass0 hdb
theorem pe_methN {pl : Sem Bool} (D : MethOk X.prog X.w X.K X.mg X.base CX0 k C m ps dvs sp) (ho : PE X o ta) (hr : Room j X.A) (ha : PA X (e :: es) t) (hk : k ≤ j := by decide)
    (hst : starEach (e :: es) X.env = (false, eval e X.env) :: starEach es X.env := by rfl) (hpl : (backTo pos (starEach es X.env)).any (·.1) = false := by rfl)
    (ht : eval (.Call (.Attribute o m apos) (e :: es) [] pos) X.env = (do
      let ov ← eval o X.env
      standAt apos.atName
      let (f, first) ← holding [ov] (getMethod ov m pl)
      callWith pos f first (backTo pos (starEach (e :: es) X.env)) (backToKw pos (keywordEach [] X.env))) := by rfl) :
    PE X (.Call (.Attribute o m apos) (e :: es) [] pos) (tMeth C m sp dvs E0 ta t) := by
  obtain ⟨f, fd, ds, h1, h2, h3, h4⟩ := D.ex
  exact pe_meth ho D.cls h1 h4 (hr.mono hk) h2 h3 pass0 ha hst hpl ht
theorem pe_methN0 {pl : Sem Bool} (D : MethOk X.prog X.w X.K X.mg X.base CX0 k C m ps dvs sp) (ho : PE X o ta) (hr : Room j X.A) (hk : k ≤ j := by decide)
    (ht : eval (.Call (.Attribute o m apos) [] [] pos) X.env = (do
      let ov ← eval o X.env
      standAt apos.atName
      let (f, first) ← holding [ov] (getMethod ov m pl)
      callWith pos f first (backTo pos (starEach [] X.env)) (backToKw pos (keywordEach [] X.env))) := by rfl) :
    PE X (.Call (.Attribute o m apos) [] [] pos) (tMeth C m sp dvs E0 ta tNil) := by
  obtain ⟨f, fd, ds, h1, h2, h3, h4⟩ := D.ex
  exact pe_meth0 ho D.cls h1 h4 (hr.mono hk) h2 h3 pass0 ht
theorem pe_callNX (D : DefOkX X.prog X.w X.K X.mg X.base k x ps sp) (hr : Room j X.A) (tk : Takes X W)
    (ha : PA X (e :: es) t) (hk : k ≤ j := by decide) (hg : Gl X x := by rfl) (hdb : (x == ("__debug__" : Str)) = false := by decide) (he : starEach (e :: es) X.env = (false, eval e X.env) :: starEach es X.env := by rfl) (hpl : (backTo pos (starEach es X.env)).any (·.1) = false := by rfl) :
    PE X (.Call (.Name x p) (e :: es) [] pos) (tCallS sp (WE W) t) := by
  obtain ⟨f, fd, h1, h2, h3, h5⟩ := D.ex
  exact pe_callS h5 (hr.mono hk) hg h1 h2 h3 (fun σ => passAt tk σ) ha hdb he hpl
theorem pe_methNX {pl : Sem Bool} (D : MethOk X.prog X.w X.K X.mg X.base (L2.CX X.prog X.w) k C m ps [] sp) (ho : PE X o ta) (hr : Room j X.A) (tk : Takes X W) (ha : PA X (e :: es) t) (hk : k ≤ j := by decide)
    (hst : starEach (e :: es) X.env = (false, eval e X.env) :: starEach es X.env := by rfl) (hpl : (backTo pos (starEach es X.env)).any (·.1) = false := by rfl)
    (ht : eval (.Call (.Attribute o m apos) (e :: es) [] pos) X.env = (do
      let ov ← eval o X.env
      standAt apos.atName
      let (f, first) ← holding [ov] (getMethod ov m pl)
      callWith pos f first (backTo pos (starEach (e :: es) X.env)) (backToKw pos (keywordEach [] X.env))) := by rfl) :
    PE X (.Call (.Attribute o m apos) (e :: es) [] pos) (tMethS C m sp (WE W) ta t) := by
  obtain ⟨f, fd, ds, hm, hb, hd, F⟩ := D.ex
  cases hd
  refine ⟨fun pins s σ H Q I h => ?_⟩
  refine PySem.W.methodCall_KW (pl := pl) (thn (ho.run pins s σ H _ I h) fun u s1 ⟨x, H1, I1, rx, a, dx, fs, ex, ea, l, q⟩ => ?_) ht
  subst ex
  obtain rfl : u = Value.ref a := rx
  refine getmeth_ok I1 ea D.cls hm l ?_
  refine PySem.W.callWith_K (first := [.ref a]) (h₀ := X.base) I.ok.mod.kin hm.kp (thn (ha.run pos pins s1 σ H1 _ I1 q) fun us s2 ⟨vs, H2, I2, r, q2⟩ => ⟨I2.kIn, ?_⟩) hst hpl
  exact run_fnS (us := .ref a :: us) (vs := .ref a :: vs) (E := WE W) F (hr.mono hk) hb (passAt tk σ) I2 (.cons rfl r) q2
/-! ### own errors -/
/-- AccessError.__init__(self, ..), the base's own maker reached through a class of the program -/
theorem pe_baseinit (K : PySem.W.Frag) {B : Addr} {pl : Sem Bool} (hm : X.mg x = some (.ref B)) (rd : PySem.W.readsIn K B (.type "type") = true) (ga : PySem.W.specialIn K (.ref B) "__getattribute__" = some (some (.builtin "type.__getattribute__")))
    (vV : PySem.W.findCls K (.ref B) (.type "type") "__init__" = some (.val (.builtin "ValueError.__init__"))) (ha : PA X (e :: es) t) (hg : Gl X x := by rfl) (hdb : (x == ("__debug__" : Str)) = false := by decide) (hK : X.K = K := by rfl)
    (hc : eval (.Call (.Attribute (.Name x p) "__init__" apos) (e :: es) [] pos) X.env = (do
      let ov ← eval (.Name x p) X.env
      standAt apos.atName
      let (f, first) ← holding [ov] (getMethod ov "__init__" pl)
      callWith pos f first (backTo pos (starEach (e :: es) X.env)) (backToKw pos (keywordEach [] X.env))) := by rfl)
    (he : starEach (e :: es) X.env = (false, eval e X.env) :: starEach es X.env := by rfl) (hpl : (backTo pos (starEach es X.env)).any (·.1) = false := by rfl) :
    PE X (.Call (.Attribute (.Name x p) "__init__" apos) (e :: es) [] pos) (tVeI K t) := by
  subst hK
  refine ⟨fun pins s σ H Q I h => ?_⟩
  refine PySem.W.methodCall_KW (ld_glob I hg hm ?_ hdb) hc
  refine PySem.W.method_cls I.kIn ga (PySem.W.cls_value I.kIn rd vV (by decide +kernel) ?_)
  show wpAny _ _ (callWith pos (Value.builtin "ValueError.__init__") [] (backTo pos (starEach (e :: es) X.env)) []) _ _ _
  refine PyProof.Rows.callWith_method1 (thn (ha.run pos pins _ σ H _ (I.tok _) h) fun us s1 ⟨vs, H1, I1, r1, a, C, ws, ev, hl, T, ea, q⟩ => ?_) he hpl
  subst ev
  cases r1 with
  | @cons _ u0 _ ur ra rw' =>
    obtain rfl : u0 = Value.ref a := ra
    have hlen : ur.length ≤ sizeLine := by
      have := Paired.length rw'
      rw [sizeLine_eq]
      omega
    exact oinit_ok T I1 ea hlen fun s' J => ⟨.non, H1, J, rfl, q⟩
end
end My
namespace My
open PySem PySem.Spec PyProof.Rows L2 Evl
/-! ### facts of error classes, read off the top by a Bool -/
def eCls (K : PySem.W.Frag) (C : Addr) : Bool := match K.lookup C with
  | some o => (match o.cls, o.data with
    | .type ty, .cls cd => (match cd.mro, o.slots.toList with
      | .ref D :: bm, [_, _, _, _, some (.builtin n), _] => decide (ty = "type") && (decide (D = C) && (decide (n = "ValueError.__new__") && (!cd.hasDel && (cd.hasDict && PySem.HandSPX.refsVE bm))))
      | _, _ => false)
    | _, _ => false)
  | none => false
theorem eCls_ok {K : PySem.W.Frag} {C : Addr} (h : eCls K C = true) :
    ∃ nm q N bs bm sn sub ab col dd k0 k1 k2 k3 k5, K.lookup C = some (excClassObj nm q C N bs bm true sn sub ab col dd k0 k1 k2 k3 k5 "ValueError.__new__") ∧ PySem.HandSPX.refsVE bm = true := by
  unfold eCls at h
  split at h
  · rename_i o ho
    split at h
    · rename_i ty cd hc hd
      split at h
      · rename_i D bm k0 k1 k2 k3 n k5 hm hs
        simp only [Bool.and_eq_true, decide_eq_true_eq, Bool.not_eq_true'] at h
        obtain ⟨rfl, rfl, rfl, h4, h5, h6⟩ := h
        obtain ⟨oc, od, dt, sl⟩ := o
        obtain ⟨nm, bs, mro, N, q, hdct, sn, sub, ab, col, del⟩ := cd
        dsimp only at hc hd hm hs h4 h5
        subst hc hd hm h4 h5
        have e : sl = #[k0, k1, k2, k3, some (.builtin "ValueError.__new__"), k5] := by
          rw [← hs, Array.toArray_toList]
        subst e
        exact ⟨nm, q, N, bs, bm, sn, sub, ab, col, od, k0, k1, k2, k3, k5, ho, h6⟩
      · cases h
    · cases h
  · cases h
inductive Fx where
  | oex (x : Str)
  | base (x : Str)
  | xf (x : Str)
  | kit (x c : Str) (b : Bool)
  | kitT (x : Str) (n : String) (b : Bool)
def Fx.ok (K : PySem.W.Frag) : Fx → Bool
  | .oex x => eCls K (He.ga K x) && (decide (PySem.W.findIn K (.ref (He.ga K x)) "__setattr__" = some (some (.builtin "object.__setattr__"))) && (decide (PySem.W.subIn K (.ref (He.ga K x)) (.type "BaseException") = some true) &&
      (decide (PySem.W.typeIn K (.ref (He.ga K x)) = some (.type "type")) && (PySem.W.keepIn K (.ref (He.ga K x)) && (decide (PySem.W.findIn K (.ref (He.ga K x)) "__init__" = some (some (.ref (He.ma K (He.ga K x) "__init__")))) &&
      decide (PySem.W.typeIn K (.ref (He.ma K (He.ga K x) "__init__")) = some (.type "function")))))))
  | .base x => PySem.W.readsIn K (He.ga K x) (.type "type") && (decide (PySem.W.specialIn K (.ref (He.ga K x)) "__getattribute__" = some (some (.builtin "type.__getattribute__"))) && (match PySem.W.findCls K (.ref (He.ga K x)) (.type "type") "__init__" with
    | some (.val (.builtin n)) => decide (n = "ValueError.__init__")
    | _ => false))
  | .xf x => xfB K (He.ga K x) && (decide (PySem.W.findIn K (.ref (He.ga K x)) "__class__" = some (some (.builtin "object.__class__"))) && (decide (PySem.W.specialIn K (.builtin "object.__class__") "__get__" = some (some (.builtin "getset_descriptor.__get__"))) &&
      (decide (PySem.W.takesIn K (.builtin "object.__class__") = some true) && decide (PySem.W.mroIn K (He.ga K x) (.type "object") = some true))))
  | .kit x c b => decide (PySem.W.kitOne K (.ref (He.ga K x)) (.ref (He.ga K c)) = some b)
  | .kitT x n b => decide (PySem.W.kitOne K (.ref (He.ga K x)) (.type n) = some b)
section
variable {K : PySem.W.Frag}
theorem oex_ok {x : Str} (h : (Fx.oex x).ok K = true) : OexC K (He.ga K x) ∧ PySem.W.findIn K (.ref (He.ga K x)) "__init__" = some (some (.ref (He.ma K (He.ga K x) "__init__"))) ∧ PySem.W.typeIn K (.ref (He.ma K (He.ga K x) "__init__")) = some (.type "function") := by
  obtain ⟨h1, h⟩ := He.ba h
  obtain ⟨h2, h⟩ := He.ba h
  obtain ⟨h3, h⟩ := He.ba h
  obtain ⟨h4, h⟩ := He.ba h
  obtain ⟨h5, h⟩ := He.ba h
  obtain ⟨h6, h7⟩ := He.ba h
  exact ⟨⟨eCls_ok h1, of_decide_eq_true h2, of_decide_eq_true h3, of_decide_eq_true h4, h5⟩, of_decide_eq_true h6, of_decide_eq_true h7⟩
theorem base_ok {x : Str} (h : (Fx.base x).ok K = true) : PySem.W.readsIn K (He.ga K x) (.type "type") = true ∧ PySem.W.specialIn K (.ref (He.ga K x)) "__getattribute__" = some (some (.builtin "type.__getattribute__")) ∧
    PySem.W.findCls K (.ref (He.ga K x)) (.type "type") "__init__" = some (.val (.builtin "ValueError.__init__")) := by
  obtain ⟨h1, h⟩ := He.ba h
  obtain ⟨h2, h3⟩ := He.ba h
  refine ⟨h1, of_decide_eq_true h2, ?_⟩
  split at h3
  · rename_i n hn
    rw [hn, of_decide_eq_true h3]
  · cases h3
structure XcC (K : PySem.W.Frag) (C : Addr) : Prop where
  x : XfC K C
  c : PySem.W.findIn K (.ref C) "__class__" = some (some (.builtin "object.__class__"))
  n : PySem.W.specialIn K (.builtin "object.__class__") "__get__" = some (some (.builtin "getset_descriptor.__get__"))
  t : PySem.W.takesIn K (.builtin "object.__class__") = some true
  m : PySem.W.mroIn K C (.type "object") = some true
theorem xf_ok {x : Str} (h : (Fx.xf x).ok K = true) : XcC K (He.ga K x) := by
  obtain ⟨h1, h⟩ := He.ba h
  obtain ⟨h2, h⟩ := He.ba h
  obtain ⟨h3, h⟩ := He.ba h
  obtain ⟨h4, h5⟩ := He.ba h
  exact ⟨xfB_ok h1, of_decide_eq_true h2, of_decide_eq_true h3, of_decide_eq_true h4, of_decide_eq_true h5⟩
end
/-- isinstance(e, c), isinstance(e, (c, ..)) of the error that the suite holds -/
def rIsX (K : PySem.W.Frag) (D a : Addr) (cls : Value) (d : Option Addr) : List V → Hp → VK → Prop := fun xs H Q => cls = .ref D ∧ (∃ dd fs, d = some dd ∧ H dd = some (.xd fs)) ∧
  ((∃ (c : V) (cv : Value) (b : Bool), xs = [.ref a, c] ∧ ClsV c cv ∧ PySem.W.kitOne K (.ref D) cv = some b ∧ Q (.bl b) H) ∨
    ∃ (tp : Addr) (cs : List V) (us : List Value) (b : Bool), xs = [.ref a, .ref tp] ∧ H tp = some (.tup cs) ∧ Paired ClsV cs us ∧ PySem.W.kitAny K (.ref D) us = some b ∧ Q (.bl b) H)
theorem call_isX {X : Cx} (K : PySem.W.Frag) {a D : Addr} {oe : Obj} {cls : Value} {d : Option Addr} {pn : List (Addr × Obj)} (C : XcC K D) (hz : Zc cls d oe) (hf : ∃ vs, oe.data = .fields vs) (hK : X.K = K := by rfl) :
    CallR (X.suite a ((a, oe) :: pn)) (.builtin "isinstance") (rIsX K D a cls d) := by
  subst hK
  intro pins s σ H xs us Q I r h
  obtain ⟨ec, ⟨dd, fs, ed, hdd⟩, h⟩ := h
  subst ec
  subst ed
  obtain ⟨hget, _⟩ := I.pin (a, oe) (List.mem_append.mpr (.inl List.mem_cons_self))
  obtain ⟨vs, hv⟩ := hf
  have hx : ObjOk X.prog X.w H s.heap dd (.xd fs) := I.hok dd _ hdd
  obtain ⟨mA, hns, _⟩ := hx
  obtain ⟨od, ho, _⟩ := lookIn_ns hns
  have J : PySem.W.InstAt s.heap a oe D (some od) := ⟨hget, hz.1, by unfold PySem.W.notCls; rw [hv] <;> rfl, by rw [hz.2]; exact ho⟩
  have hcl : (PySem.W.clsIn X.K D).isSome = true := by
    obtain ⟨cd, hc, _⟩ := PySem.W.any_some C.x.hdC
    rw [hc]
    rfl
  have Z := PySem.W.kitx_exc (x := a) (ox := oe) (od := some od) hcl C.x.ga C.x.gg C.x.exC C.c C.n C.t C.m
  rcases h with ⟨c, cv, b, rfl, hc, e, q⟩ | ⟨tp, cs, ws, b, rfl, hT, hc, e, q⟩
  · cases r with
    | cons rx rr =>
      cases rr with
      | cons rt rr =>
        cases rr
        cases rx
        have ec := hc.eq rt
        subst ec
        exact PySem.W.kia_one Z I.kIn J e (fun z => nomatch z) fun tk => ⟨.bl b, H, I.tok tk, rfl, q⟩
  · obtain ⟨u1, u2, rfl, r1, r2⟩ := vals2 r
    cases r1
    cases r2
    obtain ⟨_, its, rv, o, h1, h2, n, h3⟩ := (show ObjOk X.prog X.w H s.heap tp (.tup cs) from I.hok tp _ hT)
    have e3 := ClsV.all hc rv
    subst e3
    obtain ⟨oc, od2, dt, sl⟩ := o
    simp only at h2 h3
    subst h2 h3
    exact PySem.W.kia_tup Z I.kIn J h1 e (fun z => nomatch z) fun tk => ⟨.bl b, H, I.tok tk, rfl, q⟩
/-- e.f of the error that the suite holds -/
theorem pe_xfK {X : Cx} (K : PySem.W.Frag) {a C : Addr} {oe : Obj} {cls : Value} {d : Option Addr} {pn : List (Addr × Obj)} {e : Expr} {te : TE} {pos : Pos} {n : Str} (T : XcC K C) (hno : PySem.W.findIn K (.ref C) n = some none)
    (hz : Zc cls d oe) (hf : ∃ vs, oe.data = .fields vs) (he : PE (X.suite a ((a, oe) :: pn)) e te) (hK : X.K = K := by rfl) (hb : attributeBase e n X.env (eval e X.env) = eval e X.env := by rfl) :
    PE (X.suite a ((a, oe) :: pn)) (.Attribute e n pos) (tXf a cls d C n te) := by
  subst hK
  exact pe_xf T.x hno hz hf he hb
/-! ### an error with two, one fields: __init__, raise -/
/-- what a def wishes of an error of the class C with these fields -/
def RaiseR (C : Addr) (fs : List (Str × V)) (H : Hp) (E : XK) : Prop := ∀ d H', H d = none → Ex H H' → H' d = some (.xd fs) → E (.ref C) (some d) H'
theorem RaiseR.go {C : Addr} {fs : List (Str × V)} {H H1 : Hp} {E : XK} (k : RaiseR C fs H E) (e : Ex H H1) : RaiseR C fs H1 E := fun d H' hd e2 h => k d H' (fresh_back e hd) (e.trans e2) h
/-- __init__ of an error of the class C: its arguments' values are vs, its fields afterwards fs -/
def spXinit (K : PySem.W.Frag) (C : Addr) (ok : List V → Prop) (fs : List V → List (Str × V)) : Sp := fun vs H Q _ => ∃ (a : Addr) (ws : List V), vs = .ref a :: ws ∧ ok ws ∧ H a = some (exo a C none) ∧
  ∀ (d : Addr) (H' : Hp), H d = none → d ≠ a → H' a = some (exo a C (some d)) → H' d = some (exd d (fs ws)) → (∀ b o, b ≠ a → H b = some o → H' b = some o) → Q .non H'
structure XMkOk (P : Program) (w : World) (K : PySem.W.Frag) (mg : Str → Option Value) (base : Heap) (k : Nat) (x : Str) (C : Addr) (ps : List Str) (sp : Sp) : Prop where
  ex : ∃ (f : Addr) (fd : FuncData), mg x = some (.ref C) ∧ OexC K C ∧ PySem.W.findIn K (.ref C) "__init__" = some (some (.ref f)) ∧ PySem.W.typeIn K (.ref f) = some (.type "function") ∧ Binds K fd ps [] ∧ FnOk P w K mg base CX0 k f fd ps sp
theorem ps_raiseX {X : Cx} {W : WX} {e : Expr} {es : List Expr} {t : TA} {k j : Nat} {x : Str} {C : Addr} {ps : List Str} {sp : Sp} {p pos pos2 : Pos} (D : XMkOk X.prog X.w X.K X.mg X.base k x C ps sp) (hr : Room j X.A) (hc : X.calm = true) (tk : Takes X W) (ha : PA X (e :: es) t)
    (hk : k + 1 ≤ j := by decide) (hg : Gl X x := by rfl) (hdb : (x == ("__debug__" : Str)) = false := by decide) (he : starEach (e :: es) X.env = (false, eval e X.env) :: starEach es X.env := by rfl) (hpl : (backTo pos (starEach es X.env)).any (·.1) = false := by rfl) :
    PS X (.Raise (some (.Call (.Name x p) (e :: es) [] pos)) none pos2) (fun _ σ H => tMkO C sp [] t σ H fun cls d H' => W cls d σ H') := by
  obtain ⟨f, fd, h1, h2, h3, h4, h5, h6⟩ := D.ex
  exact ps_raise hc tk (pmk_oex h2 h3 h4 h6 (hr.mono hk) h5 .nil (fun _ _ _ _ _ _ _ h => h.elim) hg h1 ha hdb he hpl)
/-- what raising asks -/
theorem raise_ask {K : PySem.W.Frag} {C : Addr} {ok : List V → Prop} {fs : List V → List (Str × V)} {ta : TA} {σ : L2.St} {H : Hp} {Q : XK} {vs : List V} (ha : EvA ta σ H vs) (h0 : ok vs) (hl : vs.length ≤ 1000)
    (q : ∀ H1, Ex H H1 → RaiseR C (fs vs) H1 Q) : tMkO C (spXinit K C ok fs) [] ta σ H Q := ha H (Ex.refl H) _ fun H1 e1 => ⟨hl, fun a na => ⟨a, vs, by rw [List.append_nil], h0, upd_same, fun d H' nd da h1 h2 kp => ⟨rfl, d, fs vs, h1, h2, by
    rw [upd_ne da] at nd
    exact nd, by
    have nd' : H1 d = none := by
      rw [upd_ne da] at nd
      exact nd
    refine q H1 e1 d _ nd' (fun b o hb => ?_) upd_same
    have hba : b ≠ a := ne_of_none hb na
    have hbd : b ≠ d := ne_of_none hb nd'
    rw [upd_ne hbd, del_ne hba]
    exact kp b o hba (by rw [upd_ne hba]; exact hb)⟩⟩⟩
end My
namespace My
open PySem PySem.Spec PyProof.Rows L2 Evl
/-! ### the facts of a top with classes and errors -/
structure TxE (fa : List He.Fa) (fn : List He.DefD) (fx : List Fx) (K : PySem.W.Frag) (mg : Str → Option Value) : Prop where
  tx : Tx fa fn K mg
  more : (fx.all fun f => f.ok K) = true
theorem TxE.fx {fa : List He.Fa} {fn : List He.DefD} {fx : List Fx} {K : PySem.W.Frag} {mg : Str → Option Value} (T : TxE fa fn fx K mg) (i : Nat) {f : Fx} (h : fx[i]? = some f := by rfl) : f.ok K = true :=
  List.all_eq_true.mp T.more f (List.mem_of_getElem? h)
theorem TxE.mk' {fa : List He.Fa} {fn : List He.DefD} {fx : List Fx} {K : PySem.W.Frag} {w : World} {h h0 : Heap} {mg : Str → Option Value} (X : K.In h) (G : h.Ns mainGlobals mg) (c : He.SaysX fa fn [] [] (fun K => fx.all fun f => f.ok K) w h0 K) : TxE fa fn fx K mg :=
  ⟨Tx.mk' X G c.t.d, c.more⟩
/-- what the names reach in n steps and the statics (readsIn asks them), and the facts there -/
def farE (g : Addr → Option Obj) (n : Nat) : PySem.W.Frag := He.frG g (He.asD g n ++ [cStatics])
def lookE (n : Nat) (fa : List He.Fa) (fn : List He.DefD) (fx : List Fx) (g : Addr → Option Obj) : Bool × He.AlD := (fx.all fun f => f.ok (farE g n), He.obsD fa fn (farE g n))
def hookE (n : Nat) (fa : List He.Fa) (fn : List He.DefD) (fx : List Fx) : PySem.W.Hook where
  α := Bool × He.AlD
  obs := fun s => lookE n fa fn fx s.heap.get?
  val := fun _ => (true, He.valD fn)
  says := fun _ h => ∃ K : PySem.W.Frag, K.In h ∧ ((fx.all fun f => f.ok K) = true ∧ He.SaysD fa fn K)
  of := fun _ _ e => ⟨_, He.frG_in, congrArg (fun z : Bool × He.AlD => z.1) e, congrArg (fun z : Bool × He.AlD => z.2) e⟩
  keeps := fun _ _ _ ⟨K, hK, c⟩ k => ⟨K, PySem.W.Frag.In.keeps hK k, c⟩
theorem lookE_eq {n : Nat} {fa : List He.Fa} {fn : List He.DefD} {fx : List Fx} {g : Addr → Option Obj} {s : Shared} (h : ∀ a, g a = s.heap.get? a) : lookE n fa fn fx g = (hookE n fa fn fx).obs s := by
  have e : g = s.heap.get? := funext h
  subst e
  rfl
theorem TxE.of {fa : List He.Fa} {fn : List He.DefD} {fx : List Fx} {K : PySem.W.Frag} {h : Heap} {mg : Str → Option Value} (X : K.In h) (G : h.Ns mainGlobals mg) (c : (fx.all fun f => f.ok K) = true ∧ He.SaysD fa fn K) : TxE fa fn fx K mg := ⟨Tx.mk' X G c.2, c.1⟩
theorem MethOk.of {P : Program} {w : World} {K : PySem.W.Frag} {mg : Str → Option Value} {base : Heap} {CX : CXT} {k : Nat} {C : Addr} {m qual : Str} {ps : List Str} {sp : Sp} {st : Stmt} {fd : FuncData} {f : Addr} (F : FunD K m qual (defArgs st) (defBody st) (defScope st) [] [] f fd)
    (c : Cls K C) (hm : Meth K C m f) (b : Binds K fd ps []) (h : FnOk P w K mg base CX k f fd ps sp) : MethOk P w K mg base CX k C m ps [] sp := ⟨c, f, fd, [], hm, b, .nil, h⟩
theorem DefOkX.of {P : Program} {w : World} {K : PySem.W.Frag} {mg : Str → Option Value} {base : Heap} {k : Nat} {x : Str} {ps : List Str} {sp : Sp} {st : Stmt} {fd : FuncData} {f : Addr} (F : FunD K x x (defArgs st) (defBody st) (defScope st) [] [] f fd)
    (g : mg x = some (.ref f)) (b : Binds K fd ps []) (h : FnOk P w K mg base (L2.CX P w) k f fd ps sp) : DefOkX P w K mg base k x ps sp := ⟨f, fd, g, F.kp, b, h⟩
end My
namespace My
open PySem PySem.Spec PyProof.Rows L2 Evl
/-! ### a op b op c op d, as a test -/
def tChain3 (r r' r'' : R2) (ta tb tc td : TE) : TE := fun σ H Q => ta σ H fun x H1 => tb σ H1 fun y H2 => r x y H2 fun z H3 => ∃ k, z = .bl k ∧
  (if k = true then tc σ H3 fun u H4 => r' y u H4 fun z' H5 => ∃ k', z' = .bl k' ∧ (if k' = true then td σ H5 fun v H6 => r'' u v H6 Q else Q (.bl false) H5) else Q (.bl false) H3)
theorem pt_chain3 {X : Cx} {a b c d : Expr} {pos : Pos} {op op' op'' : CmpOp} {r r' r'' : R2} {ta tb tc td : TE} (ho : OpR X (compareOp op) r) (ho' : OpR X (compareOp op') r') (ho'' : OpR X (compareOp op'') r'') (ha : PE X a ta) (hb : PE X b tb) (hc : PE X c tc) (hd : PE X d td)
    (hm : lastMarks [op, op', op''] [b, c, d] = false := by with_unfolding_all rfl) : PT X (.Compare a [op, op', op''] [b, c, d] pos) (tTest (tChain3 r r' r'' ta tb tc td)) := by
  refine ⟨fun pins s σ H Q I h => isTrue_chain (thn (ha.run pins s σ H _ I h) fun v s1 g1 => ?_) hm⟩
  obtain ⟨x, H1, I1, r1, q1⟩ := g1
  refine test_link (thn (hb.run pins s1 σ H1 _ I1 q1) fun u s2 g2 => ?_)
  obtain ⟨y, H2, I2, r2, q2⟩ := g2
  refine thn (ho pins s2 σ H2 x y v u _ I2 r1 r2 q2) fun w s3 g3 => ?_
  obtain ⟨z, H3, I3, r3, k, rfl, q3⟩ := g3
  cases r3
  refine wpAny_truthy_bool ?_
  cases k with
  | false =>
    obtain ⟨k', e', q'⟩ := q3
    cases e'
    exact ite_ff ⟨H3, I3, q'⟩
  | true =>
    refine ite_tt (test_link (thn (hc.run pins s3 σ H3 _ I3 q3) fun u' s4 g4 => ?_))
    obtain ⟨y', H4, I4, r4, q4⟩ := g4
    refine thn (ho' pins s4 σ H4 y y' u u' _ I4 r2 r4 q4) fun w' s5 g5 => ?_
    obtain ⟨z', H5, I5, r5, k5, rfl, q5⟩ := g5
    cases r5
    refine wpAny_truthy_bool ?_
    cases k5 with
    | false =>
      obtain ⟨k', e', q'⟩ := q5
      cases e'
      exact ite_ff ⟨H5, I5, q'⟩
    | true =>
      refine ite_tt (test_last (thn (hd.run pins s5 σ H5 _ I5 q5) fun u6 s6 g6 => ?_))
      obtain ⟨y6, H6, I6, r6, q6⟩ := g6
      refine thn (ho'' pins s6 σ H6 y' y6 u' u6 _ I6 r4 r6 q6) fun w7 s7 g7 => ?_
      obtain ⟨z7, H7, I7, r7, k7, rfl, q7⟩ := g7
      cases r7
      exact wpAny_truthy_bool ⟨H7, I7, q7⟩
section
variable {σ : L2.St} {H : Hp} {ta tb tc td : TE}
theorem et_chain3 {f g h : Int → Int → Bool} {i j k l : Int} (ha : Ev ta σ H (.int i)) (hb : Ev tb σ H (.int j)) (hc : Ev tc σ H (.int k)) (hd : Ev td σ H (.int l)) :
    EvT (tTest (tChain3 (rI0 fun i j => .bl (f i j)) (rI0 fun i j => .bl (g i j)) (rI0 fun i j => .bl (h i j)) ta tb tc td)) σ H (f i j && (g j k && h k l)) := fun H1 e1 Q q =>
  ha H1 e1 _ fun H2 e2 => hb H2 (e1.trans e2) _ fun H3 e3 => ⟨i, j, rfl, rfl, f i j, rfl, by
    revert q
    cases f i j with
    | false => exact fun q => iteF ⟨_, rfl, q H3 (e2.trans e3)⟩
    | true =>
      intro q
      refine iteT (hc H3 ((e1.trans e2).trans e3) _ fun H4 e4 => ⟨j, k, rfl, rfl, g j k, rfl, ?_⟩)
      revert q
      cases g j k with
      | false => exact fun q => iteF ⟨_, rfl, q H4 ((e2.trans e3).trans e4)⟩
      | true => exact fun q => iteT (hd H4 (((e1.trans e2).trans e3).trans e4) _ fun H5 e5 => ⟨k, l, rfl, rfl, _, rfl, q H5 (((e2.trans e3).trans e4).trans e5)⟩)⟩
theorem ev_chain {f g : Int → Int → Bool} {i j k : Int} (ha : Ev ta σ H (.int i)) (hb : Ev tb σ H (.int j)) (hc : Ev tc σ H (.int k)) :
    Ev (tChain (rI0 fun i j => .bl (f i j)) (rI0 fun i j => .bl (g i j)) ta tb tc) σ H (.bl (f i j && g j k)) := fun H1 e1 Q q =>
  ha H1 e1 _ fun H2 e2 => hb H2 (e1.trans e2) _ fun H3 e3 => ⟨i, j, rfl, rfl, f i j, rfl, by
    revert q
    cases f i j with
    | false => exact fun q => iteF (q H3 (e2.trans e3))
    | true => exact fun q => iteT (hc H3 ((e1.trans e2).trans e3) _ fun H4 e4 => ⟨j, k, rfl, rfl, q H4 ((e2.trans e3).trans e4)⟩)⟩
end
end My
namespace My
open PySem PySem.Spec PyProof.Rows L2 Evl
/-! ### f-strings -/
theorem str_len_app (a b : Str) : (a ++ b).length = a.length + b.length := by
  show (a.cps ++ b.cps).size = a.cps.size + b.cps.size
  exact Array.size_append
section
variable {σ : L2.St} {H : Hp} {t te : TE} {ts : List TE} {acc y out : Str}
def EvJ (ts : List TE) (acc : Str) (σ : L2.St) (H : Hp) (out : Str) : Prop := ∀ H1, Ex H H1 → ∀ Q : Str → Hp → Prop, (∀ H2, Ex H1 H2 → Q out H2) → tJs ts acc σ H1 Q
theorem ej_nil : EvJ [] acc σ H acc := fun H1 _ Q q => q H1 (Ex.refl H1)
theorem ej_cons (h : Ev t σ H (.str y)) (r : EvJ ts (acc ++ y) σ H out) (hl : (acc ++ y).length ≤ sizeLine) : EvJ (t :: ts) acc σ H out := fun H1 e Q q =>
  h H1 e _ fun H2 e2 => ⟨y, rfl, hl, r H2 (e.trans e2) Q fun H3 e3 => q H3 (e2.trans e3)⟩
theorem ev_joined (h : EvJ ts Str.empty σ H out) : Ev (fun σ H Q => tJs ts Str.empty σ H fun out H1 => Q (.str out) H1) σ H (.str out) := fun H1 e Q q => h H1 e _ q
def small (i : Int) : Prop := i.natAbs < 2 ^ 1000
theorem log_ok {i : Int} (h : small i) : i.natAbs.log2 < 1920 := Nat.lt_of_lt_of_le (PySem.Flt.log2_lt_of (by decide) h) (by decide)
theorem fmt_int {i : Int} (h : Ev te σ H (.int i)) (hs : small i) : Ev (tFmt te) σ H (.str (toString i)) := fun H1 e Q q => h H1 e _ fun H2 e2 => .inr ⟨i, rfl, log_ok hs, q H2 e2⟩
theorem fmt_str {x : Str} (h : Ev te σ H (.str x)) (hs : x.length ≤ 10000) : Ev (tFmt te) σ H (.str x) := fun H1 e Q q => h H1 e _ fun H2 e2 => .inl ⟨x, rfl, sz_of (by omega), q H2 e2⟩
theorem small_len {i : Int} (h : small i) : (Str.ofString (toString i)).length ≤ 1921 := int_text_len_1921 (log_ok h)
theorem small_of {i : Int} (h1 : -(2 ^ 62) ≤ i) (h2 : i ≤ 2 ^ 62) : small i := by
  have : i.natAbs ≤ 2 ^ 62 := by omega
  exact Nat.lt_of_le_of_lt this (by decide)
end
/-- an error's two fields, stored by its __init__ -/
theorem ost_first {K : PySem.W.Frag} {f : Str} {to te : TE} {σ : L2.St} {H : Hp} {D : Ends} {tz : TS} {a C : Addr} {y : V} (he : Ev te σ H y) (ho : Ev to σ H (.ref a)) (T : OexC K C) (hn : PySem.W.findIn K (.ref C) f = some none) (ha : H a = some (exo a C none))
    (k : ∀ dx H1, Ex H H1 → H1 dx = none → dx ≠ a → tz D σ (upd (upd H1 dx (exd dx [(f, y)])) a (exo a C (some dx)))) : tSeq (tOst K f to te) tz D σ H := he H (Ex.refl H) _ fun H1 e1 => ho H1 e1 _ fun H2 e2 =>
  ⟨a, C, rfl, T, hn, .inl ⟨e2 _ _ (e1 _ _ ha), fun dx n ne => k dx H2 (e1.trans e2) n ne⟩⟩
theorem ost_last {K : PySem.W.Frag} {f : Str} {to te : TE} {σ : L2.St} {H : Hp} {D : Ends} {a C dx : Addr} {fs : List (Str × V)} {y : V} (he : Ev te σ H y) (ho : Ev to σ H (.ref a)) (T : OexC K C) (hn : PySem.W.findIn K (.ref C) f = some none) (ha : H a = some (exo a C (some dx))) (hd : H dx = some (exd dx fs)) (hl : fs.length ≤ 900)
    (k : ∀ H1, Ex H H1 → D.nx σ (upd H1 dx (exd dx ((f, y) :: fs)))) : tOst K f to te D σ H := he H (Ex.refl H) _ fun H1 e1 => ho H1 e1 _ fun H2 e2 =>
  ⟨a, C, rfl, T, hn, .inr ⟨dx, fs, e2 _ _ (e1 _ _ ha), e2 _ _ (e1 _ _ hd), hl, k H2 (e1.trans e2)⟩⟩
end My

namespace My
open PySem PySem.Spec PyProof.Rows L2 Evl
/-! ### fields of own instances, made by their class -/
theorem lk_hit {f : Str} {v : V} {r : List (Str × V)} : ((f, v) :: r).lookup f = some v := by simp [List.lookup]
theorem lk_miss {f g : Str} {v : V} {r : List (Str × V)} (h : f ≠ g) : ((g, v) :: r).lookup f = r.lookup f := by
  have : (f == g) = false := beq_eq_false_iff_ne.mpr h
  simp [List.lookup, this]
theorem put_hit {f : Str} {v x : V} {r : List (Str × V)} : putF f v ((f, x) :: r) = (f, v) :: r := by simp [putF]
theorem put_miss {f g : Str} {v x : V} {r : List (Str × V)} (h : g ≠ f) : putF f v ((g, x) :: r) = (g, x) :: putF f v r := by
  show (if g = f then _ else _) = _
  rw [if_neg h]
section
variable {K : PySem.W.Frag} {σ : L2.St} {H H' : Hp} {ta tb te tx tv : TE} {t u : TT} {x y z v : V} {D : Ends} {tu tw tz : TS} {g : TG} {i j : Int} {b : Bool} {C a dx : Addr} {fs : List (Str × V)} {f : Str}
theorem ev_fld (h : Ev ta σ H (.ref a)) (ha : H a = some (.ins C dx fs)) (c : Cls K C) (n : NoAttr K C f) (l : fs.lookup f = some v) : Ev (tFld K ta f) σ H v := fun H1 e Q q => h H1 e _ fun H2 e2 =>
  ⟨a, C, dx, fs, v, rfl, (e.trans e2) _ _ ha, c, n, l, q H2 e2⟩
theorem q_fld (hv : Ev tv σ H y) (ho : Ev ta σ H (.ref a)) (ha : H a = some (.ins C dx fs)) (c : Cls K C) (n : NoAttr K C f) (l : fs.length < 1000) (k : ∀ H1, Ex H H1 → tz D σ (upd H1 a (.ins C dx (putF f y fs)))) : tSeq (sFld K ta tv f) tz D σ H :=
  hv H (Ex.refl H) _ fun H1 e1 => ho H1 e1 _ fun H2 e2 => ⟨a, C, dx, fs, rfl, (e1.trans e2) _ _ ha, c, n, l, k H2 (e1.trans e2)⟩
theorem s_fld (hv : Ev tv σ H y) (ho : Ev ta σ H (.ref a)) (ha : H a = some (.ins C dx fs)) (c : Cls K C) (n : NoAttr K C f) (l : fs.length < 1000) (k : ∀ H1, Ex H H1 → D.nx σ (upd H1 a (.ins C dx (putF f y fs)))) : sFld K ta tv f D σ H :=
  hv H (Ex.refl H) _ fun H1 e1 => ho H1 e1 _ fun H2 e2 => ⟨a, C, dx, fs, rfl, (e1.trans e2) _ _ ha, c, n, l, k H2 (e1.trans e2)⟩
/-- a value of some kind, told by a predicate of the heap -/
def EvP (te : TE) (σ : L2.St) (H : Hp) (P : V → Hp → Prop) : Prop := ∀ H1, Ex H H1 → ∀ Q : VK, (∀ v H2, Ex H1 H2 → P v H2 → Q v H2) → te σ H1 Q
theorem qp_fld {P : V → Hp → Prop} (hv : EvP tv σ H P) (ho : Ev ta σ H (.ref a)) (hP : ∀ v H1 H2, Ex H1 H2 → P v H1 → P v H2) (ha : H a = some (.ins C dx fs)) (c : Cls K C) (n : NoAttr K C f) (l : fs.length < 1000) (k : ∀ y H1, Ex H H1 → P y H1 → tz D σ (upd H1 a (.ins C dx (putF f y fs)))) : tSeq (sFld K ta tv f) tz D σ H :=
  hv H (Ex.refl H) _ fun y H1 e1 p => ho H1 e1 _ fun H2 e2 => ⟨a, C, dx, fs, rfl, (e1.trans e2) _ _ ha, c, n, l, k y H2 (e1.trans e2) (hP _ _ _ e2 p)⟩
theorem qu_fld {xs : List V} (hv : EvU tv σ H xs) (ho : Ev ta σ H (.ref a)) (ha : H a = some (.ins C dx fs)) (c : Cls K C) (n : NoAttr K C f) (l : fs.length < 1000) (k : ∀ p H1, H p = none → Ex H H1 → H1 p = some (.tup xs) → tz D σ (upd H1 a (.ins C dx (putF f (.ref p) fs)))) : tSeq (sFld K ta tv f) tz D σ H :=
  hv H (Ex.refl H) _ fun p H1 n1 e1 h1 => ho H1 e1 _ fun H2 e2 => ⟨a, C, dx, fs, rfl, (e1.trans e2) _ _ ha, c, n, l, k p H2 n1 (e1.trans e2) (e2 _ _ h1)⟩
theorem su_fld {xs : List V} (hv : EvU tv σ H xs) (ho : Ev ta σ H (.ref a)) (ha : H a = some (.ins C dx fs)) (c : Cls K C) (n : NoAttr K C f) (l : fs.length < 1000) (k : ∀ p H1, H p = none → Ex H H1 → H1 p = some (.tup xs) → D.nx σ (upd H1 a (.ins C dx (putF f (.ref p) fs)))) : sFld K ta tv f D σ H :=
  hv H (Ex.refl H) _ fun p H1 n1 e1 h1 => ho H1 e1 _ fun H2 e2 => ⟨a, C, dx, fs, rfl, (e1.trans e2) _ _ ha, c, n, l, k p H2 n1 (e1.trans e2) (e2 _ _ h1)⟩
/-- tuple(x), x a list or a tuple: a tuple -/
theorem evp_tup {l : Addr} {xs : List V} (h : Ev te σ H (.ref l)) (hs : SqL K H l xs ∨ SqT K H l xs) : EvP (tCB (rTupQ K) (tCons te tNil)) σ H fun v H2 => ∃ p, v = .ref p ∧ SqT K H2 p xs := fun H1 e Q q =>
  h H1 e _ fun H2 e2 => ⟨l, xs, rfl, by
    rcases hs with hs | hs
    · exact .inl ⟨ex_l (e.trans e2) hs, fun p hp => q _ _ (e2.trans (Ex.new hp)) ⟨p, rfl, st_of upd_same⟩⟩
    · exact .inr ⟨ex_t (e.trans e2) hs, q _ _ e2 ⟨l, rfl, ex_t (e.trans e2) hs⟩⟩⟩
/-- tuple(a new list), tuple(a list): a new tuple -/
theorem eu_tupN {xs : List V} (h : EvL te σ H xs) : EvU (tCB (rTupQ K) (tCons te tNil)) σ H xs := fun H1 e Q q =>
  h H1 e _ fun p H2 n e2 h2 => ⟨p, xs, rfl, .inl ⟨sq_of h2, fun l hl => q l _ (fresh_back e2 hl) (e2.trans (Ex.new hl)) upd_same⟩⟩
theorem eu_tupL {l : Addr} {xs : List V} (h : Ev te σ H (.ref l)) (hs : SqL K H l xs) : EvU (tCB (rTupQ K) (tCons te tNil)) σ H xs := fun H1 e Q q =>
  h H1 e _ fun H2 e2 => ⟨l, xs, rfl, .inl ⟨ex_l (e.trans e2) hs, fun p hp => q p _ (fresh_back e2 hp) (e2.trans (Ex.new hp)) upd_same⟩⟩
theorem ev_sumN {ns : List Int} {xs : List V} (h : EvL te σ H xs) (hx : xs = ns.map V.int) : Ev (tCB (rSum K) (tCons te tNil)) σ H (.int ns.sum) := fun H1 e Q q =>
  h H1 e _ fun p H2 n e2 h2 => ⟨p, ns, rfl, sq_of (hx ▸ h2), q H2 e2⟩
theorem sqt_keep {p : Addr} {o o2 : HO} {xs : List V} (hp : H p = some o2) (h1 : ∀ xs, o2 ≠ .tup xs) (h2 : ∀ c d, o2 ≠ .frz c d) (h : SqT K H a xs) : SqT K (upd H p o) a xs := by
  rcases h with (h | ⟨c, h⟩) | h
  · refine .inl (.inl ?_)
    rw [upd_ne]
    · exact h
    · intro z
      subst z
      rw [hp] at h
      exact h1 _ (Option.some.inj h)
  · refine .inl (.inr ⟨c, ?_⟩)
    rw [upd_ne]
    · exact h
    · intro z
      subst z
      rw [hp] at h
      exact h2 _ _ (Option.some.inj h)
  · exact .inr h
/-- for over reversed(a tuple), behind it a word B -/
theorem q_forRevT {xs : List V} (h : Ev te σ H (.ref a)) (hx : SqT K H a xs) (Pv : Nat → L2.St → Hp → Prop) (B : L2.St → Hp → Prop) (h0 : ∀ H1, Ex H H1 → Pv 0 σ H1) (hl : ∀ i σ' H', Pv i σ' H' → SqT K H' a xs)
    (hs : ∀ (i : Nat) x σ' H', i < xs.length → xs[xs.length - 1 - i]? = some x → Pv i σ' H' → g x σ' H' fun σ2 H2 => tu { D with nx := Pv (i + 1), ct := Pv (i + 1), bk := B } σ2 H2) (hd : ∀ σ' H', Pv xs.length σ' H' → B σ' H')
    (hb : ∀ σ' H', B σ' H' → tz D σ' H') : tCut (tFor (RT.iRevA K te) g tu) tz D σ H :=
  ⟨B, h H (Ex.refl H) _ fun H1 e => ⟨a, xs, rfl, .inr ⟨ex_t e hx, RT.for_ItvT Pv (h0 H1 e) hl hs hd⟩⟩, hb⟩
/-- a comprehension over zip of two tuples of one length -/
theorem el_lcZT {ta : TA} {a b : Addr} {xs ys : List V} {n m : Nat} {vs : List Nat} (v : Nat → V) (h : EvA ta σ H [.ref a, .ref b]) (hx : SqT K H a xs) (hy : SqT K H b ys) (hl : xs.length = ys.length) (hz : xs.length ≤ 40000)
    (hw : ∀ x y, wipe (((wipe σ vs).set n (some x)).set m (some y)) vs = wipe σ vs)
    (he : ∀ (i : Nat) (x y : V) H1, Ex H H1 → xs[i]? = some x → ys[i]? = some y → Ev te (((wipe σ vs).set n (some x)).set m (some y)) H1 (v i)) :
    EvL (tLc (RZ.iZipA K ta) (gTup K 2 (gCons (gName n) (gCons (gName m) gNil))) tYes te vs) σ H (given xs.length (fun _ => true) v) := fun H0 e Q q => h H0 e _ fun H1 e1 =>
  ⟨a, b, xs, ys, rfl, .inr ⟨ex_t (e.trans e1) hx, ex_t (e.trans e1) hy, fun Dl hD =>
    ⟨fun i k Hi => k = xs.length - i ∧ i ≤ xs.length ∧ Cw H1 (fun _ => true) v Dl i Hi, ⟨xs.length, rfl, Nat.zero_le _, hD, Ex.new hD, upd_same⟩, by
      rintro i k Hi ⟨rfl, hi, p⟩
      have qx := ex_t ((e.trans e1).trans p.2.1) hx
      have qy := ex_t ((e.trans e1).trans p.2.1) hy
      by_cases hlt : i < xs.length
      · have hlt2 : i < ys.length := by omega
        refine .inr ⟨⟨xs, ys, _, _, qx, qy, List.getElem?_eq_getElem hlt, List.getElem?_eq_getElem hlt2⟩, Cw H1 (fun _ => true) v Dl (i + 1), fun H' p' => ⟨xs.length - (i + 1), by omega, rfl, hlt, p'⟩, fun u Hu yy => ?_⟩
        obtain ⟨T, x', y', rfl, hT, rfl, f1, f2⟩ := yy
        have gx := f1 xs qx
        have gy := f2 ys qy
        have hTD : T ≠ Dl := fun z => by
          rw [z, p.2.2] at hT
          cases hT
        have p2 : Cw H1 (fun _ => true) v Dl i (upd Hi T (.tup [x', y'])) := ⟨p.1, p.2.1.trans (Ex.new hT), by rw [upd_ne hTD.symm]; exact p.2.2⟩
        exact ⟨T, [x', y'], rfl, st_of upd_same, rfl, x', [y'], rfl, y', [], rfl, rfl, hw _ _, cw_turn (t := tYes) p2 (by omega) (fun H3 e3 Q3 q3 => q3 H3 (Ex.refl H3)) fun _ => he i x' y' H1 (e.trans e1) gx gy⟩
      · have ei : i = xs.length := by omega
        subst ei
        exact .inl ⟨⟨xs, ys, qx, qy, .inl (Nat.le_refl _)⟩, q Dl Hi (fresh_back e1 p.1) (e1.trans p.2.1) p.2.2⟩⟩⟩⟩
end
end My
namespace My
open PySem PySem.Spec PyProof.Rows L2 Evl
section
variable {K : PySem.W.Frag} {σ : L2.St} {H H' : Hp} {ta tb te tx tv : TE} {t u : TT} {x y z v : V} {D : Ends} {tu tw tz : TS} {g : TG} {i j : Int} {b : Bool} {C a dx : Addr} {fs : List (Str × V)} {f : Str}
theorem takes0 {X : Cx} : Takes X (fun _ _ _ _ => False) := fun _ _ x => by
  obtain ⟨_, _, _, _, _, _, _, _, _, _, _, _, _, _, _, _, z⟩ := x
  exact z.elim
theorem given_all {zs : List V} {n : Nat} (hn : zs.length = n) : given n (fun _ => true) (fun i => zs.getD i .non) = zs := by
  subst hn
  unfold given
  rw [List.filter_eq_self.mpr (by simp)]
  refine List.ext_getElem? fun i => ?_
  rw [List.getElem?_map]
  by_cases h : i < zs.length
  · rw [List.getElem?_range h, List.getElem?_eq_getElem h]
    simp [List.getD, h]
  · rw [List.getElem?_eq_none (by simpa using h), List.getElem?_eq_none (by omega)]
    rfl
theorem getD_some {zs : List V} {i : Nat} {n : Nat} (hn : zs.length = n) (h : i < n) : zs[i]? = some (zs.getD i .non) := by
  subst hn
  rw [List.getElem?_eq_getElem h]
  simp [List.getD, h]
/-- a comprehension over zip of two tuples: its items are zs -/
theorem el_zipT {ta : TA} {a b : Addr} {xs ys zs : List V} {n m : Nat} {vs : List Nat} (h : EvA ta σ H [.ref a, .ref b]) (hx : SqT K H a xs) (hy : SqT K H b ys) (hl : xs.length = ys.length) (hzs : zs.length = xs.length) (hz : xs.length ≤ 40000)
    (hw : ∀ x y, wipe (((wipe σ vs).set n (some x)).set m (some y)) vs = wipe σ vs)
    (he : ∀ (i : Nat) (x y z : V) H1, Ex H H1 → xs[i]? = some x → ys[i]? = some y → zs[i]? = some z → Ev te (((wipe σ vs).set n (some x)).set m (some y)) H1 z) :
    EvL (tLc (RZ.iZipA K ta) (gTup K 2 (gCons (gName n) (gCons (gName m) gNil))) tYes te vs) σ H zs := by
  have q := el_lcZT (te := te) (fun i => zs.getD i .non) h hx hy hl hz hw fun i x y H1 e hx' hy' => he i x y _ H1 e hx' hy' (getD_some hzs (by
    have := (List.getElem?_eq_some_iff.mp hx').1
    omega))
  rwa [given_all hzs] at q
theorem et_yes : EvT tYes σ H true := fun H1 _ _ q => q H1 (Ex.refl H1)
/-- .. over a range, without a test -/
theorem el_rng {ta : TA} {j : Nat} {vs : List Nat} {n : Int} {zs : List V} (h : EvA ta σ H [.int n]) (hn : 0 ≤ n ∧ n ≤ 40000) (hzs : zs.length = n.toNat) (hw : ∀ x, wipe ((wipe σ vs).set j (some x)) vs = wipe σ vs)
    (he : ∀ (i : Nat) (z : V) H1, Ex H H1 → (i : Int) < n → zs[i]? = some z → Ev te ((wipe σ vs).set j (some (.int (i : Int)))) H1 z) :
    EvL (tLc (iRng1 ta) (gName j) tYes te vs) σ H zs := by
  have q := el_lcR1 (t := tYes) (te := te) (fun _ => true) (fun i => zs.getD i .non) h hn hw (fun i H1 _ _ => et_yes) fun i H1 e hi _ => he i _ H1 e hi (getD_some hzs (by omega))
  rwa [given_all hzs] at q
end
end My
namespace My
open PySem PySem.Spec PyProof.Rows L2 Evl
/-! ### methods; calls that may raise -/
section
variable {K : PySem.W.Frag} {σ : L2.St} {H H' : Hp} {ta tb te tx tv : TE} {t : TA} {x y z v : V} {D : Ends} {tu tw tz : TS} {C a dx : Addr} {fs : List (Str × V)} {m : Str} {sp : Sp} {E : XK} {ES : L2.St → XK} {vs : List V} {Q : VK} {d : PyData}
theorem cs_ask (ht : EvA t σ H vs) (k : ∀ H1, Ex H H1 → sp vs H1 Q (ES σ)) : tCallS sp ES t σ H Q := ht H (Ex.refl H) _ k
theorem ms_ask (ho : Ev ta σ H (.ref a)) (hi : H a = some (.ins C dx fs)) (hm : fs.lookup m = none) (ht : EvA t σ H vs) (k : ∀ H1, Ex H H1 → sp (.ref a :: vs) H1 Q (ES σ)) : tMethS C m sp ES ta t σ H Q := ho H (Ex.refl H) _ fun H1 e1 =>
  ⟨a, dx, fs, rfl, e1 _ _ hi, hm, ht H1 e1 _ fun H2 e2 => k H2 (e1.trans e2)⟩
theorem mm_ask (ho : Ev ta σ H (.ref a)) (hi : H a = some (.ins C dx fs)) (hm : fs.lookup m = none) (ht : EvA t σ H vs) (k : ∀ H1, Ex H H1 → sp (.ref a :: vs) H1 Q E) : tMeth C m sp [] E ta t σ H Q := ho H (Ex.refl H) _ fun H1 e1 =>
  ⟨a, dx, fs, rfl, e1 _ _ hi, hm, ht H1 e1 _ fun H2 e2 => by
    rw [List.append_nil]
    exact k H2 (e1.trans e2)⟩
theorem ev_callS (ht : EvA t σ H vs) (k : SpV sp vs H z) : Ev (tCallS sp ES t) σ H z := fun H1 e Q q => cs_ask (ht.mono e) fun H2 e2 => k H2 (e.trans e2) Q (fun H3 e3 => q H3 (e2.trans e3)) _
theorem ev_methS (ho : Ev ta σ H (.ref a)) (hi : H a = some (.ins C dx fs)) (hm : fs.lookup m = none) (ht : EvA t σ H vs) (k : SpV sp (.ref a :: vs) H z) : Ev (tMethS C m sp ES ta t) σ H z := fun H1 e Q q =>
  ms_ask (ho.mono e) (e _ _ hi) hm (ht.mono e) fun H2 e2 => k H2 (e.trans e2) Q (fun H3 e3 => q H3 (e2.trans e3)) _
theorem ev_meth (ho : Ev ta σ H (.ref a)) (hi : H a = some (.ins C dx fs)) (hm : fs.lookup m = none) (ht : EvA t σ H vs) (k : SpV sp (.ref a :: vs) H z) : Ev (tMeth C m sp [] E ta t) σ H z := fun H1 e Q q =>
  mm_ask (ho.mono e) (e _ _ hi) hm (ht.mono e) fun H2 e2 => k H2 (e.trans e2) Q (fun H3 e3 => q H3 (e2.trans e3)) _
/-- what a call gives is data -/
def SpVD (K : PySem.W.Frag) (sp : Sp) (vs : List V) (H : Hp) (d : PyData) : Prop := ∀ H1, Ex H H1 → ∀ Q : VK, RetD K d H1 Q → ∀ E : XK, sp vs H1 Q E
theorem evd_callV (ht : EvA t σ H vs) (k : SpVD K sp vs H d) : EvD K (tCall sp [] E t) σ H d := fun H1 e Q q => ht H1 e _ fun H2 e2 => by
  show sp (vs ++ []) H2 Q E
  rw [List.append_nil]
  exact k H2 (e.trans e2) Q (fun v H3 e3 hd => q v H3 (e2.trans e3) hd) E
theorem evd_methS (ho : Ev ta σ H (.ref a)) (hi : H a = some (.ins C dx fs)) (hm : fs.lookup m = none) (ht : EvA t σ H vs) (k : SpVD K sp (.ref a :: vs) H d) : EvD K (tMethS C m sp ES ta t) σ H d := fun H1 e Q q =>
  ms_ask (ho.mono e) (e _ _ hi) hm (ht.mono e) fun H2 e2 => k H2 (e.trans e2) Q (fun v H3 e3 hd => q v H3 (e2.trans e3) hd) _
theorem evd_meth (ho : Ev ta σ H (.ref a)) (hi : H a = some (.ins C dx fs)) (hm : fs.lookup m = none) (ht : EvA t σ H vs) (k : SpVD K sp (.ref a :: vs) H d) : EvD K (tMeth C m sp [] E ta t) σ H d := fun H1 e Q q =>
  mm_ask (ho.mono e) (e _ _ hi) hm (ht.mono e) fun H2 e2 => k H2 (e.trans e2) Q (fun v H3 e3 hd => q v H3 (e2.trans e3) hd) _
end
end My
namespace My
open PySem PySem.Spec PyProof.Rows L2 Evl
/-! ### isinstance of a caught error -/
section
variable {K : PySem.W.Frag} {σ : L2.St} {H H' : Hp} {te tx : TE} {ta : TA} {D a dd : Addr} {fs : List (Str × V)} {c v : V} {cv : Value} {b : Bool} {f : Str}
theorem ev_isX {tc : TE} (hx : Ev tx σ H (.ref a)) (hc : Ev tc σ H c) (hd : H dd = some (.xd fs)) (k : ClsV c cv) (hk : PySem.W.kitOne K (.ref D) cv = some b) : Ev (tCB (rIsX K D a (.ref D) (some dd)) (tCons tx (tCons tc tNil))) σ H (.bl b) := fun H1 e Q q =>
  hx H1 e _ fun H2 e2 => hc H2 (e.trans e2) _ fun H3 e3 => ⟨rfl, ⟨dd, fs, rfl, ((e.trans e2).trans e3) _ _ hd⟩, .inl ⟨c, cv, b, rfl, k, hk, q H3 (e2.trans e3)⟩⟩
theorem ev_isXT {cs : List V} {us : List Value} (hx : Ev tx σ H (.ref a)) (hc : EvA ta σ H cs) (hl : cs.length ≤ 100) (hd : H dd = some (.xd fs)) (k : Paired ClsV cs us) (hk : PySem.W.kitAny K (.ref D) us = some b) : Ev (tCB (rIsX K D a (.ref D) (some dd)) (tCons tx (tCons (tTup ta) tNil))) σ H (.bl b) := fun H1 e Q q =>
  hx H1 e _ fun H2 e2 => hc H2 (e.trans e2) _ fun H3 e3 => ⟨sz_of (by omega), fun p hp => by
    have E3 := (e2.trans e3).trans (Ex.new (o := .tup cs) hp)
    exact ⟨rfl, ⟨dd, fs, rfl, (e.trans E3) _ _ hd⟩, .inr ⟨p, cs, us, b, rfl, upd_same, k, hk, q _ E3⟩⟩⟩
theorem ev_xf (hx : Ev te σ H (.ref a)) (hd : H dd = some (.xd fs)) (hl : fs.lookup f = some v) : Ev (tXf a (.ref D) (some dd) D f te) σ H v := fun H1 e Q q =>
  hx H1 e _ fun H2 e2 => ⟨rfl, rfl, dd, fs, v, rfl, (e.trans e2) _ _ hd, hl, q H2 e2⟩
/-- an error class named by a def, its catch in a suite -/
theorem catch_as {C B : Addr} {i : Nat} {ts : Addr → Value → Option Addr → TS} {Wout : WX} {DD : Ends} (hx : PySem.W.exmOne K (.ref C) (.ref B) = some true)
    (k : ∀ d H', H d = none → Ex H H' → H' d = some (.xd fs) → ∀ a, H' a = none → ts a (.ref C) (some d) { nx := fun σ' H' => DD.nx (σ'.set i none) H', rt := DD.rt, bk := fun σ' H' => DD.bk (σ'.set i none) H', ct := fun σ' H' => DD.ct (σ'.set i none) H' } (σ.set i (some (.ref a))) H') :
    RaiseR C fs H (WE (wAs K (.ref B) i ts Wout DD) σ) := fun d H' n e h => ⟨true, hx, fun _ a na => k d H' n e h a na, fun z => nomatch z⟩
end
end My
namespace My
open PySem PySem.Spec PyProof.Rows L2 Evl
section
variable {K : PySem.W.Frag} {σ : L2.St} {H H' : Hp} {te tx : TE} {ta : TA} {a l : Addr} {v : V} {xs : List V} {ns : List Int}
theorem evd_Li (h : EvL te σ H (ns.map V.int)) : EvD K te σ H (.list (ns.map PyData.int)) := fun H1 e Q q => h H1 e _ fun p H2 _ e2 h2 => q _ H2 e2 (.lst (sq_of h2) (dpa_ints ns))
theorem evd_Ui (h : EvU te σ H (ns.map V.int)) : EvD K te σ H (.tuple (ns.map PyData.int)) := fun H1 e Q q => h H1 e _ fun p H2 _ e2 h2 => q _ H2 e2 (.tup (st_of h2) (dpa_ints ns))
theorem dp_tups {a : Addr} (h : SqT K H a (ns.map V.int)) : Dp K H (.ref a) (.tuple (ns.map PyData.int)) := .tup h (dpa_ints ns)
theorem el_listQ (ha : Ev te σ H (.ref a)) (h : SqL K H a xs) : EvL (tCB (rListQ K) (tCons te tNil)) σ H xs := fun H1 e Q q =>
  ha H1 e _ fun H2 e2 => ⟨a, xs, rfl, .inl (ex_l (e.trans e2) h), fun l hl => q l _ (fresh_back e2 hl) (e2.trans (Ex.new hl)) upd_same⟩
theorem dn_tups {n : Nat} (h : ns.length ≤ 40000) : Dn (n + 1) (.tuple (ns.map PyData.int)) := by
  simp only [Dn, List.length_map]
  refine ⟨h, fun d hd => ?_⟩
  obtain ⟨x, _, rfl⟩ := List.mem_map.mp hd
  simp [Dn]
theorem dn_lists {n : Nat} (h : ns.length ≤ 40000) : Dn (n + 1) (.list (ns.map PyData.int)) := by
  simp only [Dn, List.length_map]
  refine ⟨h, fun d hd => ?_⟩
  obtain ⟨x, _, rfl⟩ := List.mem_map.mp hd
  simp [Dn]
theorem dn_int {n : Nat} {i : Int} : Dn n (.int i) := by simp [Dn]
theorem sql_keep {p : Addr} {o o2 : HO} (hp : H p = some o2) (h1 : ∀ xs, o2 ≠ .lst xs) (h2 : ∀ c d, o2 ≠ .frz c d) (h : SqL K H a xs) : SqL K (upd H p o) a xs := by
  rcases h with (h | ⟨c, h⟩) | h
  · refine .inl (.inl ?_)
    rw [upd_ne]
    · exact h
    · intro z
      subst z
      rw [hp] at h
      exact h1 _ (Option.some.inj h)
  · refine .inl (.inr ⟨c, ?_⟩)
    rw [upd_ne]
    · exact h
    · intro z
      subst z
      rw [hp] at h
      exact h2 _ _ (Option.some.inj h)
  · exact .inr h
/-- a value that is a list or a tuple -/
theorem evp_var {i : Nat} {P : V → Hp → Prop} (h : σ[i]? = some (some v)) (p : ∀ H1, Ex H H1 → P v H1) : EvP (tVar i) σ H P := fun H1 e Q q => ev_var h H1 e _ fun H2 e2 => q _ H2 e2 (p H2 (e.trans e2))
theorem evp_U {P : V → Hp → Prop} (h : EvU te σ H xs) (p : ∀ l H1, H1 l = some (.tup xs) → P (.ref l) H1) : EvP te σ H P := fun H1 e Q q => h H1 e _ fun l H2 _ e2 h2 => q _ H2 e2 (p l H2 h2)
end
end My

namespace Mi
open PySem PySem.Spec PyProof.Rows L2 Evl My
/-! ### values and a store of one's own; what a piece of the program does to them -/
inductive D where
  | non | bl (b : Bool) | int (i : Int) | str (x : Str) | ref (l : Nat) | tup (xs : List D)
/-- what lies at a place of the store: a list, a list that is only read, a dict, an instance -/
inductive O where
  | lst (xs : List D) | rol (xs : List D) | dK (kvs : List (Key × D)) | dT (kvs : List (List Key × D)) | ins (C : Str) (fs : List (Str × D)) | set (f : Int → Bool) (n : Nat) | opq
abbrev Sto := List O
/-- what an expression ends with: a value, an error of an own class, nothing that is told -/
inductive R (α : Type) where
  | ok (a : α) (S : Sto) | exc (c : Str) (fs : List (Str × D)) (S : Sto) | bad
abbrev Env := List (Option D)
inductive RS where
  | nx (e : Env) (S : Sto) | ret (d : D) (S : Sto) | bk (e : Env) (S : Sto) | ct (e : Env) (S : Sto) | exc (c : Str) (fs : List (Str × D)) (e : Env) (S : Sto) | bad
def R.bind {α β : Type} (r : R α) (g : α → Sto → R β) : R β := match r with
  | .ok a S => g a S
  | .exc c fs S => .exc c fs S
  | .bad => .bad
def R.bindS {α : Type} (r : R α) (env : Env) (g : α → Sto → RS) : RS := match r with
  | .ok a S => g a S
  | .exc c fs S => .exc c fs env S
  | .bad => .bad
def RS.seq (r : RS) (g : Env → Sto → RS) : RS := match r with
  | .nx e S => g e S
  | r => r
@[simp] theorem R.bind_ok {α β : Type} {a : α} {S : Sto} {g : α → Sto → R β} : (R.ok a S).bind g = g a S := rfl
@[simp] theorem R.bind_exc {α β : Type} {c : Str} {fs : List (Str × D)} {S : Sto} {g : α → Sto → R β} : (R.exc c fs S).bind g = .exc c fs S := rfl
@[simp] theorem R.bind_bad {α β : Type} {g : α → Sto → R β} : (R.bad).bind g = .bad := rfl
@[simp] theorem R.bindS_ok {α : Type} {a : α} {S : Sto} {env : Env} {g : α → Sto → RS} : (R.ok a S).bindS env g = g a S := rfl
@[simp] theorem R.bindS_exc {α : Type} {c : Str} {fs : List (Str × D)} {S : Sto} {env : Env} {g : α → Sto → RS} : (R.exc c fs S).bindS env g = .exc c fs env S := rfl
@[simp] theorem R.bindS_bad {α : Type} {env : Env} {g : α → Sto → RS} : (R.bad).bindS env g = .bad := rfl
@[simp] theorem RS.seq_nx {e : Env} {S : Sto} {g : Env → Sto → RS} : (RS.nx e S).seq g = g e S := rfl
@[simp] theorem RS.seq_ret {d : D} {S : Sto} {g : Env → Sto → RS} : (RS.ret d S).seq g = .ret d S := rfl
@[simp] theorem RS.seq_bk {e : Env} {S : Sto} {g : Env → Sto → RS} : (RS.bk e S).seq g = .bk e S := rfl
@[simp] theorem RS.seq_ct {e : Env} {S : Sto} {g : Env → Sto → RS} : (RS.ct e S).seq g = .ct e S := rfl
@[simp] theorem RS.seq_exc {c : Str} {fs : List (Str × D)} {e : Env} {S : Sto} {g : Env → Sto → RS} : (RS.exc c fs e S).seq g = .exc c fs e S := rfl
@[simp] theorem RS.seq_bad {g : Env → Sto → RS} : (RS.bad).seq g = .bad := rfl
/-- what lies at a place -/
def at_ (S : Sto) (l : Nat) : Option O := S[l]?
/-- a list that may be read -/
def rdL (S : Sto) (l : Nat) : Option (List D) := match at_ S l with
  | some (.lst xs) => some xs
  | some (.rol xs) => some xs
  | _ => none
/-! ### what stands for what -/
section
variable (K : PySem.W.Frag) (φ : Nat → Addr) (n : Nat) (H : Hp)
mutual
inductive VR : D → V → Prop where
  | non : VR .non .non
  | bl (b : Bool) : VR (.bl b) (.bl b)
  | int (i : Int) : VR (.int i) (.int i)
  | str (x : Str) : VR (.str x) (.str x)
  | ref {l : Nat} (h : l < n) : VR (.ref l) (.ref (φ l))
  | tup {a : Addr} {xs : List D} {vs : List V} (h : SqT K H a vs) (t : VRs xs vs) : VR (.tup xs) (.ref a)
inductive VRs : List D → List V → Prop where
  | nil : VRs [] []
  | cons {x : D} {v : V} {xs : List D} {vs : List V} (h : VR x v) (t : VRs xs vs) : VRs (x :: xs) (v :: vs)
end
inductive KR {κ : Type} : List (κ × D) → List (κ × V) → Prop where
  | nil : KR [] []
  | cons {k : κ} {x : D} {v : V} {xs : List (κ × D)} {vs : List (κ × V)} (h : VR K φ n H x v) (t : KR xs vs) : KR ((k, x) :: xs) ((k, v) :: vs)
def OR (a : Addr) : O → Prop
  | .lst xs => ∃ vs, H a = some (.lst vs) ∧ VRs K φ n H xs vs
  | .rol xs => ∃ vs, ((∃ o, H a = some (.frz o (.lst vs))) ∨ ∀ H', SqL K H' a vs) ∧ VRs K φ n H xs vs
  | .dK kvs => ∃ kws, H a = some (.dK kws) ∧ KR K φ n H kvs kws
  | .dT kvs => ∃ kws, H a = some (.dT kws) ∧ KR K φ n H kvs kws
  | .ins C fs => ∃ dx fv, H a = some (.ins (He.ga K C) dx fv) ∧ KR K φ n H fs fv
  | .set f m => H a = some (.set f m)
  | .opq => True
end
def mutO : O → Bool
  | .rol _ => false
  | .opq => false
  | _ => true
structure Rel (K : PySem.W.Frag) (φ : Nat → Addr) (S : Sto) (H : Hp) : Prop where
  inj : ∀ i j o u, S[i]? = some o → S[j]? = some u → mutO o = true → mutO u = true → φ i = φ j → i = j
  ob : ∀ l o, S[l]? = some o → OR K φ S.length H (φ l) o
/-- what comes later -/
structure Fut (K : PySem.W.Frag) (φ : Nat → Addr) (n : Nat) (H : Hp) (φ' : Nat → Addr) (n' : Nat) (H' : Hp) : Prop where
  le : n ≤ n'
  ag : ∀ l, l < n → φ' l = φ l
  tp : ∀ a vs, SqT K H a vs → SqT K H' a vs
  xd : ∀ a fs, H a = some (.xd fs) → H' a = some (.xd fs)
section
variable {K : PySem.W.Frag} {φ φ1 φ2 φ' : Nat → Addr} {n n1 n2 n' : Nat} {H H1 H2 H' : Hp}
theorem Fut.refl : Fut K φ n H φ n H := ⟨Nat.le_refl _, fun _ _ => rfl, fun _ _ h => h, fun _ _ h => h⟩
theorem Fut.trans (a : Fut K φ n H φ1 n1 H1) (b : Fut K φ1 n1 H1 φ2 n2 H2) : Fut K φ n H φ2 n2 H2 :=
  ⟨Nat.le_trans a.le b.le, fun l h => (b.ag l (Nat.lt_of_lt_of_le h a.le)).trans (a.ag l h), fun c vs h => b.tp c vs (a.tp c vs h), fun c fs h => b.xd c fs (a.xd c fs h)⟩
theorem Fut.ex (e : Ex H H') : Fut K φ n H φ n H' := ⟨Nat.le_refl _, fun _ _ => rfl, fun _ _ h => ex_t e h, fun _ _ h => e _ _ h⟩
mutual
theorem VR.fut (f : Fut K φ n H φ' n' H') : ∀ {d : D} {v : V}, VR K φ n H d v → VR K φ' n' H' d v
  | _, _, .non => .non
  | _, _, .bl b => .bl b
  | _, _, .int i => .int i
  | _, _, .str x => .str x
  | _, _, .ref h => by rw [← f.ag _ h]; exact .ref (Nat.lt_of_lt_of_le h f.le)
  | _, _, .tup h t => .tup (f.tp _ _ h) (VRs.fut f t)
theorem VRs.fut (f : Fut K φ n H φ' n' H') : ∀ {d : List D} {v : List V}, VRs K φ n H d v → VRs K φ' n' H' d v
  | _, _, .nil => .nil
  | _, _, .cons h t => .cons (VR.fut f h) (VRs.fut f t)
end
theorem KR.fut {κ : Type} (f : Fut K φ n H φ' n' H') : ∀ {d : List (κ × D)} {v : List (κ × V)}, KR K φ n H d v → KR K φ' n' H' d v
  | _, _, .nil => .nil
  | _, _, .cons h t => .cons (VR.fut f h) (KR.fut f t)
theorem VRs.len : ∀ {d : List D} {v : List V}, VRs K φ n H d v → v.length = d.length
  | _, _, .nil => rfl
  | _, _, .cons _ t => congrArg Nat.succ (VRs.len t)
theorem VRs.app : ∀ {d e : List D} {v w : List V}, VRs K φ n H d v → VRs K φ n H e w → VRs K φ n H (d ++ e) (v ++ w)
  | _, _, _, _, .nil, h => h
  | _, _, _, _, .cons a t, h => .cons a (VRs.app t h)
theorem VRs.one {d : D} {v : V} (h : VR K φ n H d v) : VRs K φ n H [d] [v] := .cons h .nil
theorem VRs.get : ∀ {xs : List D} {vs : List V} {i : Nat} {x : D}, VRs K φ n H xs vs → xs[i]? = some x → ∃ v, vs[i]? = some v ∧ VR K φ n H x v
  | _, _, 0, _, .cons h _, e => ⟨_, rfl, by cases e; exact h⟩
  | _, _, i + 1, _, .cons _ t, e => VRs.get (i := i) t e
theorem VRs.take : ∀ {xs : List D} {vs : List V} (m : Nat), VRs K φ n H xs vs → VRs K φ n H (xs.take m) (vs.take m)
  | _, _, 0, _ => .nil
  | _, _, _ + 1, .nil => .nil
  | _, _, m + 1, .cons h t => .cons h (VRs.take m t)
theorem VRs.drop : ∀ {xs : List D} {vs : List V} (m : Nat), VRs K φ n H xs vs → VRs K φ n H (xs.drop m) (vs.drop m)
  | _, _, 0, h => h
  | _, _, _ + 1, .nil => .nil
  | _, _, m + 1, .cons _ t => VRs.drop m t
theorem VRs.set : ∀ {xs : List D} {vs : List V} {x : D} {v : V} (i : Nat), VRs K φ n H xs vs → VR K φ n H x v → VRs K φ n H (xs.set i x) (vs.set i v)
  | _, _, _, _, _, .nil, _ => .nil
  | _, _, _, _, 0, .cons _ t, h => .cons h t
  | _, _, _, _, i + 1, .cons h0 t, h => .cons h0 (VRs.set i t h)
theorem VRs.eraseIdx : ∀ {xs : List D} {vs : List V} (i : Nat), VRs K φ n H xs vs → VRs K φ n H (xs.eraseIdx i) (vs.eraseIdx i)
  | _, _, _, .nil => .nil
  | _, _, 0, .cons _ t => t
  | _, _, i + 1, .cons h0 t => .cons h0 (VRs.eraseIdx i t)
theorem VRs.dropLast : ∀ {xs : List D} {vs : List V}, VRs K φ n H xs vs → VRs K φ n H xs.dropLast vs.dropLast
  | _, _, .nil => .nil
  | _, _, .cons _ .nil => .nil
  | _, _, .cons h (.cons h2 t) => .cons h (VRs.dropLast (.cons h2 t))
theorem VRs.reverse {xs : List D} {vs : List V} (h : VRs K φ n H xs vs) : VRs K φ n H xs.reverse vs.reverse := by
  induction xs generalizing vs with
  | nil => cases h; exact .nil
  | cons x xs ih =>
    cases h with
    | cons h t =>
      rw [List.reverse_cons, List.reverse_cons]
      exact (ih t).app (.one h)
theorem VRs.repl {x : D} {v : V} (h : VR K φ n H x v) : ∀ m, VRs K φ n H (List.replicate m x) (List.replicate m v)
  | 0 => .nil
  | m + 1 => .cons h (VRs.repl h m)
theorem VRs.ints : ∀ ns : List Int, VRs K φ n H (ns.map D.int) (ns.map V.int)
  | [] => .nil
  | i :: r => .cons (.int i) (VRs.ints r)
theorem VRs.ints_inv : ∀ {ns : List Int} {vs : List V}, VRs K φ n H (ns.map D.int) vs → vs = ns.map V.int
  | [], _, .nil => rfl
  | i :: r, _, .cons h t => by
    cases h
    rw [VRs.ints_inv t]
    rfl
theorem VR.int_inv {i : Int} {v : V} (h : VR K φ n H (.int i) v) : v = .int i := by cases h; rfl
theorem VR.bl_inv {i : Bool} {v : V} (h : VR K φ n H (.bl i) v) : v = .bl i := by cases h; rfl
theorem VR.str_inv {i : Str} {v : V} (h : VR K φ n H (.str i) v) : v = .str i := by cases h; rfl
theorem VR.non_inv {v : V} (h : VR K φ n H .non v) : v = .non := by cases h; rfl
theorem VR.ref_inv {l : Nat} {v : V} (h : VR K φ n H (.ref l) v) : l < n ∧ v = .ref (φ l) := by cases h with | ref h => exact ⟨h, rfl⟩
theorem VR.tup_inv {xs : List D} {v : V} (h : VR K φ n H (.tup xs) v) : ∃ a vs, v = .ref a ∧ SqT K H a vs ∧ VRs K φ n H xs vs := by
  cases h with | tup h t => exact ⟨_, _, rfl, h, t⟩
/-! ### the store grows, changes -/
/-- what is written over, or is neither a tuple nor locked -/
def MHO : HO → Prop
  | .lst _ => True
  | .dK _ => True
  | .dT _ => True
  | .ins _ _ _ => True
  | .set _ _ => True
  | _ => False
theorem OR.mho {a : Addr} {o : O} (h : OR K φ n H a o) (m : mutO o = true) : ∃ u, H a = some u ∧ MHO u := by
  cases o with
  | lst xs => obtain ⟨vs, h, _⟩ := h; exact ⟨_, h, trivial⟩
  | rol xs => cases m
  | dK xs => obtain ⟨vs, h, _⟩ := h; exact ⟨_, h, trivial⟩
  | dT xs => obtain ⟨vs, h, _⟩ := h; exact ⟨_, h, trivial⟩
  | ins C fs => obtain ⟨dx, vs, h, _⟩ := h; exact ⟨_, h, trivial⟩
  | set f m => exact ⟨_, h, trivial⟩
  | opq => cases m
theorem sqt_upd {p a : Addr} {o u : HO} {xs : List V} (hp : H p = some u) (m : MHO u) (h : SqT K H a xs) : SqT K (upd H p o) a xs := by
  refine sqt_keep hp (fun xs z => ?_) (fun c d z => ?_) h
  · subst z; exact m
  · subst z; exact m
theorem Fut.upd {p : Addr} {o u : HO} (hp : H p = some u) (m : MHO u) : Fut K φ n H φ n (upd H p o) := ⟨Nat.le_refl _, fun _ _ => rfl, fun _ _ h => sqt_upd hp m h, fun a fs h => by
  rw [upd_ne]
  · exact h
  · intro z
    rw [z, hp] at h
    cases h
    exact m⟩
/-- the same object elsewhere in time -/
theorem OR.fut {a : Addr} {o : O} (f : Fut K φ n H φ' n' H') (h : OR K φ n H a o) (e : ∀ u, H a = some u → H' a = some u) : OR K φ' n' H' a o := by
  cases o with
  | lst xs => obtain ⟨vs, h, r⟩ := h; exact ⟨vs, e _ h, r.fut f⟩
  | rol xs =>
    obtain ⟨vs, h, r⟩ := h
    refine ⟨vs, ?_, r.fut f⟩
    rcases h with ⟨o, h⟩ | h
    · exact .inl ⟨o, e _ h⟩
    · exact .inr h
  | dK xs => obtain ⟨vs, h, r⟩ := h; exact ⟨vs, e _ h, r.fut f⟩
  | dT xs => obtain ⟨vs, h, r⟩ := h; exact ⟨vs, e _ h, r.fut f⟩
  | ins C fs => obtain ⟨dx, vs, h, r⟩ := h; exact ⟨dx, vs, e _ h, r.fut f⟩
  | set f m => exact e _ h
  | opq => trivial
theorem Rel.ex {S : Sto} (r : Rel K φ S H) (e : Ex H H') : Rel K φ S H' := ⟨r.inj, fun l o h => (r.ob l o h).fut (Fut.ex e) (fun u hu => e _ _ hu)⟩
theorem Rel.put {S : Sto} {l : Nat} {o o' : O} {u : HO} (r : Rel K φ S H) (hl : S[l]? = some o) (m : mutO o = true) (m' : mutO o' = true) (hn : OR K φ S.length (L2.upd H (φ l) u) (φ l) o') :
    Rel K φ (S.set l o') (L2.upd H (φ l) u) ∧ Fut K φ S.length H φ (S.set l o').length (L2.upd H (φ l) u) := by
  obtain ⟨w, hw, mw⟩ := (r.ob l o hl).mho m
  have f : Fut K φ S.length H φ S.length (L2.upd H (φ l) u) := Fut.upd hw mw
  have hlt := (List.getElem?_eq_some_iff.mp hl).1
  refine ⟨⟨fun i j oi oj hi hj mi mj e => ?_, fun i oi hi => ?_⟩, by rw [List.length_set]; exact f⟩
  · by_cases h1 : i = l <;> by_cases h2 : j = l
    · rw [h1, h2]
    · subst h1
      rw [List.getElem?_set_ne (by omega)] at hj
      exact r.inj i j o oj hl hj m mj e
    · subst h2
      rw [List.getElem?_set_ne (by omega)] at hi
      exact r.inj i j oi o hi hl mi m e
    · rw [List.getElem?_set_ne (by omega)] at hi hj
      exact r.inj i j oi oj hi hj mi mj e
  · rw [List.length_set]
    by_cases h1 : i = l
    · subst h1
      rw [List.getElem?_set_self hlt] at hi
      cases hi
      exact hn
    · rw [List.getElem?_set_ne (by omega)] at hi
      have hi' := r.ob i oi hi
      cases mi : mutO oi with
      | true =>
        refine hi'.fut f fun v hv => ?_
        rw [upd_ne]
        · exact hv
        · intro z
          exact h1 (r.inj i l oi o hi hl mi m z)
      | false =>
        cases oi with
        | rol xs =>
          obtain ⟨vs, h, q⟩ := hi'
          refine ⟨vs, ?_, q.fut f⟩
          rcases h with ⟨ob, h⟩ | h
          · refine .inl ⟨ob, ?_⟩
            rw [upd_ne]
            · exact h
            · intro z
              rw [z, hw] at h
              cases h
              exact mw
          · exact .inr h
        | opq => trivial
        | _ => cases mi
/-- the store's next place -/
def nxt (φ : Nat → Addr) (n : Nat) (p : Addr) : Nat → Addr := fun i => if i = n then p else φ i
theorem nxt_at {p : Addr} : nxt φ n p n = p := by simp [nxt]
theorem Fut.new {p : Addr} {u : HO} (hp : H p = none) : Fut K φ n H (nxt φ n p) (n + 1) (L2.upd H p u) :=
  ⟨Nat.le_succ _, fun l h => by simp [nxt, Nat.ne_of_lt h], fun _ _ h => ex_t (Ex.new hp) h, fun _ _ h => (Ex.new hp) _ _ h⟩
theorem Rel.new {S : Sto} {p : Addr} {o : O} {u : HO} (r : Rel K φ S H) (hp : H p = none) (hn : OR K (nxt φ S.length p) (S.length + 1) (L2.upd H p u) p o) :
    Rel K (nxt φ S.length p) (S ++ [o]) (L2.upd H p u) := by
  have f : Fut K φ S.length H (nxt φ S.length p) (S.length + 1) (L2.upd H p u) := Fut.new hp
  have old : ∀ i oi, (S ++ [o])[i]? = some oi → (i < S.length ∧ S[i]? = some oi) ∨ (i = S.length ∧ oi = o) := fun i oi h => by
    have h1 := (List.getElem?_eq_some_iff.mp h).1
    rw [List.length_append, List.length_singleton] at h1
    by_cases h2 : i < S.length
    · rw [List.getElem?_append_left h2] at h
      exact .inl ⟨h2, h⟩
    · have h3 : i = S.length := by omega
      subst h3
      rw [List.getElem?_append_right (Nat.le_refl _), Nat.sub_self] at h
      exact .inr ⟨rfl, (Option.some.inj h).symm⟩
  have ne : ∀ i oi, i < S.length → S[i]? = some oi → mutO oi = true → φ i ≠ p := fun i oi _ h m z => by
    obtain ⟨w, hw, _⟩ := (r.ob i oi h).mho m
    rw [z, hp] at hw
    cases hw
  refine ⟨fun i j oi oj hi hj mi mj e => ?_, fun i oi hi => ?_⟩
  · rcases old i oi hi with ⟨i1, i2⟩ | ⟨rfl, rfl⟩ <;> rcases old j oj hj with ⟨j1, j2⟩ | ⟨rfl, rfl⟩
    · rw [f.ag i i1, f.ag j j1] at e
      exact r.inj i j oi oj i2 j2 mi mj e
    · rw [f.ag i i1, nxt_at] at e
      exact absurd e (ne i oi i1 i2 mi)
    · rw [f.ag j j1, nxt_at] at e
      exact absurd e.symm (ne j oj j1 j2 mj)
    · rfl
  · rw [List.length_append, List.length_singleton]
    rcases old i oi hi with ⟨i1, i2⟩ | ⟨rfl, rfl⟩
    · rw [f.ag i i1]
      exact (r.ob i oi i2).fut f fun v hv => (Ex.new hp) _ _ hv
    · rw [nxt_at]
      exact hn
/-- something of which nothing is known -/
theorem Fut.newO {p : Addr} : Fut K φ n H (nxt φ n p) (n + 1) H := ⟨Nat.le_succ _, fun l h => by simp [nxt, Nat.ne_of_lt h], fun _ _ h => h, fun _ _ h => h⟩
theorem Rel.newO {S : Sto} (r : Rel K φ S H) (p : Addr) : Rel K (nxt φ S.length p) (S ++ [.opq]) H := by
  have old : ∀ i oi, (S ++ [O.opq])[i]? = some oi → (i < S.length ∧ S[i]? = some oi) ∨ oi = .opq := fun i oi h => by
    have h1 := (List.getElem?_eq_some_iff.mp h).1
    rw [List.length_append, List.length_singleton] at h1
    by_cases h2 : i < S.length
    · rw [List.getElem?_append_left h2] at h
      exact .inl ⟨h2, h⟩
    · have h3 : i = S.length := by omega
      subst h3
      rw [List.getElem?_append_right (Nat.le_refl _), Nat.sub_self] at h
      exact .inr (Option.some.inj h).symm
  have f : Fut K φ S.length H (nxt φ S.length p) (S.length + 1) H := Fut.newO
  refine ⟨fun i j oi oj hi hj mi mj e => ?_, fun i oi hi => ?_⟩
  · rcases old i oi hi with ⟨i1, i2⟩ | rfl
    · rcases old j oj hj with ⟨j1, j2⟩ | rfl
      · rw [f.ag i i1, f.ag j j1] at e
        exact r.inj i j oi oj i2 j2 mi mj e
      · cases mj
    · cases mi
  · rw [List.length_append, List.length_singleton]
    rcases old i oi hi with ⟨i1, i2⟩ | rfl
    · rw [f.ag i i1]
      exact (r.ob i oi i2).fut f fun v hv => hv
    · trivial
theorem at_lt {S : Sto} {l : Nat} {o : O} (h : at_ S l = some o) : l < S.length := (List.getElem?_eq_some_iff.mp h).1
theorem Rel.rd {S : Sto} {l : Nat} {xs : List D} (r : Rel K φ S H) (h : rdL S l = some xs) : ∃ vs, SqL K H (φ l) vs ∧ VRs K φ S.length H xs vs := by
  unfold rdL at h
  split at h
  · rename_i ys e
    cases h
    obtain ⟨vs, h1, h2⟩ := r.ob l _ e
    exact ⟨vs, sq_of h1, h2⟩
  · rename_i ys e
    cases h
    obtain ⟨vs, h1, h2⟩ := r.ob l _ e
    refine ⟨vs, ?_, h2⟩
    rcases h1 with ⟨o, h1⟩ | h1
    · exact .inl (.inr ⟨o, h1⟩)
    · exact h1 H
  · cases h
theorem rdL_lt {S : Sto} {l : Nat} {xs : List D} (h : rdL S l = some xs) : l < S.length := by
  unfold rdL at h
  split at h
  · rename_i e; exact at_lt e
  · rename_i e; exact at_lt e
  · cases h
end
/-! ### slots -/
inductive ER (K : PySem.W.Frag) (φ : Nat → Addr) (n : Nat) (H : Hp) : Env → L2.St → Prop where
  | nil : ER K φ n H [] []
  | none {o : Option V} {e : Env} {σ : L2.St} (t : ER K φ n H e σ) : ER K φ n H (.none :: e) (o :: σ)
  | some {d : D} {v : V} {e : Env} {σ : L2.St} (h : VR K φ n H d v) (t : ER K φ n H e σ) : ER K φ n H (.some d :: e) (.some v :: σ)
section
variable {K : PySem.W.Frag} {φ φ' : Nat → Addr} {n n' : Nat} {H H' : Hp}
theorem ER.fut (f : Fut K φ n H φ' n' H') : ∀ {e : Env} {σ : L2.St}, ER K φ n H e σ → ER K φ' n' H' e σ
  | _, _, .nil => .nil
  | _, _, .none t => .none (ER.fut f t)
  | _, _, .some h t => .some (h.fut f) (ER.fut f t)
theorem ER.get : ∀ {e : Env} {σ : L2.St} {i : Nat} {d : D}, ER K φ n H e σ → e[i]? = .some (.some d) → ∃ v, σ[i]? = .some (.some v) ∧ VR K φ n H d v
  | _, _, 0, _, .none _, h => by cases h
  | _, _, 0, _, .some h _, e => ⟨_, rfl, by cases e; exact h⟩
  | _, _, i + 1, _, .none t, h => ER.get (i := i) t h
  | _, _, i + 1, _, .some _ t, h => ER.get (i := i) t h
theorem ER.set : ∀ {e : Env} {σ : L2.St} {d : D} {v : V} (i : Nat), ER K φ n H e σ → VR K φ n H d v → ER K φ n H (e.set i (.some d)) (σ.set i (.some v))
  | _, _, _, _, _, .nil, _ => .nil
  | _, _, _, _, 0, .none t, h => .some h t
  | _, _, _, _, 0, .some _ t, h => .some h t
  | _, _, _, _, i + 1, .none t, h => .none (ER.set i t h)
  | _, _, _, _, i + 1, .some h0 t, h => .some h0 (ER.set i t h)
theorem ER.unset (o : Option V) : ∀ {e : Env} {σ : L2.St} (i : Nat), ER K φ n H e σ → ER K φ n H (e.set i .none) (σ.set i o)
  | _, _, _, .nil => .nil
  | _, _, 0, .none t => .none t
  | _, _, 0, .some _ t => .none t
  | _, _, i + 1, .none t => .none (ER.unset o i t)
  | _, _, i + 1, .some h0 t => .some h0 (ER.unset o i t)
def wipeE (e : Env) : List Nat → Env
  | [] => e
  | v :: vs => (wipeE e vs).set v .none
theorem ER.wipe {e : Env} {σ : L2.St} (h : ER K φ n H e σ) : ∀ vs : List Nat, ER K φ n H (wipeE e vs) (wipe σ vs)
  | [] => h
  | v :: vs => ER.unset Option.none v (ER.wipe h vs)
theorem ER.ofs : ∀ {ds : List D} {vs : List V} (m : Nat), VRs K φ n H ds vs → ER K φ n H (ds.map .some ++ List.replicate m .none) (vs.map .some ++ List.replicate m .none)
  | _, _, 0, .nil => .nil
  | _, _, m + 1, .nil => .none (ER.ofs m .nil)
  | _, _, m, .cons h t => .some h (ER.ofs m t)
end
/-- what is wished of an error, and what is known meanwhile -/
structure Wc (K : PySem.W.Frag) where
  wx : WX
  ctx : (Nat → Addr) → Nat → Hp → Prop
  mono : ∀ {φ n H φ' n' H'}, Fut K φ n H φ' n' H' → ctx φ n H → ctx φ' n' H'
instance {K : PySem.W.Frag} : CoeFun (Wc K) fun _ => WX := ⟨Wc.wx⟩
def W0 (K : PySem.W.Frag) : Wc K := ⟨fun _ _ _ _ => False, fun _ _ _ => True, fun _ h => h⟩
def WEx (K : PySem.W.Frag) (E : XK) : Wc K := ⟨fun c d _ h => E c d h, fun _ _ _ => True, fun _ h => h⟩
structure EW (K : PySem.W.Frag) (W : Wc K) (φ : Nat → Addr) (n : Nat) (H : Hp) (env : Env) (σ : L2.St) : Prop where
  e : ER K φ n H env σ
  c : W.ctx φ n H
section
variable {K : PySem.W.Frag} {W : Wc K} {φ φ' : Nat → Addr} {n n' : Nat} {H H' : Hp} {env : Env} {σ : L2.St}
theorem EW.fut (h : EW K W φ n H env σ) (f : Fut K φ n H φ' n' H') : EW K W φ' n' H' env σ := ⟨h.e.fut f, W.mono f h.c⟩
theorem EW.get {i : Nat} {d : D} (h : EW K W φ n H env σ) (e : env[i]? = some (some d)) : ∃ v, σ[i]? = some (some v) ∧ VR K φ n H d v := h.e.get e
theorem EW.set {d : D} {v : V} (i : Nat) (h : EW K W φ n H env σ) (q : VR K φ n H d v) : EW K W φ n H (env.set i (some d)) (σ.set i (some v)) := ⟨h.e.set i q, h.c⟩
theorem EW.wipe (h : EW K W φ n H env σ) (vs : List Nat) : EW K W φ n H (wipeE env vs) (L2.wipe σ vs) := ⟨h.e.wipe vs, h.c⟩
end
end Mi

namespace Mi
open PySem PySem.Spec PyProof.Rows L2 Evl My
open Classical in
/-! ### what a piece promises -/
abbrev Rl (α β : Type) := (Nat → Addr) → Nat → Hp → α → β → Prop
def vr (K : PySem.W.Frag) : Rl D V := fun φ n H d v => VR K φ n H d v
def vrs (K : PySem.W.Frag) : Rl (List D) (List V) := fun φ n H d v => VRs K φ n H d v
def same {α : Type} : Rl α α := fun _ _ _ a b => a = b
def Post (K : PySem.W.Frag) {α β : Type} (ρ : Rl α β) (φ : Nat → Addr) (n : Nat) (H : Hp) (X : XK) (r : R α) (Q : β → Hp → Prop) : Prop := match r with
  | .ok d S' => ∀ φ' H' v, Fut K φ n H φ' S'.length H' → Rel K φ' S' H' → ρ φ' S'.length H' d v → Q v H'
  | .exc c fs S' => ∀ φ' H' dd fv, Fut K φ n H φ' S'.length H' → Rel K φ' S' H' → H' dd = some (.xd fv) → KR K φ' S'.length H' fs fv → X (.ref (He.ga K c)) (some dd) H'
  | .bad => False
section
variable {K : PySem.W.Frag} {φ φ1 φ' : Nat → Addr} {n n1 n' : Nat} {H H1 H' : Hp} {α β γ δ : Type} {ρ : Rl α β} {ρ' : Rl γ δ} {X : XK} {W : Wc K} {S : Sto}
theorem Post.fut {r : R α} {Q : β → Hp → Prop} (f : Fut K φ n H φ1 n1 H1) (h : Post K ρ φ n H X r Q) : Post K ρ φ1 n1 H1 X r Q := by
  cases r with
  | ok d S' => exact fun φ' H' v f' => h φ' H' v (f.trans f')
  | exc c fs S' => exact fun φ' H' dd fv f' => h φ' H' dd fv (f.trans f')
  | bad => exact h
theorem Post.here {d : α} {v : β} {Q : β → Hp → Prop} (h : Post K ρ φ S.length H X (.ok d S) Q) (r : Rel K φ S H) (q : ρ φ S.length H d v) : Q v H := h φ H v Fut.refl r q
theorem Post.ex {d : α} {v : β} {Q : β → Hp → Prop} (h : Post K ρ φ S.length H X (.ok d S) Q) (r : Rel K φ S H) (e : Ex H H') (q : ρ φ S.length H' d v) : Q v H' := h φ H' v (Fut.ex e) (r.ex e) q
theorem Post.new {o : O} {u : HO} {p : Addr} {Q : VK} (h : Post K (vr K) φ S.length H X (.ok (.ref S.length) (S ++ [o])) Q) (r : Rel K φ S H) (hp : H p = none) (hn : OR K (nxt φ S.length p) (S.length + 1) (upd H p u) p o) : Q (.ref p) (upd H p u) := by
  refine h (nxt φ S.length p) _ _ (by rw [List.length_append]; exact Fut.new hp) (r.new hp hn) ?_
  show VR K _ _ _ _ _
  have := VR.ref (K := K) (φ := nxt φ S.length p) (n := (S ++ [o]).length) (H := upd H p u) (l := S.length) (by simp)
  rw [nxt_at] at this
  exact this
theorem Post.tup {Q : VK} {xs : List D} {vs : List V} {p : Addr} (h : Post K (vr K) φ S.length H X (.ok (.tup xs) S) Q) (r : Rel K φ S H) (hp : H p = none) (q : VRs K φ S.length H xs vs) : Q (.ref p) (upd H p (.tup vs)) :=
  h φ _ _ (Fut.ex (Ex.new hp)) (r.ex (Ex.new hp)) (VR.tup (st_of upd_same) (q.fut (Fut.ex (Ex.new hp))))
theorem Post.put {d : α} {v : β} {Q : β → Hp → Prop} {l : Nat} {o o' : O} {u : HO} (h : Post K ρ φ S.length H X (.ok d (S.set l o')) Q) (r : Rel K φ S H) (hl : at_ S l = some o) (m : mutO o = true) (m' : mutO o' = true) (hn : OR K φ S.length (upd H (φ l) u) (φ l) o')
    (q : ρ φ S.length (upd H (φ l) u) d v) : Q v (upd H (φ l) u) := by
  obtain ⟨r', f'⟩ := r.put hl m m' hn
  exact h φ _ _ f' r' (by rw [List.length_set]; exact q)
/-- a reading does what f says -/
def Imp (K : PySem.W.Frag) (W : Wc K) {α β : Type} (ρ : Rl α β) (t : L2.St → Hp → (β → Hp → Prop) → Prop) (f : Env → Sto → R α) : Prop :=
  ∀ φ S H env σ, Rel K φ S H → EW K W φ S.length H env σ → ∀ Q, Post K ρ φ S.length H (fun c d h => W c d σ h) (f env S) Q → t σ H Q
theorem imp_bind {ta : L2.St → Hp → (β → Hp → Prop) → Prop} {tb : β → L2.St → Hp → (δ → Hp → Prop) → Prop} {fa : Env → Sto → R α} {g : Env → α → Sto → R γ} (ha : Imp K W ρ ta fa)
    (hb : ∀ φ S H env σ x v, Rel K φ S H → EW K W φ S.length H env σ → ρ φ S.length H x v → ∀ Q, Post K ρ' φ S.length H (fun c d h => W c d σ h) (g env x S) Q → tb v σ H Q) :
    Imp K W ρ' (fun σ H Q => ta σ H fun v H1 => tb v σ H1 Q) (fun env S => (fa env S).bind (g env)) := by
  intro φ S H env σ r e Q p
  dsimp only at p
  refine ha φ S H env σ r e _ ?_
  cases hf : fa env S with
  | ok x S1 =>
    rw [hf] at p
    exact fun φ' H' v f r' hv => hb φ' S1 H' env σ x v r' (e.fut f) hv Q (p.fut f)
  | exc c fs S1 =>
    rw [hf] at p
    exact p
  | bad =>
    rw [hf] at p
    exact p
/-- .. that is known to be so at a state -/
theorem Imp.go {ta : L2.St → Hp → (β → Hp → Prop) → Prop} {fa : Env → Sto → R α} (ha : Imp K W ρ ta fa) {env : Env} {σ : L2.St} {g : α → Sto → R γ} {tb : β → Hp → Prop} (r : Rel K φ S H) (e : EW K W φ S.length H env σ) {Q : δ → Hp → Prop}
    (p : Post K ρ' φ S.length H (fun c d h => W c d σ h) ((fa env S).bind g) Q)
    (hb : ∀ φ1 S1 H1 x v, Fut K φ S.length H φ1 S1.length H1 → Rel K φ1 S1 H1 → EW K W φ1 S1.length H1 env σ → ρ φ1 S1.length H1 x v → Post K ρ' φ1 S1.length H1 (fun c d h => W c d σ h) (g x S1) Q → tb v H1) : ta σ H tb := by
  refine ha φ S H env σ r e _ ?_
  cases hf : fa env S with
  | ok x S1 =>
    rw [hf] at p
    exact fun φ' H' v f r' hv => hb φ' S1 H' x v f r' (e.fut f) hv (p.fut f)
  | exc c fs S1 =>
    rw [hf] at p
    exact p
  | bad =>
    rw [hf] at p
    exact p
/-! ### expressions -/
def xVar (i : Nat) : Env → Sto → R D := fun env S => match env[i]? with
  | some (some d) => .ok d S
  | _ => .bad
def xC (d : D) : Env → Sto → R D := fun _ S => .ok d S
theorem imp_var {i : Nat} : Imp K W (vr K) (tVar i) (xVar i) := by
  intro φ S H env σ r e Q p
  unfold xVar at p
  split at p
  · rename_i d h
    obtain ⟨v, hv, q⟩ := e.get h
    exact ⟨v, hv, p.here r q⟩
  · exact p.elim
theorem imp_int {i : Int} : Imp K W (vr K) (tC (.int i)) (xC (.int i)) := fun φ S H env σ r e Q p => p.here r (VR.int i)
theorem imp_str {i : Str} : Imp K W (vr K) (tC (.str i)) (xC (.str i)) := fun φ S H env σ r e Q p => p.here r (VR.str i)
theorem imp_bl {i : Bool} : Imp K W (vr K) (tC (.bl i)) (xC (.bl i)) := fun φ S H env σ r e Q p => p.here r (VR.bl i)
theorem imp_non : Imp K W (vr K) (tC .non) (xC .non) := fun φ S H env σ r e Q p => p.here r VR.non
/-- two operands -/
def xOp (o : D → D → Sto → R D) (fa fb : Env → Sto → R D) : Env → Sto → R D := fun env S => (fa env S).bind fun x S1 => (fb env S1).bind fun y S2 => o x y S2
def OpI (K : PySem.W.Frag) (r : R2) (o : D → D → Sto → R D) : Prop := ∀ φ S H x y v w X, Rel K φ S H → VR K φ S.length H x v → VR K φ S.length H y w → ∀ Q, Post K (vr K) φ S.length H X (o x y S) Q → r v w H Q
theorem imp_op {r : R2} {o : D → D → Sto → R D} {ta tb : TE} {fa fb : Env → Sto → R D} (hr : OpI K r o) (ha : Imp K W (vr K) ta fa) (hb : Imp K W (vr K) tb fb) : Imp K W (vr K) (tOp r ta tb) (xOp o fa fb) :=
  imp_bind (tb := fun v σ H Q => tb σ H fun y H2 => r v y H2 Q) ha fun φ S H env σ x v rl e hv Q p => hb.go rl e p fun φ1 S1 H1 y w f r1 _ hw p1 => hr φ1 S1 H1 x y v w _ r1 (VR.fut f hv) hw Q p1
def UnI (K : PySem.W.Frag) (r : V → Hp → VK → Prop) (o : D → Sto → R D) : Prop := ∀ φ S H x v X, Rel K φ S H → VR K φ S.length H x v → ∀ Q, Post K (vr K) φ S.length H X (o x S) Q → r v H Q
def xUn (o : D → Sto → R D) (fa : Env → Sto → R D) : Env → Sto → R D := fun env S => (fa env S).bind o
theorem imp_un {r : V → Hp → VK → Prop} {o : D → Sto → R D} {ta : TE} {fa : Env → Sto → R D} (hr : UnI K r o) (ha : Imp K W (vr K) ta fa) : Imp K W (vr K) (tUn r ta) (xUn o fa) :=
  imp_bind (tb := fun (v : V) _ H (Q : VK) => r v H Q) ha fun φ S H env σ x v rl e hv Q p => hr φ S H x v _ rl hv Q p
/-- of two ints -/
def oI (g : Int → Int → D) : D → D → Sto → R D := fun x y S => match x, y with
  | .int i, .int j => .ok (g i j) S
  | _, _ => .bad
@[simp] theorem oI_int {g : Int → Int → D} {i j : Int} : oI g (.int i) (.int j) S = .ok (g i j) S := rfl
theorem opi_I {g : Int → Int → V} {g' : Int → Int → D} (h : ∀ φ n H i j, VR K φ n H (g' i j) (g i j)) : OpI K (rI0 g) (oI g') := by
  intro φ S H x y v w X r hx hy Q p
  unfold oI at p
  split at p
  · cases hx; cases hy
    exact ⟨_, _, rfl, rfl, p.here r (h ..)⟩
  · exact p.elim
noncomputable def oIC (C : Int → Int → Prop) (g : Int → Int → D) : D → D → Sto → R D := fun x y S => match x, y with
  | .int i, .int j => open Classical in if C i j then .ok (g i j) S else .bad
  | _, _ => .bad
theorem oIC_int {C : Int → Int → Prop} {g : Int → Int → D} {i j : Int} (h : C i j) : oIC C g (.int i) (.int j) S = .ok (g i j) S := by simp [oIC, h]
theorem opi_IC {C : Int → Int → Prop} {g : Int → Int → V} {g' : Int → Int → D} (h : ∀ φ n H i j, VR K φ n H (g' i j) (g i j)) : OpI K (rI C g) (oIC C g') := by
  intro φ S H x y v w X r hx hy Q p
  unfold oIC at p
  split at p
  · cases hx; cases hy
    split at p
    · rename_i hc
      exact ⟨_, _, rfl, rfl, hc, p.here r (h ..)⟩
    · exact p.elim
  · exact p.elim
def gI (f : Int → Int → Int) : Int → Int → D := fun i j => .int (f i j)
def gB (f : Int → Int → Bool) : Int → Int → D := fun i j => .bl (f i j)
theorem opi_add : OpI K (rI0 fun i j => .int (i + j)) (oI fun i j => .int (i + j)) := opi_I fun _ _ _ _ _ => .int _
theorem opi_sub : OpI K (rI0 fun i j => .int (i - j)) (oI fun i j => .int (i - j)) := opi_I fun _ _ _ _ _ => .int _
theorem opi_mul : OpI K (rI CMul fun i j => .int (i * j)) (oIC CMul fun i j => .int (i * j)) := opi_IC fun _ _ _ _ _ => .int _
theorem opi_fdiv : OpI K (rI CDiv fun i j => .int (i / j)) (oIC CDiv fun i j => .int (i / j)) := opi_IC fun _ _ _ _ _ => .int _
theorem opi_fdivW : OpI K (rI CDivW fun i j => .int (i / j)) (oIC CDivW fun i j => .int (i / j)) := opi_IC fun _ _ _ _ _ => .int _
theorem opi_mod : OpI K (rI (fun _ j => 0 < j) fun i j => .int (i % j)) (oIC (fun _ j => 0 < j) fun i j => .int (i % j)) := opi_IC fun _ _ _ _ _ => .int _
theorem opi_pow : OpI K (rI CPow fun i j => .int (i ^ j.toNat)) (oIC CPow fun i j => .int (i ^ j.toNat)) := opi_IC fun _ _ _ _ _ => .int _
theorem opi_lt : OpI K (rI0 fun i j => .bl (decide (i < j))) (oI fun i j => .bl (decide (i < j))) := opi_I fun _ _ _ _ _ => .bl _
theorem opi_le : OpI K (rI0 fun i j => .bl (decide (i ≤ j))) (oI fun i j => .bl (decide (i ≤ j))) := opi_I fun _ _ _ _ _ => .bl _
theorem opi_gt : OpI K (rI0 fun i j => .bl (decide (j < i))) (oI fun i j => .bl (decide (j < i))) := opi_I fun _ _ _ _ _ => .bl _
theorem opi_ge : OpI K (rI0 fun i j => .bl (decide (j ≤ i))) (oI fun i j => .bl (decide (j ≤ i))) := opi_I fun _ _ _ _ _ => .bl _
def oNeg : D → Sto → R D := fun x S => match x with
  | .int i => .ok (.int (-i)) S
  | _ => .bad
@[simp] theorem oNeg_int {i : Int} : oNeg (.int i) S = .ok (.int (-i)) S := rfl
theorem uni_neg : UnI K (rU fun i => .int (-i)) oNeg := by
  intro φ S H x v X r hx Q p
  unfold oNeg at p
  split at p
  · cases hx
    exact ⟨_, rfl, p.here r (VR.int _)⟩
  · exact p.elim
/-! ### == of scalars -/
/-- scalars, as they are told -/
def scV : D → Option V
  | .non => some .non
  | .bl b => some (.bl b)
  | .int i => some (.int i)
  | .str x => some (.str x)
  | _ => none
theorem scV_eq {d : D} {u v : V} (h : scV d = some u) (r : VR K φ n H d v) : v = u := by
  cases r <;> simp [scV] at h <;> exact h
def oEqS : D → D → Sto → R D := fun x y S => match scV x, scV y with
  | some u, some w => if scal u w = true then .ok (.bl (decide (u = w))) S else .bad
  | _, _ => .bad
def oNeS : D → D → Sto → R D := fun x y S => match scV x, scV y with
  | some u, some w => if scal u w = true then .ok (.bl (!decide (u = w))) S else .bad
  | _, _ => .bad
@[simp] theorem oEqS_int {i j : Int} : oEqS (.int i) (.int j) S = .ok (.bl (decide (i = j))) S := by simp [oEqS, scV, scal]
@[simp] theorem oNeS_int {i j : Int} : oNeS (.int i) (.int j) S = .ok (.bl (!decide (i = j))) S := by simp [oNeS, scV, scal]
@[simp] theorem oEqS_str {i j : Str} : oEqS (.str i) (.str j) S = .ok (.bl (decide (i = j))) S := by simp [oEqS, scV, scal]
@[simp] theorem oNeS_str {i j : Str} : oNeS (.str i) (.str j) S = .ok (.bl (!decide (i = j))) S := by simp [oNeS, scV, scal]
@[simp] theorem oEqS_bl {i j : Bool} : oEqS (.bl i) (.bl j) S = .ok (.bl (decide (i = j))) S := by simp [oEqS, scV, scal]
@[simp] theorem oNeS_bl {i j : Bool} : oNeS (.bl i) (.bl j) S = .ok (.bl (!decide (i = j))) S := by simp [oNeS, scV, scal]
theorem opi_eqS : OpI K rEq oEqS := by
  intro φ S H x y v w X r hx hy Q p
  unfold oEqS at p
  split at p
  · rename_i a b ha hb
    rw [scV_eq ha hx, scV_eq hb hy]
    split at p
    · rename_i hc
      exact ⟨hc, p.here r (VR.bl _)⟩
    · exact p.elim
  · exact p.elim
theorem opi_neS : OpI K rNe oNeS := by
  intro φ S H x y v w X r hx hy Q p
  unfold oNeS at p
  split at p
  · rename_i a b ha hb
    rw [scV_eq ha hx, scV_eq hb hy]
    split at p
    · rename_i hc
      exact ⟨hc, p.here r (VR.bl _)⟩
    · exact p.elim
  · exact p.elim
/-! ### data -/
mutual
/-- what the value d, read in the store, is -/
inductive DD (S : Sto) : D → PyData → Prop where
  | non : DD S .non .none
  | bl (b : Bool) : DD S (.bl b) (.bool b)
  | int (i : Int) : DD S (.int i) (.int i)
  | str (x : Str) : DD S (.str x) (.str x)
  | lst {l : Nat} {xs : List D} {ps : List PyData} (h : rdL S l = some xs) (t : DDs S xs ps) : DD S (.ref l) (.list ps)
  | tup {xs : List D} {ps : List PyData} (t : DDs S xs ps) : DD S (.tup xs) (.tuple ps)
inductive DDs (S : Sto) : List D → List PyData → Prop where
  | nil : DDs S [] []
  | cons {x : D} {p : PyData} {xs : List D} {ps : List PyData} (h : DD S x p) (t : DDs S xs ps) : DDs S (x :: xs) (p :: ps)
end
mutual
theorem DD.fn : ∀ {d : D} {p q : PyData}, DD S d p → DD S d q → p = q
  | _, _, _, .non, .non => rfl
  | _, _, _, .bl _, .bl _ => rfl
  | _, _, _, .int _, .int _ => rfl
  | _, _, _, .str _, .str _ => rfl
  | _, _, _, .lst h t, .lst h' t' => by
    rw [h] at h'
    cases h'
    rw [DDs.fn t t']
  | _, _, _, .tup t, .tup t' => by rw [DDs.fn t t']
theorem DDs.fn : ∀ {d : List D} {p q : List PyData}, DDs S d p → DDs S d q → p = q
  | _, _, _, .nil, .nil => rfl
  | _, _, _, .cons h t, .cons h' t' => by rw [DD.fn h h', DDs.fn t t']
end
mutual
theorem DD.dp (r : Rel K φ S H) : ∀ {d : D} {p : PyData} {v : V}, DD S d p → VR K φ S.length H d v → Dp K H v p
  | _, _, _, .non, .non => .non
  | _, _, _, .bl b, .bl _ => .bl b
  | _, _, _, .int b, .int _ => .int b
  | _, _, _, .str b, .str _ => .str b
  | _, _, _, .lst h t, .ref _ => by
    obtain ⟨vs, h1, h2⟩ := r.rd h
    exact .lst h1 (DDs.dp r t h2)
  | _, _, _, .tup t, .tup h t' => .tup h (DDs.dp r t t')
theorem DDs.dp (r : Rel K φ S H) : ∀ {d : List D} {p : List PyData} {v : List V}, DDs S d p → VRs K φ S.length H d v → DpAll K H v p
  | _, _, _, .nil, .nil => .nil
  | _, _, _, .cons h t, .cons h' t' => .cons (DD.dp r h h') (DDs.dp r t t')
end
open Classical in
noncomputable def dataOf (S : Sto) (d : D) : Option PyData := if h : ∃ p, DD S d p then some h.choose else none
theorem dataOf_some {d : D} {p : PyData} (h : dataOf S d = some p) : DD S d p := by
  unfold dataOf at h
  split at h
  · rename_i k
    cases h
    exact k.choose_spec
  · cases h
theorem dataOf_eq {d : D} {p : PyData} (h : DD S d p) : dataOf S d = some p := by
  unfold dataOf
  rw [dif_pos ⟨p, h⟩]
  exact congrArg some (DD.fn (Exists.choose_spec (⟨p, h⟩ : ∃ p, DD S d p)) h)
noncomputable def oEqD (neg : Bool) : D → D → Sto → R D := fun x y S => match dataOf S x, dataOf S y with
  | some p, some q => if SeqAt.shaped p = true ∧ SeqAt.shaped q = true then .ok (.bl (if neg = true then !PyData.eqv p q else PyData.eqv p q)) S else .bad
  | _, _ => .bad
theorem oEqD_eq {neg : Bool} {x y : D} {p q : PyData} (hx : DD S x p) (hy : DD S y q) (sx : SeqAt.shaped p = true) (sy : SeqAt.shaped q = true) : oEqD neg x y S = .ok (.bl (if neg = true then !PyData.eqv p q else PyData.eqv p q)) S := by
  simp [oEqD, dataOf_eq hx, dataOf_eq hy, sx, sy]
theorem opi_eqD : OpI K (rEqD K) (oEqD false) := by
  intro φ S H x y v w X r hx hy Q p
  unfold oEqD at p
  split at p
  · rename_i a b ha hb
    split at p
    · rename_i hc
      exact ⟨a, b, (dataOf_some ha).dp r hx, (dataOf_some hb).dp r hy, hc.1, hc.2, p.here r (VR.bl _)⟩
    · exact p.elim
  · exact p.elim
theorem opi_neD : OpI K (rNeD K) (oEqD true) := by
  intro φ S H x y v w X r hx hy Q p
  unfold oEqD at p
  split at p
  · rename_i a b ha hb
    split at p
    · rename_i hc
      exact ⟨a, b, (dataOf_some ha).dp r hx, (dataOf_some hb).dp r hy, hc.1, hc.2, p.here r (VR.bl _)⟩
    · exact p.elim
  · exact p.elim
/-! ### None, and, or, not, if -/
def nonD : D → Bool
  | .non => true
  | _ => false
theorem isNon_eq {d : D} {v : V} (h : VR K φ n H d v) : decide (v = .non) = nonD d := by cases h <;> simp [nonD]
def xIsN (fa : Env → Sto → R D) : Env → Sto → R D := fun env S => (fa env S).bind fun x S1 => .ok (.bl (nonD x)) S1
def xNotN (fa : Env → Sto → R D) : Env → Sto → R D := fun env S => (fa env S).bind fun x S1 => .ok (.bl (!nonD x)) S1
theorem imp_isN {ta : TE} {fa : Env → Sto → R D} (ha : Imp K W (vr K) ta fa) : Imp K W (vr K) (tIsN ta) (xIsN fa) :=
  imp_bind (tb := fun (v : V) _ H (Q : VK) => Q (.bl (decide (v = .non))) H) ha fun φ S H env σ x v rl e hv Q p => by
    rw [isNon_eq hv]
    exact p.here rl (VR.bl _)
theorem imp_notN {ta : TE} {fa : Env → Sto → R D} (ha : Imp K W (vr K) ta fa) : Imp K W (vr K) (tNotN ta) (xNotN fa) :=
  imp_bind (tb := fun (v : V) _ H (Q : VK) => Q (.bl (!decide (v = .non))) H) ha fun φ S H env σ x v rl e hv Q p => by
    rw [isNon_eq hv]
    exact p.here rl (VR.bl _)
/-- a truth value as a value -/
def asB {α : Type} (x : D) (g : Bool → R α) : R α := match x with
  | .bl b => g b
  | _ => .bad
@[simp] theorem asB_bl {α : Type} {b : Bool} {g : Bool → R α} : asB (.bl b) g = g b := rfl
def xAndV (fa fb : Env → Sto → R D) : Env → Sto → R D := fun env S => (fa env S).bind fun x S1 => asB x fun b => if b = true then fb env S1 else .ok (.bl false) S1
def xOrV (fa fb : Env → Sto → R D) : Env → Sto → R D := fun env S => (fa env S).bind fun x S1 => asB x fun b => if b = true then .ok (.bl true) S1 else fb env S1
def xNotV (fa : Env → Sto → R D) : Env → Sto → R D := fun env S => (fa env S).bind fun x S1 => asB x fun b => .ok (.bl (!b)) S1
theorem asB_inv {x : D} {v : V} {g : Bool → R α} {Q : β → Hp → Prop} (h : VR K φ n H x v) (p : Post K ρ φ1 n1 H1 X (asB x g) Q) : ∃ b, v = .bl b ∧ Post K ρ φ1 n1 H1 X (g b) Q := by
  unfold asB at p
  split at p
  · cases h
    exact ⟨_, rfl, p⟩
  · exact p.elim
theorem imp_andV {ta tb : TE} {fa fb : Env → Sto → R D} (ha : Imp K W (vr K) ta fa) (hb : Imp K W (vr K) tb fb) : Imp K W (vr K) (tAndV ta tb) (xAndV fa fb) :=
  imp_bind (tb := fun (v : V) σ H (Q : VK) => ∃ c, v = .bl c ∧ if c = true then tb σ H Q else Q (.bl false) H) ha fun φ S H env σ x v rl e hv Q p => by
    obtain ⟨b, rfl, p⟩ := asB_inv hv p
    refine ⟨b, rfl, ?_⟩
    cases b with
    | true => exact hb φ S H env σ rl e Q p
    | false => exact p.here rl (VR.bl _)
theorem imp_orV {ta tb : TE} {fa fb : Env → Sto → R D} (ha : Imp K W (vr K) ta fa) (hb : Imp K W (vr K) tb fb) : Imp K W (vr K) (tOrV ta tb) (xOrV fa fb) :=
  imp_bind (tb := fun (v : V) σ H (Q : VK) => ∃ c, v = .bl c ∧ if c = true then Q (.bl true) H else tb σ H Q) ha fun φ S H env σ x v rl e hv Q p => by
    obtain ⟨b, rfl, p⟩ := asB_inv hv p
    refine ⟨b, rfl, ?_⟩
    cases b with
    | true => exact p.here rl (VR.bl _)
    | false => exact hb φ S H env σ rl e Q p
theorem imp_notV {ta : TE} {fa : Env → Sto → R D} (ha : Imp K W (vr K) ta fa) : Imp K W (vr K) (tNotV ta) (xNotV fa) :=
  imp_bind (tb := fun (v : V) _ H (Q : VK) => ∃ c, v = .bl c ∧ Q (.bl (!c)) H) ha fun φ S H env σ x v rl e hv Q p => by
    obtain ⟨b, rfl, p⟩ := asB_inv hv p
    exact ⟨b, rfl, p.here rl (VR.bl _)⟩
/-! ### tests -/
def xB (fa : Env → Sto → R D) : Env → Sto → R Bool := fun env S => (fa env S).bind fun x S1 => asB x fun b => .ok b S1
theorem imp_test {ta : TE} {fa : Env → Sto → R D} (ha : Imp K W (vr K) ta fa) : Imp K W same (tTest ta) (xB fa) :=
  imp_bind (tb := fun (v : V) _ H (Q : Bool → Hp → Prop) => ∃ k, v = .bl k ∧ Q k H) ha fun φ S H env σ x v rl e hv Q p => by
    obtain ⟨b, rfl, p⟩ := asB_inv hv p
    exact ⟨b, rfl, p.here rl rfl⟩
theorem imp_tB {ta : TE} {fa : Env → Sto → R D} (ha : Imp K W (vr K) ta fa) : Imp K W same (tB ta) (xB fa) :=
  imp_bind (tb := fun (v : V) _ H (Q : Bool → Hp → Prop) => ∃ k, v = .bl k ∧ Q k H) ha fun φ S H env σ x v rl e hv Q p => by
    obtain ⟨b, rfl, p⟩ := asB_inv hv p
    exact ⟨b, rfl, p.here rl rfl⟩
def xAnd (fa fb : Env → Sto → R Bool) : Env → Sto → R Bool := fun env S => (fa env S).bind fun b S1 => if b = true then fb env S1 else .ok false S1
def xOr (fa fb : Env → Sto → R Bool) : Env → Sto → R Bool := fun env S => (fa env S).bind fun b S1 => if b = true then .ok true S1 else fb env S1
def xNot (fa : Env → Sto → R Bool) : Env → Sto → R Bool := fun env S => (fa env S).bind fun b S1 => .ok (!b) S1
theorem imp_and {ta tb : TT} {fa fb : Env → Sto → R Bool} (ha : Imp K W same ta fa) (hb : Imp K W same tb fb) : Imp K W same (tAnd ta tb) (xAnd fa fb) :=
  imp_bind (tb := fun (c : Bool) σ H (Q : Bool → Hp → Prop) => if c = true then tb σ H Q else Q false H) ha fun φ S H env σ x v rl e hv Q p => by
    obtain rfl : x = v := hv
    cases x with
    | true => exact hb φ S H env σ rl e Q p
    | false => exact p.here rl rfl
theorem imp_or {ta tb : TT} {fa fb : Env → Sto → R Bool} (ha : Imp K W same ta fa) (hb : Imp K W same tb fb) : Imp K W same (tOr ta tb) (xOr fa fb) :=
  imp_bind (tb := fun (c : Bool) σ H (Q : Bool → Hp → Prop) => if c = true then Q true H else tb σ H Q) ha fun φ S H env σ x v rl e hv Q p => by
    obtain rfl : x = v := hv
    cases x with
    | true => exact p.here rl rfl
    | false => exact hb φ S H env σ rl e Q p
theorem imp_not {ta : TT} {fa : Env → Sto → R Bool} (ha : Imp K W same ta fa) : Imp K W same (tNot ta) (xNot fa) :=
  imp_bind (tb := fun (c : Bool) _ H (Q : Bool → Hp → Prop) => Q (!c) H) ha fun φ S H env σ x v rl e hv Q p => by
    obtain rfl : x = v := hv
    exact p.here rl rfl
def xIf {α : Type} (t : Env → Sto → R Bool) (fa fb : Env → Sto → R α) : Env → Sto → R α := fun env S => (t env S).bind fun b S1 => if b = true then fa env S1 else fb env S1
theorem imp_if {tt : TT} {ta tb : TE} {ft : Env → Sto → R Bool} {fa fb : Env → Sto → R D} (ht : Imp K W same tt ft) (ha : Imp K W (vr K) ta fa) (hb : Imp K W (vr K) tb fb) : Imp K W (vr K) (tIf tt ta tb) (xIf ft fa fb) :=
  imp_bind (tb := fun (c : Bool) σ H (Q : VK) => if c = true then ta σ H Q else tb σ H Q) ht fun φ S H env σ x v rl e hv Q p => by
    obtain rfl : x = v := hv
    cases x with
    | true => exact ha φ S H env σ rl e Q p
    | false => exact hb φ S H env σ rl e Q p
def xYes : Env → Sto → R Bool := fun _ S => .ok true S
theorem imp_yes : Imp K W same tYes xYes := fun φ S H env σ r e Q p => p.here r rfl
/-- a chain of two comparisons -/
def xChain (o o' : D → D → Sto → R D) (fa fb fc : Env → Sto → R D) : Env → Sto → R D := fun env S => (fa env S).bind fun x S1 => (fb env S1).bind fun y S2 => (o x y S2).bind fun z S3 => asB z fun k =>
  if k = true then (fc env S3).bind fun u S4 => o' y u S4 else .ok (.bl false) S3
theorem OpI.go {r : R2} {o : D → D → Sto → R D} (h : OpI K r o) {x y : D} {v w : V} {g : D → Sto → R γ} {tb : V → Hp → Prop} (rl : Rel K φ S H) (hx : VR K φ S.length H x v) (hy : VR K φ S.length H y w) {Q : δ → Hp → Prop}
    (p : Post K ρ' φ S.length H X ((o x y S).bind g) Q)
    (hb : ∀ φ1 S1 H1 z u, Fut K φ S.length H φ1 S1.length H1 → Rel K φ1 S1 H1 → VR K φ1 S1.length H1 z u → Post K ρ' φ1 S1.length H1 X (g z S1) Q → tb u H1) (he : ∀ c fs S', o x y S ≠ .exc c fs S') : r v w H tb := by
  refine h φ S H x y v w X rl hx hy _ ?_
  cases hf : o x y S with
  | ok z S1 =>
    rw [hf] at p
    exact fun φ' H' v f r' hv => hb φ' S1 H' z v f r' hv (p.fut f)
  | exc c fs S1 => exact (he c fs S1 hf).elim
  | bad =>
    rw [hf] at p
    exact p
end
end Mi

namespace Mi
open PySem PySem.Spec PyProof.Rows L2 Evl My
section
variable {K : PySem.W.Frag} {φ φ1 φ' : Nat → Addr} {n n1 n' : Nat} {H H1 H' : Hp} {X : XK} {W : Wc K} {S : Sto}
/-! ### arguments, displays -/
def xNil : Env → Sto → R (List D) := fun _ S => .ok [] S
def xCons (fa : Env → Sto → R D) (fr : Env → Sto → R (List D)) : Env → Sto → R (List D) := fun env S => (fa env S).bind fun x S1 => (fr env S1).bind fun xs S2 => .ok (x :: xs) S2
theorem imp_nil : Imp K W (vrs K) tNil xNil := fun φ S H env σ r e Q p => p.here r VRs.nil
theorem imp_cons {ta : TE} {tr : TA} {fa : Env → Sto → R D} {fr : Env → Sto → R (List D)} (ha : Imp K W (vr K) ta fa) (hr : Imp K W (vrs K) tr fr) : Imp K W (vrs K) (tCons ta tr) (xCons fa fr) :=
  imp_bind (tb := fun (v : V) σ H (Q : List V → Hp → Prop) => tr σ H fun vs H2 => Q (v :: vs) H2) ha fun φ S H env σ x v rl e hv Q p => hr.go rl e p fun φ1 S1 H1 xs vs f r1 _ hvs p1 => p1.here r1 (VRs.cons (VR.fut f hv) hvs)
def xTup (fa : Env → Sto → R (List D)) : Env → Sto → R D := fun env S => (fa env S).bind fun xs S1 => if xs.length ≤ 100000 then .ok (.tup xs) S1 else .bad
def xLst (fa : Env → Sto → R (List D)) : Env → Sto → R D := fun env S => (fa env S).bind fun xs S1 => if xs.length ≤ 100000 then .ok (.ref S1.length) (S1 ++ [.lst xs]) else .bad
theorem imp_tup {ta : TA} {fa : Env → Sto → R (List D)} (ha : Imp K W (vrs K) ta fa) : Imp K W (vr K) (tTup ta) (xTup fa) :=
  imp_bind (tb := fun (xs : List V) _ H (Q : VK) => xs.length ≤ sizeLine ∧ ∀ p, H p = none → Q (.ref p) (upd H p (.tup xs))) ha fun φ S H env σ x v rl e hv Q p => by
    split at p
    · rename_i hl
      refine ⟨by rw [VRs.len hv]; exact sz_of hl, fun a ha => p.tup rl ha hv⟩
    · exact p.elim
theorem or_lst {xs : List D} {vs : List V} {p : Addr} (hp : H p = none) (h : VRs K φ n H xs vs) : OR K (nxt φ n p) (n + 1) (upd H p (.lst vs)) p (.lst xs) := ⟨vs, upd_same, h.fut (Fut.new hp)⟩
theorem imp_lst {ta : TA} {fa : Env → Sto → R (List D)} (ha : Imp K W (vrs K) ta fa) : Imp K W (vr K) (tLst ta) (xLst fa) :=
  imp_bind (tb := fun (xs : List V) _ H (Q : VK) => xs.length ≤ sizeLine ∧ ∀ p, H p = none → Q (.ref p) (upd H p (.lst xs))) ha fun φ S H env σ x v rl e hv Q p => by
    split at p
    · rename_i hl
      exact ⟨by rw [VRs.len hv]; exact sz_of hl, fun a ha => p.new rl ha (or_lst ha hv)⟩
    · exact p.elim
/-! ### places in lists and tuples -/
theorem VRs.atI {xs : List D} {vs : List V} {i : Int} {x : D} (h : VRs K φ n H xs vs) (e : L2.atI xs i = some x) : ∃ v, L2.atI vs i = some v ∧ VR K φ n H x v := by
  obtain ⟨j, hj, hx⟩ := Option.bind_eq_some_iff.mp (show (ixN xs.length i).bind (fun j => xs[j]?) = some x from e)
  obtain ⟨v, hv, q⟩ := h.get hx
  refine ⟨v, ?_, q⟩
  show (ixN vs.length i).bind (fun j => vs[j]?) = some v
  rw [h.len, hj]
  exact hv
def oIxL : D → D → Sto → R D := fun x y S => match x, y with
  | .ref l, .int i => match (rdL S l).bind fun xs => atI xs i with
    | some d => .ok d S
    | none => .bad
  | _, _ => .bad
theorem oIxL_eq {l : Nat} {i : Int} {xs : List D} {d : D} (h : rdL S l = some xs) (e : atI xs i = some d) : oIxL (.ref l) (.int i) S = .ok d S := by simp [oIxL, h, e]
theorem opi_ixL : OpI K (rIxL K) oIxL := by
  intro φ S H x y v w X r hx hy Q p
  unfold oIxL at p
  split at p
  · split at p
    · rename_i d hd
      obtain ⟨xs, h1, h2⟩ := Option.bind_eq_some_iff.mp hd
      cases hx; cases hy
      obtain ⟨vs, q1, q2⟩ := r.rd h1
      obtain ⟨u, hu, q3⟩ := q2.atI h2
      exact ⟨_, vs, _, u, rfl, rfl, q1, hu, p.here r q3⟩
    · exact p.elim
  · exact p.elim
def oIxT : D → D → Sto → R D := fun x y S => match x, y with
  | .tup xs, .int i => match atI xs i with
    | some d => .ok d S
    | none => .bad
  | _, _ => .bad
theorem oIxT_eq {i : Int} {xs : List D} {d : D} (e : atI xs i = some d) : oIxT (.tup xs) (.int i) S = .ok d S := by simp [oIxT, e]
theorem opi_ixT : OpI K (rIxT K) oIxT := by
  intro φ S H x y v w X r hx hy Q p
  unfold oIxT at p
  split at p
  · split at p
    · rename_i d hd
      cases hy
      obtain ⟨a, vs, rfl, q1, q2⟩ := hx.tup_inv
      obtain ⟨u, hu, q3⟩ := q2.atI hd
      exact ⟨_, vs, _, u, rfl, rfl, q1, hu, p.here r q3⟩
    · exact p.elim
  · exact p.elim
def oIxS : D → D → Sto → R D := fun x y S => match x, y with
  | .str z, .int i => if z.length ≤ 100000 then match atI z.cps.toList i with
    | some c => .ok (.str ⟨#[c]⟩) S
    | none => .bad
    else .bad
  | _, _ => .bad
theorem oIxS_eq {z : Str} {i : Int} {c : Nat} (h : z.length ≤ 100000) (e : atI z.cps.toList i = some c) : oIxS (.str z) (.int i) S = .ok (.str ⟨#[c]⟩) S := by simp [oIxS, h, e]
theorem opi_ixS : OpI K rIxS oIxS := by
  intro φ S H x y v w X r hx hy Q p
  unfold oIxS at p
  split at p
  · split at p
    · rename_i hl
      split at p
      · rename_i c hd
        cases hx; cases hy
        exact ⟨_, _, c, rfl, rfl, sz_of hl, hd, p.here r (VR.str _)⟩
      · exact p.elim
    · exact p.elim
  · exact p.elim
/-! ### in -/
def scVs : List D → Option (List V)
  | [] => some []
  | x :: xs => (scV x).bind fun v => (scVs xs).map fun vs => v :: vs
theorem flat_of {d : D} {v : V} (h : scV d = some v) : flatV v = true := by cases d <;> simp [scV] at h <;> subst h <;> rfl
theorem scVs_eq : ∀ {xs : List D} {ws vs : List V}, scVs xs = some ws → VRs K φ n H xs vs → vs = ws ∧ ws.all flatV = true
  | [], ws, _, h, .nil => by cases h; exact ⟨rfl, rfl⟩
  | x :: xs, ws, _, h, .cons q t => by
    obtain ⟨v, h1, h2⟩ := Option.bind_eq_some_iff.mp h
    obtain ⟨us, h3, h4⟩ := Option.map_eq_some_iff.mp h2
    obtain ⟨e1, e2⟩ := scVs_eq h3 t
    subst h4
    rw [scV_eq h1 q, e1]
    exact ⟨rfl, by rw [List.all_cons, flat_of h1, e2]; rfl⟩
theorem scVs_ints : ∀ ns : List Int, scVs (ns.map D.int) = some (ns.map V.int)
  | [] => rfl
  | i :: r => by simp [scVs, scV, scVs_ints r]
theorem scVs_strs : ∀ ns : List Str, scVs (ns.map D.str) = some (ns.map V.str)
  | [] => rfl
  | i :: r => by simp [scVs, scV, scVs_strs r]
def itemsOf (S : Sto) : D → Option (List D)
  | .ref l => rdL S l
  | .tup xs => some xs
  | _ => none
@[simp] theorem itemsOf_ref {l : Nat} : itemsOf S (.ref l) = rdL S l := rfl
@[simp] theorem itemsOf_tup {l : List D} : itemsOf S (.tup l) = some l := rfl
theorem itemsOf_eq {y : D} {v : V} {xs : List D} (r : Rel K φ S H) (h : itemsOf S y = some xs) (hy : VR K φ S.length H y v) : ∃ p vs, v = .ref p ∧ (SqL K H p vs ∨ SqT K H p vs) ∧ VRs K φ S.length H xs vs := by
  cases y with
  | ref l =>
    obtain ⟨_, rfl⟩ := hy.ref_inv
    obtain ⟨vs, q1, q2⟩ := r.rd h
    exact ⟨_, vs, rfl, .inl q1, q2⟩
  | tup ys =>
    cases h
    obtain ⟨a, vs, rfl, q1, q2⟩ := hy.tup_inv
    exact ⟨_, vs, rfl, .inr q1, q2⟩
  | _ => cases h
def oIn (neg : Bool) : D → D → Sto → R D := fun x y S => match scV x, (itemsOf S y).bind scVs with
  | some u, some ws => .ok (.bl (if neg = true then !inV u ws else inV u ws)) S
  | _, _ => .bad
theorem opi_in {neg : Bool} : OpI K (rIn K neg) (oIn neg) := by
  intro φ S H x y v w X r hx hy Q p
  unfold oIn at p
  split at p
  · rename_i u ws h1 h2
    obtain ⟨xs, h3, h4⟩ := Option.bind_eq_some_iff.mp h2
    obtain ⟨a, vs, rfl, q1, q2⟩ := itemsOf_eq r h3 hy
    obtain ⟨rfl, q3⟩ := scVs_eq h4 q2
    rw [scV_eq h1 hx]
    exact ⟨a, _, rfl, q1, flat_of h1, q3, p.here r (VR.bl _)⟩
  · exact p.elim
/-! ### list + list, list * n, tuple + tuple, texts -/
def oCat : D → D → Sto → R D := fun x y S => match x, y with
  | .ref l, .ref b => match at_ S l, at_ S b with
    | some (.lst xs), some (.lst ys) => if xs.length + ys.length ≤ 100000 then .ok (.ref S.length) (S ++ [.lst (xs ++ ys)]) else .bad
    | _, _ => .bad
  | _, _ => .bad
theorem oCat_eq {l b : Nat} {xs ys : List D} (h : at_ S l = some (.lst xs)) (g : at_ S b = some (.lst ys)) (hl : xs.length + ys.length ≤ 100000) : oCat (.ref l) (.ref b) S = .ok (.ref S.length) (S ++ [.lst (xs ++ ys)]) := by simp [oCat, h, g, hl]
theorem opi_cat : OpI K rCat oCat := by
  intro φ S H x y v w X r hx hy Q p
  unfold oCat at p
  split at p
  · split at p
    · rename_i xs ys h1 h2
      split at p
      · rename_i hl
        cases hx; cases hy
        obtain ⟨vs, a1, a2⟩ := r.ob _ _ h1
        obtain ⟨us, b1, b2⟩ := r.ob _ _ h2
        exact ⟨_, _, vs, us, rfl, rfl, a1, b1, sz_of (by rw [a2.len, b2.len]; exact hl), fun a ha => p.new r ha (or_lst ha (a2.app b2))⟩
      · exact p.elim
    · exact p.elim
  · exact p.elim
def oCatT : D → D → Sto → R D := fun x y S => match x, y with
  | .tup xs, .tup ys => if xs ≠ [] ∧ xs.length + ys.length ≤ 100000 then .ok (.tup (xs ++ ys)) S else .bad
  | _, _ => .bad
def oAddS : D → D → Sto → R D := fun x y S => match x, y with
  | .str a, .str b => if a.length + b.length ≤ 100000 then .ok (.str (a ++ b)) S else .bad
  | _, _ => .bad
theorem oAddS_eq {a b : Str} (h : a.length + b.length ≤ 100000) : oAddS (.str a) (.str b) S = .ok (.str (a ++ b)) S := by simp [oAddS, h]
theorem opi_addS : OpI K (fun x y H Q => ∃ i j, x = .str i ∧ y = .str j ∧ i.length + j.length ≤ sizeLine ∧ Q (.str (i ++ j)) H) oAddS := by
  intro φ S H x y v w X r hx hy Q p
  unfold oAddS at p
  split at p
  · split at p
    · rename_i hl
      cases hx; cases hy
      exact ⟨_, _, rfl, rfl, sz_of hl, p.here r (VR.str _)⟩
    · exact p.elim
  · exact p.elim
def oLtS : D → D → Sto → R D := fun x y S => match x, y with
  | .str a, .str b => .ok (.bl (decide (a.cps.toList < b.cps.toList))) S
  | _, _ => .bad
theorem opi_ltS : OpI K (fun x y H Q => ∃ i j, x = .str i ∧ y = .str j ∧ Q (.bl (decide (i.cps.toList < j.cps.toList))) H) oLtS := by
  intro φ S H x y v w X r hx hy Q p
  unfold oLtS at p
  split at p
  · cases hx; cases hy
    exact ⟨_, _, rfl, rfl, p.here r (VR.bl _)⟩
  · exact p.elim
def oInS (neg : Bool) : D → D → Sto → R D := fun x y S => match x, y with
  | .str i, .str j => .ok (.bl (if neg = true then !(!(Builtin.Str.occurrences j i 0 j.length 1).isEmpty) else !(Builtin.Str.occurrences j i 0 j.length 1).isEmpty)) S
  | _, _ => .bad
theorem opi_inS : OpI K (fun x y H Q => ∃ i j, x = .str i ∧ y = .str j ∧ Q (.bl (!(Builtin.Str.occurrences j i 0 j.length 1).isEmpty)) H) (oInS false) := by
  intro φ S H x y v w X r hx hy Q p
  unfold oInS at p
  split at p
  · cases hx; cases hy
    exact ⟨_, _, rfl, rfl, p.here r (VR.bl _)⟩
  · exact p.elim
theorem opi_niS : OpI K (fun x y H Q => ∃ i j, x = .str i ∧ y = .str j ∧ Q (.bl (!(!(Builtin.Str.occurrences j i 0 j.length 1).isEmpty))) H) (oInS true) := by
  intro φ S H x y v w X r hx hy Q p
  unfold oInS at p
  split at p
  · cases hx; cases hy
    exact ⟨_, _, rfl, rfl, p.here r (VR.bl _)⟩
  · exact p.elim
theorem VRs.rep {xs : List D} {vs : List V} (h : VRs K φ n H xs vs) : ∀ k, VRs K φ n H (List.flatten (List.replicate k xs)) (List.flatten (List.replicate k vs))
  | 0 => .nil
  | k + 1 => by
    rw [List.replicate_succ, List.replicate_succ, List.flatten_cons, List.flatten_cons]
    exact h.app (VRs.rep h k)
/-! ### slices -/
def xNoPart : Env → Sto → R (Option Int) := fun _ S => .ok none S
def xPart (fa : Env → Sto → R D) : Env → Sto → R (Option Int) := fun env S => (fa env S).bind fun x S1 => match x with
  | .int i => .ok (some i) S1
  | _ => .bad
theorem imp_noPart : Imp K W same tNoPart xNoPart := fun φ S H env σ r e Q p => p.here r rfl
theorem imp_part {ta : TE} {fa : Env → Sto → R D} (ha : Imp K W (vr K) ta fa) : Imp K W same (tPart ta) (xPart fa) :=
  imp_bind (tb := fun (v : V) _ H (Q : Option Int → Hp → Prop) => ∃ i, v = .int i ∧ Q (some i) H) ha fun φ S H env σ x v rl e hv Q p => by
    split at p
    · cases hv
      exact ⟨_, rfl, p.here rl rfl⟩
    · exact p.elim
def SlI (K : PySem.W.Frag) (r : V → Option Int → Option Int → Hp → VK → Prop) (o : D → Option Int → Option Int → Sto → R D) : Prop := ∀ φ S H x v lo hi X, Rel K φ S H → VR K φ S.length H x v → ∀ Q, Post K (vr K) φ S.length H X (o x lo hi S) Q → r v lo hi H Q
def xSl (o : D → Option Int → Option Int → Sto → R D) (fa : Env → Sto → R D) (fl fh : Env → Sto → R (Option Int)) : Env → Sto → R D := fun env S => (fa env S).bind fun x S1 => (fl env S1).bind fun lo S2 => (fh env S2).bind fun hi S3 => o x lo hi S3
theorem imp_sl {r : V → Option Int → Option Int → Hp → VK → Prop} {o : D → Option Int → Option Int → Sto → R D} {ta : TE} {tl th : TO} {fa : Env → Sto → R D} {fl fh : Env → Sto → R (Option Int)} (hr : SlI K r o) (ha : Imp K W (vr K) ta fa) (hl : Imp K W same tl fl) (hh : Imp K W same th fh) :
    Imp K W (vr K) (tSl r ta tl th) (xSl o fa fl fh) :=
  imp_bind (tb := fun (v : V) σ H (Q : VK) => tl σ H fun l H2 => th σ H2 fun u H3 => r v l u H3 Q) ha fun φ S H env σ x v rl e hv Q p => hl.go rl e p fun φ1 S1 H1 lo lo' f r1 e1 h1 p1 => hh.go r1 e1 p1 fun φ2 S2 H2 hi hi' f2 r2 e2 h2 p2 => by
    obtain rfl : lo = lo' := h1
    obtain rfl : hi = hi' := h2
    exact hr φ2 S2 H2 x v lo hi _ r2 (VR.fut f2 (VR.fut f hv)) Q p2
/-- a slice's items -/
def cutX {α : Type} (xs : List α) (lo hi : Option Int) : List α := (xs.drop (HT.sIx xs.length 0 lo)).take (HT.sIx xs.length xs.length hi - HT.sIx xs.length 0 lo)
theorem VRs.cut {xs : List D} {vs : List V} {lo hi : Option Int} (h : VRs K φ n H xs vs) : VRs K φ n H (cutX xs lo hi) (cutV vs lo hi) := by
  unfold cutX cutV
  rw [h.len]
  exact (h.drop _).take _
def oSlL : D → Option Int → Option Int → Sto → R D := fun x lo hi S => match x with
  | .ref l => match rdL S l with
    | some xs => .ok (.ref S.length) (S ++ [.lst (cutX xs lo hi)])
    | none => .bad
  | _ => .bad
theorem oSlL_eq {l : Nat} {xs : List D} {lo hi : Option Int} (h : rdL S l = some xs) : oSlL (.ref l) lo hi S = .ok (.ref S.length) (S ++ [.lst (cutX xs lo hi)]) := by simp [oSlL, h]
theorem sli_L : SlI K (rSlL K) oSlL := by
  intro φ S H x v lo hi X r hx Q p
  unfold oSlL at p
  split at p
  · split at p
    · rename_i xs h
      cases hx
      obtain ⟨vs, q1, q2⟩ := r.rd h
      exact ⟨_, vs, rfl, q1, fun a ha => p.new r ha (or_lst ha q2.cut)⟩
    · exact p.elim
  · exact p.elim
/-! ### built-ins -/
def CallI (K : PySem.W.Frag) (r : List V → Hp → VK → Prop) (o : List D → Sto → R D) : Prop := ∀ φ S H ds vs X, Rel K φ S H → VRs K φ S.length H ds vs → ∀ Q, Post K (vr K) φ S.length H X (o ds S) Q → r vs H Q
def xCB (o : List D → Sto → R D) (fa : Env → Sto → R (List D)) : Env → Sto → R D := fun env S => (fa env S).bind o
theorem imp_cb {r : List V → Hp → VK → Prop} {o : List D → Sto → R D} {ta : TA} {fa : Env → Sto → R (List D)} (hr : CallI K r o) (ha : Imp K W (vrs K) ta fa) : Imp K W (vr K) (tCB r ta) (xCB o fa) :=
  imp_bind (tb := fun (vs : List V) _ H (Q : VK) => r vs H Q) ha fun φ S H env σ x v rl e hv Q p => hr φ S H x v _ rl hv Q p
def bLen : List D → Sto → R D := fun ds S => match ds with
  | [y] => match itemsOf S y with
    | some xs => .ok (.int xs.length) S
    | none => .bad
  | _ => .bad
theorem bLen_ref {l : Nat} {xs : List D} (h : rdL S l = some xs) : bLen [.ref l] S = .ok (.int xs.length) S := by simp [bLen, h]
@[simp] theorem bLen_tup {xs : List D} : bLen [.tup xs] S = .ok (.int xs.length) S := rfl
theorem VRs.one_inv {y : D} {vs : List V} (h : VRs K φ n H [y] vs) : ∃ v, vs = [v] ∧ VR K φ n H y v := by
  cases h with
  | cons h t => cases t; exact ⟨_, rfl, h⟩
theorem VRs.two_inv {y z : D} {vs : List V} (h : VRs K φ n H [y, z] vs) : ∃ v w, vs = [v, w] ∧ VR K φ n H y v ∧ VR K φ n H z w := by
  cases h with
  | cons h t =>
    obtain ⟨w, rfl, g⟩ := t.one_inv
    exact ⟨_, w, rfl, h, g⟩
theorem cbi_len : CallI K (rLenQ K) bLen := by
  intro φ S H ds vs X r h Q p
  unfold bLen at p
  split at p
  · split at p
    · rename_i y xs e
      obtain ⟨v, rfl, hv⟩ := h.one_inv
      obtain ⟨a, ws, rfl, q1, q2⟩ := itemsOf_eq r e hv
      refine ⟨a, ws, rfl, q1, ?_⟩
      rw [q2.len]
      exact p.here r (VR.int _)
    · exact p.elim
  · exact p.elim
def bList : List D → Sto → R D := fun ds S => match ds with
  | [y] => match itemsOf S y with
    | some xs => .ok (.ref S.length) (S ++ [.lst xs])
    | none => .bad
  | _ => .bad
theorem bList_ref {l : Nat} {xs : List D} (h : rdL S l = some xs) : bList [.ref l] S = .ok (.ref S.length) (S ++ [.lst xs]) := by simp [bList, h]
@[simp] theorem bList_tup {xs : List D} : bList [.tup xs] S = .ok (.ref S.length) (S ++ [.lst xs]) := rfl
theorem cbi_list : CallI K (rListQ K) bList := by
  intro φ S H ds vs X r h Q p
  unfold bList at p
  split at p
  · split at p
    · rename_i y xs e
      obtain ⟨v, rfl, hv⟩ := h.one_inv
      obtain ⟨a, ws, rfl, q1, q2⟩ := itemsOf_eq r e hv
      exact ⟨a, ws, rfl, q1, fun l hl => p.new r hl (or_lst hl q2)⟩
    · exact p.elim
  · exact p.elim
def bTuple : List D → Sto → R D := fun ds S => match ds with
  | [y] => match itemsOf S y with
    | some xs => .ok (.tup xs) S
    | none => .bad
  | _ => .bad
theorem bTuple_ref {l : Nat} {xs : List D} (h : rdL S l = some xs) : bTuple [.ref l] S = .ok (.tup xs) S := by simp [bTuple, h]
@[simp] theorem bTuple_tup {xs : List D} : bTuple [.tup xs] S = .ok (.tup xs) S := rfl
theorem cbi_tuple : CallI K (rTupQ K) bTuple := by
  intro φ S H ds vs X r h Q p
  unfold bTuple at p
  split at p
  · split at p
    · rename_i y xs e
      obtain ⟨v, rfl, hv⟩ := h.one_inv
      obtain ⟨a, ws, rfl, q1, q2⟩ := itemsOf_eq r e hv
      refine ⟨a, ws, rfl, ?_⟩
      rcases q1 with q1 | q1
      · exact .inl ⟨q1, fun l hl => p.tup r hl q2⟩
      · exact .inr ⟨q1, p.here r (VR.tup q1 q2)⟩
    · exact p.elim
  · exact p.elim
def bInt1 (g : Int → D) : List D → Sto → R D := fun ds S => match ds with
  | [.int i] => .ok (g i) S
  | _ => .bad
@[simp] theorem bInt1_eq {g : Int → D} {i : Int} : bInt1 g [.int i] S = .ok (g i) S := rfl
theorem cbi_abs : CallI K (fun xs H Q => ∃ i, xs = [.int i] ∧ Q (.int (if i < 0 then -i else i)) H) (bInt1 fun i => .int (if i < 0 then -i else i)) := by
  intro φ S H ds vs X r h Q p
  unfold bInt1 at p
  split at p
  · obtain ⟨v, rfl, hv⟩ := h.one_inv
    cases hv
    exact ⟨_, rfl, p.here r (VR.int _)⟩
  · exact p.elim
def bInt2 (g : Int → Int → D) : List D → Sto → R D := fun ds S => match ds with
  | [.int i, .int j] => .ok (g i j) S
  | _ => .bad
@[simp] theorem bInt2_eq {g : Int → Int → D} {i j : Int} : bInt2 g [.int i, .int j] S = .ok (g i j) S := rfl
theorem cbi_max2 : CallI K (fun xs H Q => ∃ i j, xs = [.int i, .int j] ∧ Q (.int (if j > i then j else i)) H) (bInt2 fun i j => .int (if j > i then j else i)) := by
  intro φ S H ds vs X r h Q p
  unfold bInt2 at p
  split at p
  · obtain ⟨v, w, rfl, hv, hw⟩ := h.two_inv
    cases hv; cases hw
    exact ⟨_, _, rfl, p.here r (VR.int _)⟩
  · exact p.elim
theorem cbi_min2 : CallI K (fun xs H Q => ∃ i j, xs = [.int i, .int j] ∧ Q (.int (if j < i then j else i)) H) (bInt2 fun i j => .int (if j < i then j else i)) := by
  intro φ S H ds vs X r h Q p
  unfold bInt2 at p
  split at p
  · obtain ⟨v, w, rfl, hv, hw⟩ := h.two_inv
    cases hv; cases hw
    exact ⟨_, _, rfl, p.here r (VR.int _)⟩
  · exact p.elim
def bInt : List D → Sto → R D := fun ds S => match ds with
  | [.int i] => .ok (.int i) S
  | [.bl b] => .ok (.int (if b = true then 1 else 0)) S
  | _ => .bad
@[simp] theorem bInt_int {i : Int} : bInt [.int i] S = .ok (.int i) S := rfl
@[simp] theorem bInt_bl {i : Bool} : bInt [.bl i] S = .ok (.int (if i = true then 1 else 0)) S := rfl
theorem cbi_int : CallI K (fun xs H Q => (∃ i, xs = [.int i] ∧ Q (.int i) H) ∨ ∃ k, xs = [.bl k] ∧ Q (.int (if k then 1 else 0)) H) bInt := by
  intro φ S H ds vs X r h Q p
  unfold bInt at p
  split at p
  · obtain ⟨v, rfl, hv⟩ := h.one_inv
    cases hv
    exact .inl ⟨_, rfl, p.here r (VR.int _)⟩
  · obtain ⟨v, rfl, hv⟩ := h.one_inv
    cases hv
    exact .inr ⟨_, rfl, p.here r (VR.int _)⟩
  · exact p.elim
def bLenS : List D → Sto → R D := fun ds S => match ds with
  | [.str z] => if z.length ≤ 100000 then .ok (.int z.length) S else .bad
  | _ => .bad
theorem cbi_lenS : CallI K (fun xs H Q => ∃ z, xs = [.str z] ∧ z.length ≤ sizeLine ∧ Q (.int z.length) H) bLenS := by
  intro φ S H ds vs X r h Q p
  unfold bLenS at p
  split at p
  · split at p
    · rename_i hl
      obtain ⟨v, rfl, hv⟩ := h.one_inv
      cases hv
      exact ⟨_, rfl, sz_of hl, p.here r (VR.int _)⟩
    · exact p.elim
  · exact p.elim
/-- lists of ints -/
def intsOf : List D → Option (List Int)
  | [] => some []
  | .int i :: r => (intsOf r).map fun ns => i :: ns
  | _ => none
theorem intsOf_map : ∀ ns : List Int, intsOf (ns.map D.int) = some ns
  | [] => rfl
  | i :: r => by simp [intsOf, intsOf_map r]
theorem intsOf_inv : ∀ {xs : List D} {ns : List Int}, intsOf xs = some ns → xs = ns.map D.int
  | [], _, h => by cases h; rfl
  | .int i :: r, _, h => by
    obtain ⟨ns, h1, h2⟩ := Option.map_eq_some_iff.mp (show (intsOf r).map (fun ns => i :: ns) = some _ from h)
    subst h2
    rw [intsOf_inv h1]
    rfl
  | .non :: _, _, h => by cases h
  | .bl _ :: _, _, h => by cases h
  | .str _ :: _, _, h => by cases h
  | .ref _ :: _, _, h => by cases h
  | .tup _ :: _, _, h => by cases h
def bInts (g : List Int → Sto → R D) : List D → Sto → R D := fun ds S => match ds with
  | [.ref l] => match (rdL S l).bind intsOf with
    | some ns => g ns S
    | none => .bad
  | _ => .bad
theorem bInts_eq {g : List Int → Sto → R D} {l : Nat} {ns : List Int} (h : rdL S l = some (ns.map D.int)) : bInts g [.ref l] S = g ns S := by simp [bInts, h, intsOf_map]
theorem bInts_inv {ds : List D} {vs : List V} {g : List Int → Sto → R D} {Q : VK} (r : Rel K φ S H) (h : VRs K φ S.length H ds vs) (p : Post K (vr K) φ S.length H X (bInts g ds S) Q) : ∃ (a : Addr) (ns : List Int), vs = [.ref a] ∧ SqL K H a (ns.map V.int) ∧ Post K (vr K) φ S.length H X (g ns S) Q := by
  unfold bInts at p
  split at p
  · split at p
    · rename_i ns e
      obtain ⟨xs, h1, h2⟩ := Option.bind_eq_some_iff.mp e
      obtain ⟨v, rfl, hv⟩ := h.one_inv
      cases hv
      obtain ⟨ws, q1, q2⟩ := r.rd h1
      rw [intsOf_inv h2] at q2
      rw [q2.ints_inv] at q1
      exact ⟨_, ns, rfl, q1, p⟩
    · exact p.elim
  · exact p.elim
theorem cbi_sum : CallI K (rSum K) (bInts fun ns S => .ok (.int ns.sum) S) := by
  intro φ S H ds vs X r h Q p
  obtain ⟨a, ns, rfl, q1, p⟩ := bInts_inv r h p
  exact ⟨a, ns, rfl, q1, p.here r (VR.int _)⟩
/-- the greatest, the least of some ints -/
def gMax : List Int → Int
  | [] => 0
  | i :: r => r.foldl max i
def gMin : List Int → Int
  | [] => 0
  | i :: r => r.foldl min i
theorem foldl_max : ∀ (r : List Int) (i : Int), i ≤ r.foldl max i ∧ (∀ y ∈ r, y ≤ r.foldl max i) ∧ (r.foldl max i = i ∨ r.foldl max i ∈ r)
  | [], i => ⟨Int.le_refl _, by simp, .inl rfl⟩
  | y :: r, i => by
    obtain ⟨h1, h2, h3⟩ := foldl_max r (max i y)
    rw [List.foldl_cons]
    refine ⟨by omega, fun z hz => ?_, ?_⟩
    · rcases List.mem_cons.mp hz with rfl | hz
      · omega
      · exact h2 z hz
    · rcases h3 with h3 | h3
      · by_cases hm : i ≤ y
        · exact .inr (by rw [h3]; simp [Int.max_eq_right hm])
        · exact .inl (by rw [h3]; exact Int.max_eq_left (by omega))
      · exact .inr (List.mem_cons_of_mem _ h3)
theorem foldl_min : ∀ (r : List Int) (i : Int), r.foldl min i ≤ i ∧ (∀ y ∈ r, r.foldl min i ≤ y) ∧ (r.foldl min i = i ∨ r.foldl min i ∈ r)
  | [], i => ⟨Int.le_refl _, by simp, .inl rfl⟩
  | y :: r, i => by
    obtain ⟨h1, h2, h3⟩ := foldl_min r (min i y)
    rw [List.foldl_cons]
    refine ⟨by omega, fun z hz => ?_, ?_⟩
    · rcases List.mem_cons.mp hz with rfl | hz
      · omega
      · exact h2 z hz
    · rcases h3 with h3 | h3
      · by_cases hm : i ≤ y
        · exact .inl (by rw [h3]; exact Int.min_eq_left hm)
        · exact .inr (by rw [h3]; simp [Int.min_eq_right (show y ≤ i by omega)])
      · exact .inr (List.mem_cons_of_mem _ h3)
theorem gMax_spec {ns : List Int} (h : 0 < ns.length) : gMax ns ∈ ns ∧ ∀ y ∈ ns, y ≤ gMax ns := by
  cases ns with
  | nil => cases h
  | cons i r =>
    obtain ⟨h1, h2, h3⟩ := foldl_max r i
    refine ⟨?_, fun y hy => ?_⟩
    · rcases h3 with h3 | h3
      · exact List.mem_cons.mpr (.inl h3)
      · exact List.mem_cons_of_mem _ h3
    · rcases List.mem_cons.mp hy with rfl | hy
      · exact h1
      · exact h2 y hy
theorem gMin_spec {ns : List Int} (h : 0 < ns.length) : gMin ns ∈ ns ∧ ∀ y ∈ ns, gMin ns ≤ y := by
  cases ns with
  | nil => cases h
  | cons i r =>
    obtain ⟨h1, h2, h3⟩ := foldl_min r i
    refine ⟨?_, fun y hy => ?_⟩
    · rcases h3 with h3 | h3
      · exact List.mem_cons.mpr (.inl h3)
      · exact List.mem_cons_of_mem _ h3
    · rcases List.mem_cons.mp hy with rfl | hy
      · exact h1
      · exact h2 y hy
theorem cbi_max : CallI K (rMax K) (bInts fun ns S => if 0 < ns.length then .ok (.int (gMax ns)) S else .bad) := by
  intro φ S H ds vs X r h Q p
  obtain ⟨a, ns, rfl, q1, p⟩ := bInts_inv r h p
  split at p
  · rename_i hl
    refine ⟨a, ns, rfl, q1, hl, fun m hm hle => ?_⟩
    obtain ⟨g1, g2⟩ := gMax_spec hl
    obtain rfl : m = gMax ns := Int.le_antisymm (g2 m hm) (hle _ g1)
    exact p.here r (VR.int _)
  · exact p.elim
theorem cbi_min : CallI K (rMin K) (bInts fun ns S => if 0 < ns.length then .ok (.int (gMin ns)) S else .bad) := by
  intro φ S H ds vs X r h Q p
  obtain ⟨a, ns, rfl, q1, p⟩ := bInts_inv r h p
  split at p
  · rename_i hl
    refine ⟨a, ns, rfl, q1, hl, fun m hm hle => ?_⟩
    obtain ⟨g1, g2⟩ := gMin_spec hl
    obtain rfl : m = gMin ns := Int.le_antisymm (hle _ g1) (g2 m hm)
    exact p.here r (VR.int _)
  · exact p.elim
/-! ### truth -/
def truD (S : Sto) : D → Option Bool
  | .non => some false
  | .bl b => some b
  | .int i => some (i != 0)
  | .str y => if y.length ≤ 100000 then some ((y.length : Int) != 0) else none
  | .ref l => match at_ S l with
    | some (.lst xs) => some (!xs.isEmpty)
    | some (.rol xs) => some (!xs.isEmpty)
    | some (.dK kvs) => some (!kvs.isEmpty)
    | _ => none
  | .tup xs => some (!xs.isEmpty)
theorem VRs.empty {xs : List D} {vs : List V} (h : VRs K φ n H xs vs) : vs.isEmpty = xs.isEmpty := by cases h <;> rfl
theorem truD_eq {d : D} {v : V} {k : Bool} (r : Rel K φ S H) (h : truD S d = some k) (q : VR K φ S.length H d v) : TruV K v H k := by
  cases q with
  | non => cases h; rfl
  | bl b => cases h; rfl
  | int i => cases h; rfl
  | str y =>
    simp only [truD] at h
    split at h
    · rename_i hl
      cases h
      exact ⟨sz_of hl, rfl⟩
    · cases h
  | ref hl =>
    simp only [truD] at h
    split at h
    · rename_i xs e
      cases h
      obtain ⟨vs, h1, h2⟩ := r.ob _ _ e
      exact .inl ⟨vs, sq_of h1, by rw [h2.empty]⟩
    · rename_i xs e
      cases h
      obtain ⟨vs, h1, h2⟩ := r.rd (show rdL S _ = some xs by unfold rdL; rw [e])
      exact .inl ⟨vs, h1, by rw [h2.empty]⟩
    · rename_i xs e
      cases h
      obtain ⟨vs, h1, h2⟩ := r.ob _ _ e
      exact .inr (.inr ⟨vs, h1, by cases h2 <;> rfl⟩)
    · cases h
  | tup hl t =>
    cases h
    exact .inr (.inl ⟨_, hl, by rw [t.empty]⟩)
def xTru (fa : Env → Sto → R D) : Env → Sto → R Bool := fun env S => (fa env S).bind fun x S1 => match truD S1 x with
  | some b => .ok b S1
  | none => .bad
theorem imp_tru {ta : TE} {fa : Env → Sto → R D} (ha : Imp K W (vr K) ta fa) : Imp K W same (tTru K ta) (xTru fa) :=
  imp_bind (tb := fun (v : V) _ H (Q : Bool → Hp → Prop) => ∃ k, TruV K v H k ∧ Q k H) ha fun φ S H env σ x v rl e hv Q p => by
    split at p
    · rename_i b hb
      exact ⟨b, truD_eq rl hb hv, p.here rl rfl⟩
    · exact p.elim
end
end Mi

namespace Mi
open PySem PySem.Spec PyProof.Rows L2 Evl My
section
variable {K : PySem.W.Frag} {φ φ1 φ' : Nat → Addr} {n n1 n' : Nat} {H H1 H' : Hp} {X : XK} {W W1 : Wc K} {S : Sto} {α β γ δ : Type} {ρ : Rl α β}
/-! ### statements -/
def PostS (K : PySem.W.Frag) (W : Wc K) (φ : Nat → Addr) (n : Nat) (H : Hp) (r : RS) (D : Ends) : Prop := match r with
  | .nx e S' => ∀ φ' H' σ', Fut K φ n H φ' S'.length H' → Rel K φ' S' H' → ER K φ' S'.length H' e σ' → D.nx σ' H'
  | .ret d S' => ∀ φ' H' v, Fut K φ n H φ' S'.length H' → Rel K φ' S' H' → VR K φ' S'.length H' d v → D.rt v H'
  | .bk e S' => ∀ φ' H' σ', Fut K φ n H φ' S'.length H' → Rel K φ' S' H' → ER K φ' S'.length H' e σ' → D.bk σ' H'
  | .ct e S' => ∀ φ' H' σ', Fut K φ n H φ' S'.length H' → Rel K φ' S' H' → ER K φ' S'.length H' e σ' → D.ct σ' H'
  | .exc c fs e S' => ∀ φ' H' σ' dd fv, Fut K φ n H φ' S'.length H' → Rel K φ' S' H' → ER K φ' S'.length H' e σ' → H' dd = some (.xd fv) → KR K φ' S'.length H' fs fv → W (.ref (He.ga K c)) (some dd) σ' H'
  | .bad => False
theorem PostS.fut {r : RS} {D : Ends} (f : Fut K φ n H φ1 n1 H1) (h : PostS K W φ n H r D) : PostS K W φ1 n1 H1 r D := by
  cases r with
  | nx e S' => exact fun φ' H' v f' => h φ' H' v (f.trans f')
  | ret e S' => exact fun φ' H' v f' => h φ' H' v (f.trans f')
  | bk e S' => exact fun φ' H' v f' => h φ' H' v (f.trans f')
  | ct e S' => exact fun φ' H' v f' => h φ' H' v (f.trans f')
  | exc c fs e S' => exact fun φ' H' σ' dd fv f' => h φ' H' σ' dd fv (f.trans f')
  | bad => exact h
def ImpS (K : PySem.W.Frag) (W : Wc K) (t : TS) (f : Env → Sto → RS) : Prop := ∀ φ S H env σ, Rel K φ S H → EW K W φ S.length H env σ → ∀ D, PostS K W φ S.length H (f env S) D → t D σ H
theorem Imp.goS {ta : L2.St → Hp → (β → Hp → Prop) → Prop} {fa : Env → Sto → R α} (ha : Imp K W ρ ta fa) {env : Env} {σ : L2.St} {g : α → Sto → RS} {tb : β → Hp → Prop} (r : Rel K φ S H) (e : EW K W φ S.length H env σ) {D : Ends}
    (p : PostS K W φ S.length H ((fa env S).bindS env g) D)
    (hb : ∀ φ1 S1 H1 x v, Fut K φ S.length H φ1 S1.length H1 → Rel K φ1 S1 H1 → EW K W φ1 S1.length H1 env σ → ρ φ1 S1.length H1 x v → PostS K W φ1 S1.length H1 (g x S1) D → tb v H1) : ta σ H tb := by
  refine ha φ S H env σ r e _ ?_
  cases hf : fa env S with
  | ok x S1 =>
    rw [hf] at p
    exact fun φ' H' v f r' hv => hb φ' S1 H' x v f r' (e.fut f) hv (p.fut f)
  | exc c fs S1 =>
    rw [hf] at p
    exact fun φ' H' dd fv f r' hd hk => p φ' H' σ dd fv f r' (e.fut f).e hd hk
  | bad =>
    rw [hf] at p
    exact p
def xNext : Env → Sto → RS := fun env S => .nx env S
def xSeq (f g : Env → Sto → RS) : Env → Sto → RS := fun env S => (f env S).seq g
def xBreak : Env → Sto → RS := fun env S => .bk env S
def xCont : Env → Sto → RS := fun env S => .ct env S
def xRetN : Env → Sto → RS := fun _ S => .ret .non S
def xRet (fa : Env → Sto → R D) : Env → Sto → RS := fun env S => (fa env S).bindS env fun d S1 => .ret d S1
def xDrop (fa : Env → Sto → R D) : Env → Sto → RS := fun env S => (fa env S).bindS env fun _ S1 => .nx env S1
def xIfS (ft : Env → Sto → R Bool) (f g : Env → Sto → RS) : Env → Sto → RS := fun env S => (ft env S).bindS env fun b S1 => if b = true then f env S1 else g env S1
theorem imp_next : ImpS K W tNext xNext := fun φ S H env σ r e D p => p φ H σ Fut.refl r e.e
theorem imp_break : ImpS K W tBreak xBreak := fun φ S H env σ r e D p => p φ H σ Fut.refl r e.e
theorem imp_cont : ImpS K W tCont xCont := fun φ S H env σ r e D p => p φ H σ Fut.refl r e.e
theorem imp_retN : ImpS K W tRetN xRetN := fun φ S H env σ r e D p => p φ H .non Fut.refl r VR.non
theorem imp_seq {t u : TS} {f g : Env → Sto → RS} (ht : ImpS K W t f) (hu : ImpS K W u g) : ImpS K W (tSeq t u) (xSeq f g) := by
  intro φ S H env σ r e D p
  refine ht φ S H env σ r e _ ?_
  unfold xSeq at p
  cases hf : f env S with
  | nx e1 S1 =>
    rw [hf] at p
    exact fun φ' H' σ' fu r' e' => hu φ' S1 H' e1 σ' r' ⟨e', W.mono fu e.c⟩ D (PostS.fut fu p)
  | ret d S1 => rw [hf] at p; exact p
  | bk e1 S1 => rw [hf] at p; exact p
  | ct e1 S1 => rw [hf] at p; exact p
  | exc c fs e1 S1 => rw [hf] at p; exact p
  | bad => rw [hf] at p; exact p
theorem imp_ret {ta : TE} {fa : Env → Sto → R D} (ha : Imp K W (vr K) ta fa) : ImpS K W (tRet ta) (xRet fa) := by
  intro φ S H env σ r e D p
  exact ha.goS r e p fun φ1 S1 H1 x v f r1 e1 hv p1 => p1 φ1 H1 v Fut.refl r1 hv
theorem imp_drop {ta : TE} {fa : Env → Sto → R D} (ha : Imp K W (vr K) ta fa) : ImpS K W (tDrop ta) (xDrop fa) := by
  intro φ S H env σ r e D p
  exact ha.goS (tb := fun _ H1 => D.nx σ H1) r e p fun φ1 S1 H1 x v f r1 e1 hv p1 => p1 φ1 H1 σ Fut.refl r1 e1.e
theorem imp_ifS {tt : TT} {t u : TS} {ft : Env → Sto → R Bool} {f g : Env → Sto → RS} (htt : Imp K W same tt ft) (ht : ImpS K W t f) (hu : ImpS K W u g) : ImpS K W (tIfS tt t u) (xIfS ft f g) := by
  intro φ S H env σ r e D p
  refine htt.goS (tb := fun b H1 => if b = true then t D σ H1 else u D σ H1) r e p fun φ1 S1 H1 x v f1 r1 e1 hv p1 => ?_
  obtain rfl : x = v := hv
  cases x with
  | true => exact ht φ1 S1 H1 env σ r1 e1 D p1
  | false => exact hu φ1 S1 H1 env σ r1 e1 D p1
/-! ### targets -/
def Sets (ts : List Nat) (σ σ' : L2.St) : Prop := σ'.length = σ.length ∧ ∀ i, i ∉ ts → σ'[i]? = σ[i]?
theorem Sets.refl {ts : List Nat} {σ : L2.St} : Sets ts σ σ := ⟨rfl, fun _ _ => rfl⟩
theorem Sets.trans {ts us : List Nat} {σ σ1 σ2 : L2.St} (a : Sets ts σ σ1) (b : Sets us σ1 σ2) : Sets (ts ++ us) σ σ2 := ⟨b.1.trans a.1, fun i hi => by
  rw [List.mem_append, not_or] at hi
  rw [b.2 i hi.2, a.2 i hi.1]⟩
abbrev XG := D → Env → Sto → R Env
def PostG (K : PySem.W.Frag) (ts : List Nat) (φ : Nat → Addr) (n : Nat) (H : Hp) (σ : L2.St) (r : R Env) (Q : L2.St → Hp → Prop) : Prop := match r with
  | .ok e S' => ∀ φ' H' σ', Fut K φ n H φ' S'.length H' → Rel K φ' S' H' → ER K φ' S'.length H' e σ' → Sets ts σ σ' → Q σ' H'
  | _ => False
def ImpG (K : PySem.W.Frag) (ts : List Nat) (g : TG) (fg : XG) : Prop := ∀ φ S H env σ d v, Rel K φ S H → ER K φ S.length H env σ → VR K φ S.length H d v → ∀ Q, PostG K ts φ S.length H σ (fg d env S) Q → g v σ H Q
def gNameX (i : Nat) : XG := fun d env S => .ok (env.set i (some d)) S
theorem impg_name {i : Nat} : ImpG K [i] (gName i) (gNameX i) := fun φ S H env σ d v r e hv Q p => p φ H _ Fut.refl r (e.set i hv) ⟨List.length_set .., fun j hj => List.getElem?_set_ne (by simpa [eq_comm] using hj)⟩
abbrev XGs := List D → Env → Sto → R Env
def ImpGs (K : PySem.W.Frag) (ts : List Nat) (g : TGs) (fg : XGs) : Prop := ∀ φ S H env σ ds vs, Rel K φ S H → ER K φ S.length H env σ → VRs K φ S.length H ds vs → ∀ Q, PostG K ts φ S.length H σ (fg ds env S) Q → g vs σ H Q
def gNilX : XGs := fun ds env S => match ds with
  | [] => .ok env S
  | _ => .bad
def gConsX (f : XG) (fr : XGs) : XGs := fun ds env S => match ds with
  | d :: r => match f d env S with
    | .ok e S1 => fr r e S1
    | _ => .bad
  | _ => .bad
def gTupX (k : Nat) (f : XGs) : XG := fun d env S => match d with
  | .tup xs => if xs.length = k then f xs env S else .bad
  | _ => .bad
theorem impgs_nil : ImpGs K [] gNil gNilX := by
  intro φ S H env σ ds vs r e hv Q p
  cases hv with
  | nil => exact ⟨rfl, p φ H σ Fut.refl r e Sets.refl⟩
  | cons _ _ => exact p.elim
theorem impgs_cons {ts us : List Nat} {g : TG} {gs : TGs} {f : XG} {fr : XGs} (h : ImpG K ts g f) (hr : ImpGs K us gs fr) : ImpGs K (ts ++ us) (gCons g gs) (gConsX f fr) := by
  intro φ S H env σ ds vs r e hv Q p
  cases hv with
  | nil => exact p.elim
  | @cons x v xs vs q t =>
    refine ⟨v, vs, rfl, h φ S H env σ x v r e q _ ?_⟩
    show PostG K ts φ S.length H σ (f x env S) _
    unfold gConsX at p
    cases hf : f x env S with
    | ok e1 S1 =>
      simp only [hf] at p
      intro φ' H' σ' fu r' e' s'
      refine hr φ' S1 H' e1 σ' xs vs r' e' (VRs.fut fu t) Q ?_
      cases hg : fr xs e1 S1 with
      | ok e2 S2 =>
        rw [hg] at p
        exact fun φ2 H2 σ2 f2 r2 e2 s2 => p φ2 H2 σ2 (fu.trans f2) r2 e2 (s'.trans s2)
      | exc c fs S2 => rw [hg] at p; exact p
      | bad => rw [hg] at p; exact p
    | exc c fs S1 => simp only [hf] at p; exact p.elim
    | bad => simp only [hf] at p; exact p.elim
theorem impg_tup {ts : List Nat} {k : Nat} {gs : TGs} {f : XGs} (h : ImpGs K ts gs f) : ImpG K ts (gTup K k gs) (gTupX k f) := by
  intro φ S H env σ d v r e hv Q p
  unfold gTupX at p
  split at p
  · split at p
    · rename_i hl
      obtain ⟨a, vs, rfl, q1, q2⟩ := hv.tup_inv
      exact ⟨a, vs, rfl, q1, by rw [q2.len, hl], h φ S H env σ _ vs r e q2 Q p⟩
    · exact p.elim
  · exact p.elim
/-- x[i] = v, x a list -/
def setLX (x i v : D) (S : Sto) : Option Sto := match x, i with
  | .ref l, .int k => match at_ S l with
    | some (.lst xs) => (ixN xs.length k).map fun j => S.set l (.lst (xs.set j v))
    | _ => none
  | _, _ => none
theorem setLX_eq {l : Nat} {xs : List D} {k : Int} {j : Nat} {v : D} (h : at_ S l = some (.lst xs)) (hj : ixN xs.length k = some j) : setLX (.ref l) (.int k) v S = some (S.set l (.lst (xs.set j v))) := by simp [setLX, h, hj]
def gSubX (fo fi : Env → Sto → R D) : XG := fun d env S => (fo env S).bind fun x S1 => (fi env S1).bind fun i S2 => match setLX x i d S2 with
  | some S3 => .ok env S3
  | none => .bad
theorem impg_sub {to ti : TE} {fo fi : Env → Sto → R D} (ho : Imp K (W0 K) (vr K) to fo) (hi : Imp K (W0 K) (vr K) ti fi) : ImpG K [] (gSub to ti rSetL) (gSubX fo fi) := by
  intro φ S H env σ d v r e hv Q p
  unfold gSubX at p
  refine ho φ S H env σ r ⟨e, trivial⟩ _ ?_
  cases hf : fo env S with
  | ok x S1 =>
    rw [hf] at p
    intro φ1 H1 u f1 r1 hu
    refine hi φ1 S1 H1 env σ r1 ⟨e.fut f1, trivial⟩ _ ?_
    simp only [R.bind_ok] at p
    cases hg : fi env S1 with
    | ok y S2 =>
      rw [hg] at p
      intro φ2 H2 w f2 r2 hw
      simp only [R.bind_ok] at p
      cases hs : setLX x y d S2 with
      | none => rw [hs] at p; exact p.elim
      | some S3 =>
        rw [hs] at p
        unfold setLX at hs
        split at hs
        · split at hs
          · rename_i l k _ xs hl
            obtain ⟨j, hj, rfl⟩ := Option.map_eq_some_iff.mp hs
            obtain ⟨_, rfl⟩ := (VR.fut f2 hu).ref_inv
            cases hw
            obtain ⟨ws, q1, q2⟩ := r2.ob _ _ hl
            have hv2 := VR.fut (f1.trans f2) hv
            have fw : Fut K φ2 S2.length H2 φ2 S2.length (upd H2 (φ2 l) (.lst (ws.set j v))) := Fut.upd q1 trivial
            have q := r2.put (o' := .lst (xs.set j d)) (u := .lst (ws.set j v)) hl rfl rfl ⟨_, upd_same, (q2.set j hv2).fut fw⟩
            have fz := (f1.trans f2).trans q.2
            exact ⟨_, ws, _, j, rfl, rfl, q1, by rw [q2.len]; exact hj, p _ _ _ fz q.1 (e.fut fz) Sets.refl⟩
          · cases hs
        · cases hs
    | exc c fs S2 => rw [hg] at p; exact p.elim
    | bad => rw [hg] at p; exact p.elim
  | exc c fs S1 => rw [hf] at p; exact p.elim
  | bad => rw [hf] at p; exact p.elim
def toS (r : R Env) : RS := match r with
  | .ok e S => .nx e S
  | _ => .bad
@[simp] theorem toS_ok {e : Env} : toS (.ok e S) = .nx e S := rfl
theorem PostG.of {ts : List Nat} {σ : L2.St} {r : R Env} {D : Ends} (p : PostS K W φ n H (toS r) D) : PostG K ts φ n H σ r D.nx := by
  cases r with
  | ok e S1 => exact fun φ' H' σ' f r e _ => p φ' H' σ' f r e
  | _ => exact p
def xAsg (fa : Env → Sto → R D) (fg : XG) : Env → Sto → RS := fun env S => (fa env S).bindS env fun x S1 => toS (fg x env S1)
theorem imp_asg {ta : TE} {g : TG} {fa : Env → Sto → R D} {fg : XG} {ts : List Nat} (ha : Imp K W (vr K) ta fa) (hg : ImpG K ts g fg) : ImpS K W (tAsg ta g) (xAsg fa fg) := by
  intro φ S H env σ r e D p
  exact ha.goS r e p fun φ1 S1 H1 x v f r1 e1 hv p1 => hg φ1 S1 H1 env σ x v r1 e1.e hv _ (PostG.of p1)
/-- x += e of ints -/
def xAug (i : Nat) (fa : Env → Sto → R D) (o : D → D → Sto → R D) : Env → Sto → RS := fun env S => (xVar i env S).bindS env fun x S1 => (fa env S1).bindS env fun y S2 => (o x y S2).bindS env fun z S3 => .nx (env.set i (some z)) S3
theorem imp_aug {i : Nat} {ta : TE} {fa : Env → Sto → R D} {op : Int → Int → Int} (ha : Imp K W (vr K) ta fa) : ImpS K W (tAug i ta (ipI op)) (xAug i fa (oI fun i j => .int (op i j))) := by
  intro φ S H env σ r e D p
  unfold xAug xVar at p
  cases hx : env[i]? with
  | none => simp only [hx] at p; exact p.elim
  | some o =>
    cases o with
    | none => simp only [hx] at p; exact p.elim
    | some d =>
      simp only [hx, R.bindS_ok] at p
      obtain ⟨v, hv, q⟩ := e.get hx
      refine ⟨v, hv, ha.goS r e p fun φ1 S1 H1 y w f1 r1 e1 hw p1 => ?_⟩
      unfold oI at p1
      split at p1
      · cases q
        cases hw
        exact ⟨_, _, rfl, rfl, p1 φ1 H1 _ Fut.refl r1 (e1.set i (VR.int _)).e⟩
      · exact p1.elim
/-! ### what is walked -/
structure Itx where
  items : List D
  ok : Sto → Prop
def itr (K : PySem.W.Frag) : Rl Itx It := fun φ n H it J => ∀ φ1 S1 H1, Fut K φ n H φ1 S1.length H1 → Rel K φ1 S1 H1 → it.ok S1 →
  (∀ i x, it.items[i]? = some x → J.go i H1 ∧ ∀ v H2, J.yld i H1 v H2 → Ex H1 H2 ∧ VR K φ1 S1.length H2 x v) ∧ J.stop it.items.length H1
/-- for x in l -/
def iL (fa : Env → Sto → R D) : Env → Sto → R Itx := fun env S => (fa env S).bind fun x S1 => match x with
  | .ref l => match rdL S1 l with
    | some xs => .ok ⟨xs, fun S => rdL S l = some xs⟩ S1
    | none => .bad
  | _ => .bad
theorem imp_iL {ta : TE} {fa : Env → Sto → R D} (ha : Imp K W (vr K) ta fa) : Imp K W (itr K) (iList K ta) (iL fa) :=
  imp_bind (tb := fun (v : V) _ H (Q : It → Hp → Prop) => ∃ a, v = .ref a ∧ (∃ xs, SqL K H a xs) ∧ Q (Itl K a) H) ha fun φ S H env σ x v rl e hv Q p => by
    split at p
    · split at p
      · rename_i l _ xs h
        obtain ⟨hl, rfl⟩ := hv.ref_inv
        obtain ⟨vs, q1, q2⟩ := rl.rd h
        refine ⟨_, rfl, ⟨vs, q1⟩, p.here rl fun φ1 S1 H1 f r1 ok => ?_⟩
        obtain ⟨ws, b1, b2⟩ := r1.rd ok
        rw [f.ag l hl] at b1
        refine ⟨fun i x hx => ?_, ws, b1, by rw [b2.len]; exact Nat.le_refl _⟩
        obtain ⟨w, hw, hr⟩ := b2.get hx
        refine ⟨⟨ws, w, b1, hw⟩, fun v H2 y => ?_⟩
        obtain ⟨rfl, y⟩ := y
        have := y ws b1
        rw [hw] at this
        cases this
        exact ⟨Ex.refl _, hr⟩
      · exact p.elim
    · exact p.elim
/-- for x in t, a tuple -/
def iT (fa : Env → Sto → R D) : Env → Sto → R Itx := fun env S => (fa env S).bind fun x S1 => match x with
  | .tup xs => .ok ⟨xs, fun _ => True⟩ S1
  | _ => .bad
theorem imp_iT {ta : TE} {fa : Env → Sto → R D} (ha : Imp K W (vr K) ta fa) : Imp K W (itr K) (iTup K ta) (iT fa) :=
  imp_bind (tb := fun (v : V) _ H (Q : It → Hp → Prop) => ∃ a, v = .ref a ∧ (∃ xs, SqT K H a xs) ∧ Q (Itt K a) H) ha fun φ S H env σ x v rl e hv Q p => by
    split at p
    · rename_i xs
      obtain ⟨a, vs, rfl, q1, q2⟩ := hv.tup_inv
      refine ⟨a, rfl, ⟨vs, q1⟩, p.here rl fun φ1 S1 H1 f r1 ok => ?_⟩
      have b1 := f.tp _ _ q1
      have b2 := VRs.fut f q2
      refine ⟨fun i x hx => ?_, vs, b1, by rw [b2.len]; exact Nat.le_refl _⟩
      obtain ⟨w, hw, hr⟩ := b2.get hx
      refine ⟨⟨vs, w, b1, hw⟩, fun v H2 y => ?_⟩
      obtain ⟨rfl, y⟩ := y
      have := y vs b1
      rw [hw] at this
      cases this
      exact ⟨Ex.refl _, hr⟩
    · exact p.elim
/-- the items of a range -/
def rngD (lo : Int) (k : Nat) : List D := (List.range k).map fun (i : Nat) => .int (lo + (i : Int))
@[simp] theorem rngD_len {lo : Int} {k : Nat} : (rngD lo k).length = k := by simp [rngD]
theorem rngD_get {lo : Int} {k i : Nat} {x : D} (h : (rngD lo k)[i]? = some x) : i < k ∧ x = .int (lo + (i : Int)) := by
  have hi := (List.getElem?_eq_some_iff.mp h).1
  rw [rngD_len] at hi
  rw [rngD, List.getElem?_map, List.getElem?_range hi] at h
  exact ⟨hi, (Option.some.inj h).symm⟩
def RngOk (i : Int) : Prop := -(2 ^ 62) ≤ i ∧ i < 2 ^ 62
theorem rngOk {i : Int} (h : -1000000000 ≤ i ∧ i ≤ 1000000000) : RngOk i := by unfold RngOk; omega
open Classical in
noncomputable def iR1 (fa : Env → Sto → R (List D)) : Env → Sto → R Itx := fun env S => (fa env S).bind fun ds S1 => match ds with
  | [.int j] => if RngOk j then .ok ⟨rngD 0 j.toNat, fun _ => True⟩ S1 else .bad
  | _ => .bad
open Classical in
noncomputable def iR2 (fa : Env → Sto → R (List D)) : Env → Sto → R Itx := fun env S => (fa env S).bind fun ds S1 => match ds with
  | [.int i, .int j] => if RngOk i ∧ RngOk j then .ok ⟨rngD i (j - i).toNat, fun _ => True⟩ S1 else .bad
  | _ => .bad
theorem itr_rng {lo : Int} {k : Nat} : itr K φ n H ⟨rngD lo k, fun _ => True⟩ (Itr lo k) := fun φ1 S1 H1 f r1 _ => ⟨fun i x hx => by
    obtain ⟨hi, rfl⟩ := rngD_get hx
    refine ⟨hi, fun v H2 y => ?_⟩
    obtain ⟨rfl, rfl⟩ := y
    exact ⟨Ex.refl _, VR.int _⟩, by
    show k ≤ (rngD lo k).length
    rw [rngD_len]
    exact Nat.le_refl _⟩
theorem imp_iR1 {ta : TA} {fa : Env → Sto → R (List D)} (ha : Imp K W (vrs K) ta fa) : Imp K W (itr K) (iRng1 ta) (iR1 fa) :=
  imp_bind (tb := fun (vs : List V) _ H (Q : It → Hp → Prop) => ∃ j : Int, vs = [.int j] ∧ -(2 ^ 62) ≤ j ∧ j < 2 ^ 62 ∧ Q (Itr 0 j.toNat) H) ha fun φ S H env σ x v rl e hv Q p => by
    split at p
    · rename_i j
      obtain ⟨w, rfl, hw⟩ := hv.one_inv
      cases hw
      split at p
      · rename_i hb
        exact ⟨j, rfl, hb.1, hb.2, p.here rl itr_rng⟩
      · exact p.elim
    · exact p.elim
theorem imp_iR2 {ta : TA} {fa : Env → Sto → R (List D)} (ha : Imp K W (vrs K) ta fa) : Imp K W (itr K) (iRng2 ta) (iR2 fa) :=
  imp_bind (tb := fun (vs : List V) _ H (Q : It → Hp → Prop) => ∃ i j : Int, vs = [.int i, .int j] ∧ (-(2 ^ 62) ≤ i ∧ i < 2 ^ 62 ∧ -(2 ^ 62) ≤ j ∧ j < 2 ^ 62) ∧ Q (Itr i (j - i).toNat) H) ha fun φ S H env σ x v rl e hv Q p => by
    split at p
    · rename_i i j
      obtain ⟨w, u, rfl, hw, hu⟩ := hv.two_inv
      cases hw; cases hu
      split at p
      · rename_i hb
        exact ⟨i, j, rfl, ⟨hb.1.1, hb.1.2, hb.2.1, hb.2.2⟩, p.here rl itr_rng⟩
      · exact p.elim
    · exact p.elim
/-- items with their places -/
def enumD : Nat → List D → List D
  | _, [] => []
  | k, x :: r => .tup [.int (k : Int), x] :: enumD (k + 1) r
theorem enumD_get : ∀ {xs : List D} {k i : Nat} {x : D}, (enumD k xs)[i]? = some x → ∃ y, xs[i]? = some y ∧ x = .tup [.int ((k + i : Nat) : Int), y]
  | [], _, _, _, h => by cases h
  | y :: r, k, 0, x, h => ⟨y, rfl, by cases h; rfl⟩
  | y :: r, k, i + 1, x, h => by
    obtain ⟨z, h1, h2⟩ := enumD_get (xs := r) (k := k + 1) (i := i) h
    exact ⟨z, h1, by rw [h2, show k + 1 + i = k + (i + 1) by omega]⟩
@[simp] theorem enumD_len : ∀ {xs : List D} {k : Nat}, (enumD k xs).length = xs.length
  | [], _ => rfl
  | _ :: r, k => congrArg Nat.succ (enumD_len (xs := r))
def iE (fa : Env → Sto → R (List D)) : Env → Sto → R Itx := fun env S => (fa env S).bind fun ds S1 => match ds with
  | [.ref l] => match rdL S1 l with
    | some xs => .ok ⟨enumD 0 xs, fun S => rdL S l = some xs⟩ S1
    | none => .bad
  | _ => .bad
theorem imp_iE {ta : TA} {fa : Env → Sto → R (List D)} (ha : Imp K W (vrs K) ta fa) : Imp K W (itr K) (iEnum K ta) (iE fa) :=
  imp_bind (tb := fun (vs : List V) _ H (Q : It → Hp → Prop) => ∃ a xs, vs = [.ref a] ∧ SqL K H a xs ∧ Q (Ite K a) H) ha fun φ S H env σ x v rl e hv Q p => by
    split at p
    · split at p
      · rename_i l _ xs h
        obtain ⟨z, rfl, hz⟩ := hv.one_inv
        obtain ⟨hl, rfl⟩ := hz.ref_inv
        obtain ⟨vs, q1, q2⟩ := rl.rd h
        refine ⟨_, vs, rfl, q1, p.here rl fun φ1 S1 H1 f r1 ok => ?_⟩
        obtain ⟨ws, b1, b2⟩ := r1.rd ok
        rw [f.ag l hl] at b1
        refine ⟨fun i x hx => ?_, ws, b1, by rw [b2.len, enumD_len]; exact Nat.le_refl _⟩
        obtain ⟨y, hy, rfl⟩ := enumD_get hx
        obtain ⟨w, hw, hr⟩ := b2.get hy
        refine ⟨⟨ws, w, b1, hw⟩, fun v H2 yy => ?_⟩
        obtain ⟨T, x', rfl, hT, rfl, f1⟩ := yy
        have := f1 ws b1
        rw [hw] at this
        cases this
        refine ⟨Ex.new hT, VR.tup (st_of upd_same) (.cons ?_ (.cons (VR.fut (Fut.ex (Ex.new hT)) hr) .nil))⟩
        rw [Nat.zero_add]
        exact VR.int _
      · exact p.elim
    · exact p.elim
/-- items by two -/
def zipD : List D → List D → List D
  | x :: r, y :: s => .tup [x, y] :: zipD r s
  | _, _ => []
theorem zipD_get : ∀ {xs ys : List D} {i : Nat} {z : D}, (zipD xs ys)[i]? = some z → ∃ x y, xs[i]? = some x ∧ ys[i]? = some y ∧ z = .tup [x, y]
  | x :: r, y :: s, 0, _, h => ⟨x, y, rfl, rfl, by cases h; rfl⟩
  | x :: r, y :: s, i + 1, _, h => zipD_get (xs := r) (ys := s) (i := i) h
  | [], _, _, _, h => by simp [zipD] at h
  | _ :: _, [], _, _, h => by simp [zipD] at h
theorem zipD_len : ∀ {xs ys : List D}, (zipD xs ys).length = min xs.length ys.length
  | x :: r, y :: s => by simp [zipD, zipD_len (xs := r) (ys := s)]
  | [], _ => by simp [zipD]
  | _ :: _, [] => by simp [zipD]
def iZ (fa : Env → Sto → R (List D)) : Env → Sto → R Itx := fun env S => (fa env S).bind fun ds S1 => match ds with
  | [.ref l, .ref m] => match rdL S1 l, rdL S1 m with
    | some xs, some ys => .ok ⟨zipD xs ys, fun S => rdL S l = some xs ∧ rdL S m = some ys⟩ S1
    | _, _ => .bad
  | _ => .bad
theorem imp_iZ {ta : TA} {fa : Env → Sto → R (List D)} (ha : Imp K W (vrs K) ta fa) : Imp K W (itr K) (iZip K ta) (iZ fa) :=
  imp_bind (tb := fun (vs : List V) _ H (Q : It → Hp → Prop) => ∃ a b xs ys, vs = [.ref a, .ref b] ∧ SqL K H a xs ∧ SqL K H b ys ∧ Q (Itz K a b) H) ha fun φ S H env σ x v rl e hv Q p => by
    split at p
    · split at p
      · rename_i l m _ _ xs ys h g
        obtain ⟨z1, z2, rfl, hz1, hz2⟩ := hv.two_inv
        obtain ⟨hl, rfl⟩ := hz1.ref_inv
        obtain ⟨hm, rfl⟩ := hz2.ref_inv
        obtain ⟨vs, q1, q2⟩ := rl.rd h
        obtain ⟨us, q3, q4⟩ := rl.rd g
        refine ⟨_, _, vs, us, rfl, q1, q3, p.here rl fun φ1 S1 H1 f r1 ok => ?_⟩
        obtain ⟨ws, b1, b2⟩ := r1.rd ok.1
        obtain ⟨ts, c1, c2⟩ := r1.rd ok.2
        rw [f.ag l hl] at b1
        rw [f.ag m hm] at c1
        refine ⟨fun i x hx => ?_, ws, ts, b1, c1, by rw [b2.len, c2.len, zipD_len]; omega⟩
        obtain ⟨y, z, hy, hz, rfl⟩ := zipD_get hx
        obtain ⟨w, hw, hr⟩ := b2.get hy
        obtain ⟨t, ht, hs⟩ := c2.get hz
        refine ⟨⟨ws, ts, w, t, b1, c1, hw, ht⟩, fun v H2 yy => ?_⟩
        obtain ⟨T, x', y', rfl, hT, rfl, f1, f2⟩ := yy
        have e1 := f1 ws b1
        have e2 := f2 ts c1
        rw [hw] at e1
        rw [ht] at e2
        cases e1; cases e2
        exact ⟨Ex.new hT, VR.tup (st_of upd_same) (.cons (VR.fut (Fut.ex (Ex.new hT)) hr) (.cons (VR.fut (Fut.ex (Ex.new hT)) hs) .nil))⟩
      · exact p.elim
    · exact p.elim
/-! ### for -/
open Classical in
noncomputable def loopX (ok : Sto → Prop) (fg : XG) (fb : Env → Sto → RS) : List D → Env → Sto → RS
  | [], env, S => if ok S then .nx env S else .bad
  | x :: r, env, S => if ok S then (match fg x env S with
      | .ok e1 S1 => match fb e1 S1 with
        | .nx e S' => loopX ok fg fb r e S'
        | .ct e S' => loopX ok fg fb r e S'
        | q => q
      | _ => .bad) else .bad
def finX : RS → RS
  | .bk e S => .nx e S
  | .ct _ _ => .bad
  | r => r
noncomputable def xFor (fi : Env → Sto → R Itx) (fg : XG) (fb : Env → Sto → RS) : Env → Sto → RS := fun env S => (fi env S).bindS env fun it S1 => finX (loopX it.ok fg fb it.items env S1)
noncomputable def xForE (fi : Env → Sto → R Itx) (fg : XG) (fb fe : Env → Sto → RS) : Env → Sto → RS := fun env S => (fi env S).bindS env fun it S1 => match loopX it.ok fg fb it.items env S1 with
  | .nx e S2 => fe e S2
  | r => finX r
theorem PostS.body {r : RS} {D : Ends} {N : L2.St → Hp → Prop} {g : RS → RS} (p : PostS K W φ n H (g r) D)
    (h1 : ∀ e S1, r = .nx e S1 ∨ r = .ct e S1 → ∀ φ' H' σ', Fut K φ n H φ' S1.length H' → Rel K φ' S1 H' → ER K φ' S1.length H' e σ' → N σ' H')
    (h2 : ∀ e S1, r = .bk e S1 → g r = .nx e S1) (h3 : ∀ d S1, r = .ret d S1 → g r = r) (h4 : ∀ c fs e S1, r = .exc c fs e S1 → g r = r) (h5 : r = .bad → g r = .bad) : PostS K W φ n H r { D with nx := N, ct := N, bk := D.nx } := by
  cases r with
  | nx e S1 => exact h1 e S1 (.inl rfl)
  | ct e S1 => exact h1 e S1 (.inr rfl)
  | bk e S1 => rw [h2 e S1 rfl] at p; exact p
  | ret d S1 => rw [h3 d S1 rfl] at p; exact p
  | exc c fs e S1 => rw [h4 c fs e S1 rfl] at p; exact p
  | bad => rw [h5 rfl] at p; exact p
/-- the turns of a for -/
theorem for_core {J : It} {it : Itx} {g : TG} {fg : XG} {ts : List Nat} {tb : TS} {fb : Env → Sto → RS} {u : TS} {D : Ends} {fin : RS → RS} (hg : ImpG K ts g fg) (hb : ImpS K W tb fb) (hJ : itr K φ n H it J) {env : Env} {σ : L2.St} (r : Rel K φ S H) (e : EW K W φ S.length H env σ) (hn : n = S.length)
    (p : PostS K W φ S.length H (fin (loopX it.ok fg fb it.items env S)) D)
    (fnx : ∀ φ' S' H' env' σ', Rel K φ' S' H' → EW K W φ' S'.length H' env' σ' → PostS K W φ' S'.length H' (fin (.nx env' S')) D → u D σ' H')
    (fbk : ∀ e S, fin (.bk e S) = .nx e S) (fret : ∀ d S, fin (.ret d S) = .ret d S) (fexc : ∀ c fs e S, fin (.exc c fs e S) = .exc c fs e S) (fbad : fin .bad = .bad) :
    ∃ Wv : Nat → Nat → L2.St → Hp → Prop, (∃ m, Wv 0 m σ H) ∧ ∀ i m σ H, Wv i m σ H →
      (J.stop i H ∧ u D σ H) ∨ (J.go i H ∧ ∃ N : L2.St → Hp → Prop, (∀ σ' H', N σ' H' → ∃ m', m' < m ∧ Wv (i + 1) m' σ' H') ∧ ∀ x H', J.yld i H x H' → g x σ H' fun σ2 H2 => tb { D with nx := N, ct := N, bk := D.nx } σ2 H2) := by
  subst hn
  refine ⟨fun i m σ' H' => m = it.items.length - i ∧ i ≤ it.items.length ∧ ∃ φ' S' env', Fut K φ S.length H φ' S'.length H' ∧ Rel K φ' S' H' ∧ EW K W φ' S'.length H' env' σ' ∧ PostS K W φ' S'.length H' (fin (loopX it.ok fg fb (it.items.drop i) env' S')) D,
    ⟨it.items.length, rfl, Nat.zero_le _, φ, S, env, Fut.refl, r, e, p⟩, ?_⟩
  rintro i m σ' H' ⟨rfl, hi, φ', S', env', f', r', e', p'⟩
  by_cases hlt : i < it.items.length
  · rw [List.drop_eq_getElem_cons hlt, loopX] at p'
    split at p'
    · rename_i hok
      obtain ⟨a1, _⟩ := hJ φ' S' H' f' r' hok
      obtain ⟨b1, b2⟩ := a1 i _ (List.getElem?_eq_getElem hlt)
      refine .inr ⟨b1, fun σ2 H2 => ∃ φ2 S2 env2, Fut K φ S.length H φ2 S2.length H2 ∧ Rel K φ2 S2 H2 ∧ EW K W φ2 S2.length H2 env2 σ2 ∧ PostS K W φ2 S2.length H2 (fin (loopX it.ok fg fb (it.items.drop (i + 1)) env2 S2)) D,
        fun σ2 H2 q => ⟨it.items.length - (i + 1), by omega, rfl, hlt, q⟩, fun v H2 y => ?_⟩
      obtain ⟨ex, hv⟩ := b2 v H2 y
      have fx : Fut K φ' S'.length H' φ' S'.length H2 := Fut.ex ex
      refine hg φ' S' H2 env' σ' _ v (r'.ex ex) (e'.fut fx).e hv _ ?_
      cases hgx : fg it.items[i] env' S' with
      | ok e1 S1 =>
        simp only [hgx] at p'
        intro φ2 H3 σ2 f2 r2 e2 _
        refine hb φ2 S1 H3 e1 σ2 r2 ⟨e2, W.mono (fx.trans f2) e'.c⟩ _ ?_
        have p2 := p'.fut (fx.trans f2)
        refine PostS.body (g := fun q => fin (match q with
          | .nx e S' => loopX it.ok fg fb (it.items.drop (i + 1)) e S'
          | .ct e S' => loopX it.ok fg fb (it.items.drop (i + 1)) e S'
          | q => q)) p2 ?_ ?_ ?_ ?_ ?_
        · intro e3 S3 hr φ3 H4 σ3 f3 r3 e3'
          refine ⟨φ3, S3, e3, ((f'.trans fx).trans f2).trans f3, r3, ⟨e3', W.mono ((fx.trans f2).trans f3) e'.c⟩, ?_⟩
          rcases hr with hr | hr <;> (rw [hr] at p2; exact p2.fut f3)
        · intro e3 S3 hr
          simp only [hr, fbk]
        · intro d S3 hr
          simp only [hr, fret]
        · intro c fs e3 S3 hr
          simp only [hr, fexc]
        · intro hr
          simp only [hr, fbad]
      | exc c fs S1 => simp only [hgx, fbad] at p'; exact p'.elim
      | bad => simp only [hgx, fbad] at p'; exact p'.elim
    · rw [fbad] at p'
      exact p'.elim
  · have hd : it.items.drop i = [] := List.drop_eq_nil_of_le (by omega)
    rw [hd, loopX] at p'
    split at p'
    · rename_i hok
      obtain ⟨_, a2⟩ := hJ φ' S' H' f' r' hok
      have : i = it.items.length := by omega
      subst this
      exact .inl ⟨a2, fnx φ' S' H' env' σ' r' e' p'⟩
    · rw [fbad] at p'
      exact p'.elim
theorem imp_for {wi : TI} {fi : Env → Sto → R Itx} {g : TG} {fg : XG} {ts : List Nat} {tb : TS} {fb : Env → Sto → RS} (hi : Imp K W (itr K) wi fi) (hg : ImpG K ts g fg) (hb : ImpS K W tb fb) : ImpS K W (tFor wi g tb) (xFor fi fg fb) := by
  intro φ S H env σ r e D p
  refine hi.goS r e p fun φ1 S1 H1 it J f1 r1 e1 hJ p1 => ?_
  exact for_core (u := tNext) (fin := finX) hg hb hJ r1 e1 rfl p1 (fun φ' S' H' env' σ' r' e' q => q φ' H' σ' Fut.refl r' e'.e) (fun _ _ => rfl) (fun _ _ => rfl) (fun _ _ _ _ => rfl) rfl
theorem imp_forE {wi : TI} {fi : Env → Sto → R Itx} {g : TG} {fg : XG} {ts : List Nat} {tb u : TS} {fb fu : Env → Sto → RS} (hi : Imp K W (itr K) wi fi) (hg : ImpG K ts g fg) (hb : ImpS K W tb fb) (hu : ImpS K W u fu) : ImpS K W (tForE wi g tb u) (xForE fi fg fb fu) := by
  intro φ S H env σ r e D p
  refine hi.goS r e p fun φ1 S1 H1 it J f1 r1 e1 hJ p1 => ?_
  exact for_core (u := u) (fin := fun r => match r with
    | .nx e S2 => fu e S2
    | r => finX r) hg hb hJ r1 e1 rfl p1 (fun φ' S' H' env' σ' r' e' q => hu φ' S' H' env' σ' r' e' D q) (fun _ _ => rfl) (fun _ _ => rfl) (fun _ _ _ _ => rfl) rfl
end
end Mi

namespace Mi
open PySem PySem.Spec PyProof.Rows L2 Evl My
section
variable {K : PySem.W.Frag} {φ φ1 φ' : Nat → Addr} {n n1 n' : Nat} {H H1 H' : Hp} {X : XK} {W W1 W2 : Wc K} {S : Sto} {α β γ δ : Type} {ρ : Rl α β}
/-! ### while -/
def whileX (ft : Env → Sto → R Bool) (fb : Env → Sto → RS) : Nat → Env → Sto → RS
  | 0, _, _ => .bad
  | k + 1, env, S => (ft env S).bindS env fun b S1 => if b = true then (match fb env S1 with
      | .nx e S2 => whileX ft fb k e S2
      | .ct e S2 => whileX ft fb k e S2
      | r => r) else .nx env S1
open Classical in
noncomputable def xWhile (ft : Env → Sto → R Bool) (fb : Env → Sto → RS) : Env → Sto → RS := fun env S => if h : ∃ k, whileX ft fb k env S ≠ .bad then finX (whileX ft fb h.choose env S) else .bad
theorem whileX_more {ft : Env → Sto → R Bool} {fb : Env → Sto → RS} : ∀ {k : Nat} {env : Env} {S : Sto}, whileX ft fb k env S ≠ .bad → whileX ft fb (k + 1) env S = whileX ft fb k env S
  | 0, _, _, h => absurd rfl h
  | k + 1, env, S, h => by
    rw [whileX]
    conv => rhs; rw [whileX]
    rw [whileX] at h
    cases ht : ft env S with
    | ok b S1 =>
      rw [ht] at h
      simp only [R.bindS_ok] at h ⊢
      cases b with
      | false => rfl
      | true =>
        simp only [if_true] at h ⊢
        cases hb : fb env S1 with
        | nx e S2 =>
          simp only [hb] at h ⊢
          exact whileX_more h
        | ct e S2 =>
          simp only [hb] at h ⊢
          exact whileX_more h
        | _ => rfl
    | _ => rfl
theorem whileX_le {ft : Env → Sto → R Bool} {fb : Env → Sto → RS} {k j : Nat} {env : Env} {S : Sto} (h : whileX ft fb k env S ≠ .bad) (l : k ≤ j) : whileX ft fb j env S = whileX ft fb k env S := by
  induction l with
  | refl => rfl
  | step _ ih => rw [whileX_more (by rw [ih]; exact h), ih]
theorem xWhile_eq {ft : Env → Sto → R Bool} {fb : Env → Sto → RS} {k : Nat} {env : Env} {S : Sto} {r : RS} (h : whileX ft fb k env S = r) (hr : r ≠ .bad) : xWhile ft fb env S = finX r := by
  have hk : whileX ft fb k env S ≠ .bad := by rw [h]; exact hr
  have he : ∃ k, whileX ft fb k env S ≠ .bad := ⟨k, hk⟩
  unfold xWhile
  rw [dif_pos he]
  have hc := he.choose_spec
  rcases Nat.le_total k he.choose with l | l
  · rw [whileX_le hk l, h]
  · rw [← whileX_le hc l, h]
theorem imp_while {tt : TT} {tb : TS} {ft : Env → Sto → R Bool} {fb : Env → Sto → RS} (ht : Imp K W same tt ft) (hb : ImpS K W tb fb) : ImpS K W (tWhile tt tb) (xWhile ft fb) := by
  intro φ S H env σ r e D p
  unfold xWhile at p
  split at p
  · rename_i he
    refine ⟨fun m σ' H' => ∃ φ' S' env', Rel K φ' S' H' ∧ EW K W φ' S'.length H' env' σ' ∧ PostS K W φ' S'.length H' (finX (whileX ft fb m env' S')) D, ⟨_, φ, S, env, r, e, p⟩, ?_⟩
    rintro m σ' H' ⟨φ', S', env', r', e', p'⟩
    cases m with
    | zero => exact p'.elim
    | succ m =>
      rw [whileX] at p'
      refine ht φ' S' H' env' σ' r' e' _ ?_
      cases hf : ft env' S' with
      | ok b S1 =>
        rw [hf] at p'
        simp only [R.bindS_ok] at p'
        intro φ2 H2 v f2 r2 hv
        obtain rfl : b = v := hv
        have p2 := p'.fut f2
        cases b with
        | false => exact p2 φ2 H2 σ' Fut.refl r2 (e'.fut f2).e
        | true =>
          refine ⟨fun σ3 H3 => ∃ φ' S' env', Rel K φ' S' H3 ∧ EW K W φ' S'.length H3 env' σ3 ∧ PostS K W φ' S'.length H3 (finX (whileX ft fb m env' S')) D, fun σ3 H3 q => ⟨m, Nat.lt_succ_self _, q⟩, hb φ2 S1 H2 env' σ' r2 (e'.fut f2) _ ?_⟩
          simp only [if_true] at p2
          refine PostS.body (g := fun q => finX (match q with
            | .nx e S2 => whileX ft fb m e S2
            | .ct e S2 => whileX ft fb m e S2
            | r => r)) p2 ?_ ?_ ?_ ?_ ?_
          · intro e3 S3 hr φ3 H4 σ3 f3 r3 e3'
            refine ⟨φ3, S3, e3, r3, ⟨e3', W.mono (f2.trans f3) e'.c⟩, ?_⟩
            rcases hr with hr | hr <;> (rw [hr] at p2; exact p2.fut f3)
          · intro e3 S3 hr
            simp only [hr]
            rfl
          · intro d S3 hr
            simp only [hr]
            rfl
          · intro c fs e3 S3 hr
            simp only [hr]
            rfl
          · intro hr
            simp only [hr]
            rfl
      | exc c fs S1 =>
        rw [hf] at p'
        exact fun φ2 H2 dd fv f2 r2 hd hk => p' φ2 H2 σ' dd fv f2 r2 (e'.fut f2).e hd hk
      | bad => rw [hf] at p'; exact p'
  · exact p.elim
/-! ### comprehensions -/
def nox {α : Type} (r : R α) : R α := match r with
  | .ok d S => .ok d S
  | _ => .bad
@[simp] theorem nox_ok {α : Type} {d : α} {S : Sto} : nox (.ok d S) = .ok d S := rfl
@[simp] theorem nox_bad {α : Type} : nox (R.bad : R α) = .bad := rfl
theorem nox_inv {ρ : Rl α β} {r : R α} {Q : β → Hp → Prop} (p : Post K ρ φ n H X (nox r) Q) : ∃ d S1, r = .ok d S1 ∧ Post K ρ φ n H X (.ok d S1) Q := by
  cases r with
  | ok d S1 => exact ⟨d, S1, rfl, p⟩
  | exc c fs S1 => exact p.elim
  | bad => exact p.elim
open Classical in
/-- the turns of a comprehension: the new list lies at l -/
noncomputable def compX (ok : Sto → Prop) (fg : XG) (ft : Env → Sto → R Bool) (fe : Env → Sto → R D) (env0 : Env) (l : Nat) : List D → Sto → R D
  | [], S => if ok S then .ok (.ref l) S else .bad
  | x :: r, S => if ok S then (match fg x env0 S with
      | .ok e1 S1 => match ft e1 S1 with
        | .ok true S2 => match fe e1 S2 with
          | .ok y S3 => match at_ S3 l with
            | some (.lst acc) => if acc.length < 100000 then compX ok fg ft fe env0 l r (S3.set l (.lst (acc ++ [y]))) else .bad
            | _ => .bad
          | _ => .bad
        | .ok false S2 => compX ok fg ft fe env0 l r S2
        | _ => .bad
      | _ => .bad) else .bad
noncomputable def xLc (fi : Env → Sto → R Itx) (fg : XG) (ft : Env → Sto → R Bool) (fe : Env → Sto → R D) (vs : List Nat) : Env → Sto → R D := fun env S => (fi env S).bind fun it S1 => compX it.ok fg ft fe (wipeE env vs) S1.length it.items (S1 ++ [.lst []])
theorem wipe_get {σ : L2.St} {i : Nat} : ∀ {vs : List Nat}, i ∈ vs → i < σ.length → (wipe σ vs)[i]? = some none
  | [], h, _ => by cases h
  | v :: vs, h, hl => by
    unfold wipe
    by_cases hv : v = i
    · subst hv
      rw [List.getElem?_set_self (by rw [wipe_length]; exact hl)]
    · rw [List.getElem?_set_ne hv]
      rcases List.mem_cons.mp h with h | h
      · exact absurd h.symm hv
      · exact wipe_get h hl
theorem wipe_sets {σ σ2 : L2.St} {ts vs : List Nat} (h : Sets ts (wipe σ vs) σ2) (hs : ∀ i ∈ ts, i ∈ vs) : wipe σ2 vs = wipe σ vs := by
  obtain ⟨hl, hg⟩ := h
  rw [wipe_length] at hl
  refine List.ext_getElem? fun i => ?_
  by_cases hi : i ∈ vs
  · by_cases hlt : i < σ.length
    · rw [wipe_get hi (by omega), wipe_get hi hlt]
    · rw [List.getElem?_eq_none (by rw [wipe_length]; omega), List.getElem?_eq_none (by rw [wipe_length]; omega)]
  · rw [wipe_out hi]
    exact hg i fun z => hi (hs i z)
theorem imp_lc {wi : TI} {fi : Env → Sto → R Itx} {g : TG} {fg : XG} {ts : List Nat} {tt : TT} {ft : Env → Sto → R Bool} {te : TE} {fe : Env → Sto → R D} {vs : List Nat} (hi : Imp K W (itr K) wi fi) (hg : ImpG K ts g fg) (ht : Imp K (W0 K) same tt ft) (he : Imp K (W0 K) (vr K) te fe) (hs : ∀ i ∈ ts, i ∈ vs) :
    Imp K W (vr K) (tLc wi g tt te vs) (xLc fi fg ft fe vs) :=
  imp_bind (tb := fun (J : It) σ H1 (Q : VK) => ∀ D, H1 D = none → ∃ W : Nat → Nat → Hp → Prop, (∃ m, W 0 m (upd H1 D (.lst []))) ∧ ∀ i m H, W i m H →
  (J.stop i H ∧ Q (.ref D) H) ∨ (J.go i H ∧ ∃ Nx : Hp → Prop, (∀ H', Nx H' → ∃ m', m' < m ∧ W (i + 1) m' H') ∧ ∀ x H', J.yld i H x H' → g x (wipe σ vs) H' fun σ2 H2 => wipe σ2 vs = wipe σ vs ∧ tt σ2 H2 fun b H3 =>
    if b = true then te σ2 H3 fun y H4 => ∃ acc, H4 D = some (.lst acc) ∧ acc.length < sizeLine ∧ Nx (upd H4 D (.lst (acc ++ [y]))) else Nx H3)) hi fun φ S H env σ it J rl e hJ Q p Dl hD => by
    have hn : OR K (nxt φ S.length Dl) (S.length + 1) (upd H Dl (.lst [])) Dl (.lst []) := ⟨[], upd_same, .nil⟩
    have f0 : Fut K φ S.length H (nxt φ S.length Dl) (S ++ [O.lst []]).length (upd H Dl (.lst [])) := by
      rw [List.length_append]
      exact Fut.new hD
    have r0 := rl.new hD hn
    have e0 := ((e.wipe vs)).fut f0
    have p0 := p.fut f0
    refine ⟨fun i m H' => m = it.items.length - i ∧ i ≤ it.items.length ∧ ∃ φ' S', Fut K (nxt φ S.length Dl) (S ++ [O.lst []]).length (upd H Dl (.lst [])) φ' S'.length H' ∧ Rel K φ' S' H' ∧ Post K (vr K) φ' S'.length H' (fun c d h => W c d σ h) (compX it.ok fg ft fe (wipeE env vs) S.length (it.items.drop i) S') Q,
      ⟨it.items.length, rfl, Nat.zero_le _, _, _, Fut.refl, r0, p0⟩, ?_⟩
    rintro i m H' ⟨rfl, hle, φ', S', f', r', p'⟩
    have hφ : φ' S.length = Dl := by
      rw [f'.ag _ (by simp)]
      exact nxt_at
    by_cases hlt : i < it.items.length
    · rw [List.drop_eq_getElem_cons hlt, compX] at p'
      split at p'
      · rename_i hok
        obtain ⟨a1, _⟩ := hJ φ' S' H' (f0.trans f') r' hok
        obtain ⟨b1, b2⟩ := a1 i _ (List.getElem?_eq_getElem hlt)
        refine .inr ⟨b1, fun H2 => ∃ φ2 S2, Fut K (nxt φ S.length Dl) (S ++ [O.lst []]).length (upd H Dl (.lst [])) φ2 S2.length H2 ∧ Rel K φ2 S2 H2 ∧ Post K (vr K) φ2 S2.length H2 (fun c d h => W c d σ h) (compX it.ok fg ft fe (wipeE env vs) S.length (it.items.drop (i + 1)) S2) Q,
          fun H2 q => ⟨it.items.length - (i + 1), by omega, rfl, hlt, q⟩, fun v H2 y => ?_⟩
        obtain ⟨ex, hv⟩ := b2 v H2 y
        have fx : Fut K φ' S'.length H' φ' S'.length H2 := Fut.ex ex
        refine hg φ' S' H2 (wipeE env vs) (wipe σ vs) _ v (r'.ex ex) (e0.fut (f'.trans fx)).e hv _ ?_
        cases hgx : fg it.items[i] (wipeE env vs) S' with
        | ok e1 S1 =>
          simp only [hgx] at p'
          intro φ2 H3 σ2 f2 r2 e2 s2
          refine ⟨wipe_sets s2 hs, ht φ2 S1 H3 e1 σ2 r2 ⟨e2, trivial⟩ _ ?_⟩
          cases htx : ft e1 S1 with
          | ok b S2 =>
            simp only [htx] at p'
            intro φ3 H4 b' f3 r3 hb
            obtain rfl : b = b' := hb
            have f4 := ((f'.trans fx).trans f2).trans f3
            cases b with
            | false => exact ⟨φ3, S2, f4, r3, p'.fut ((fx.trans f2).trans f3)⟩
            | true =>
              refine he φ3 S2 H4 e1 σ2 r3 ⟨e2.fut f3, trivial⟩ _ ?_
              simp only at p'
              cases hex : fe e1 S2 with
              | ok y S3 =>
                simp only [hex] at p'
                intro φ4 H5 v f5 r5 hv5
                have f6 := f4.trans f5
                split at p'
                · rename_i acc hacc
                  split at p'
                  · rename_i hal
                    obtain ⟨us, u1, u2⟩ := r5.ob _ _ hacc
                    have hφ4 : φ4 S.length = Dl := by
                      rw [f6.ag _ (by simp)]
                      exact nxt_at
                    have fw : Fut K φ4 S3.length H5 φ4 S3.length (upd H5 (φ4 S.length) (.lst (us ++ [v]))) := Fut.upd u1 trivial
                    obtain ⟨q1, q2⟩ := r5.put (o' := .lst (acc ++ [y])) (u := .lst (us ++ [v])) hacc rfl rfl ⟨_, upd_same, (u2.app (.one hv5)).fut fw⟩
                    rw [hφ4] at u1 q1 q2
                    exact ⟨us, u1, sz_lt (by rw [u2.len]; exact hal), φ4, _, f6.trans q2, q1, p'.fut ((((fx.trans f2).trans f3).trans f5).trans q2)⟩
                  · exact p'.elim
                · exact p'.elim
              | exc c fs S3 => simp only [hex] at p'; exact p'.elim
              | bad => simp only [hex] at p'; exact p'.elim
          | exc c fs S2 => simp only [htx] at p'; exact p'.elim
          | bad => simp only [htx] at p'; exact p'.elim
        | exc c fs S1 => simp only [hgx] at p'; exact p'.elim
        | bad => simp only [hgx] at p'; exact p'.elim
      · exact p'.elim
    · have hd : it.items.drop i = [] := List.drop_eq_nil_of_le (by omega)
      rw [hd, compX] at p'
      split at p'
      · rename_i hok
        obtain ⟨_, a2⟩ := hJ φ' S' H' (f0.trans f') r' hok
        have : i = it.items.length := by omega
        subst this
        refine .inl ⟨a2, ?_⟩
        have q := p' φ' H' (.ref (φ' S.length)) Fut.refl r' (VR.ref (Nat.lt_of_lt_of_le (by simp) f'.le))
        rw [hφ] at q
        exact q
      · exact p'.elim
/-! ### list methods -/
def MtI (K : PySem.W.Frag) (r : V → List V → Hp → VK → Prop) (o : D → List D → Sto → R D) : Prop := ∀ φ S H x v ds vs X, Rel K φ S H → VR K φ S.length H x v → VRs K φ S.length H ds vs → ∀ Q, Post K (vr K) φ S.length H X (o x ds S) Q → r v vs H Q
def isLst (S : Sto) : D → Bool
  | .ref l => (rdL S l).isSome
  | _ => false
def xBM (o : D → List D → Sto → R D) (fo : Env → Sto → R D) (fa : Env → Sto → R (List D)) : Env → Sto → R D := fun env S => (fo env S).bind fun x S1 => if isLst S1 x = true then (fa env S1).bind fun ds S2 => o x ds S2 else .bad
theorem isLst_ty {x : D} {v : V} (r : Rel K φ S H) (h : isLst S x = true) (hv : VR K φ S.length H x v) : tyV K "list" v H := by
  cases x with
  | ref l =>
    obtain ⟨xs, hx⟩ := Option.isSome_iff_exists.mp h
    obtain ⟨_, rfl⟩ := hv.ref_inv
    obtain ⟨vs, q, _⟩ := r.rd hx
    exact .inl ⟨rfl, vs, q⟩
  | _ => cases h
theorem imp_bm {r : V → List V → Hp → VK → Prop} {o : D → List D → Sto → R D} {to : TE} {ta : TA} {fo : Env → Sto → R D} {fa : Env → Sto → R (List D)} (hr : MtI K r o) (ho : Imp K W (vr K) to fo) (ha : Imp K W (vrs K) ta fa) : Imp K W (vr K) (tBM K "list" r to ta) (xBM o fo fa) :=
  imp_bind (tb := fun (v : V) σ H (Q : VK) => tyV K "list" v H ∧ ta σ H fun xs H2 => r v xs H2 Q) ho fun φ S H env σ x v rl e hv Q p => by
    split at p
    · rename_i hl
      exact ⟨isLst_ty rl hl hv, ha.go rl e p fun φ1 S1 H1 ds vs f r1 _ hvs p1 => hr φ1 S1 H1 x v ds vs _ r1 (VR.fut f hv) hvs Q p1⟩
    · exact p.elim
theorem imp_bm0 {r : V → List V → Hp → VK → Prop} {o : D → List D → Sto → R D} {to : TE} {fo : Env → Sto → R D} (hr : MtI K r o) (ho : Imp K W (vr K) to fo) : Imp K W (vr K) (tBM0 K "list" r to) (xBM o fo xNil) :=
  imp_bind (tb := fun (v : V) σ H (Q : VK) => tyV K "list" v H ∧ r v [] H Q) ho fun φ S H env σ x v rl e hv Q p => by
    split at p
    · rename_i hl
      exact ⟨isLst_ty rl hl hv, hr φ S H x v [] [] _ rl hv .nil Q p⟩
    · exact p.elim
/-- a method that changes its list -/
def mL (g : List D → List D → Option (D × List D)) : D → List D → Sto → R D := fun x ds S => match x with
  | .ref l => match at_ S l with
    | some (.lst xs) => match g xs ds with
      | some (d, ys) => .ok d (S.set l (.lst ys))
      | none => .bad
    | _ => .bad
  | _ => .bad
theorem mL_eq {g : List D → List D → Option (D × List D)} {l : Nat} {xs ys ds : List D} {d : D} (h : at_ S l = some (.lst xs)) (e : g xs ds = some (d, ys)) : mL g (.ref l) ds S = .ok d (S.set l (.lst ys)) := by simp [mL, h, e]
theorem mL_inv {g : List D → List D → Option (D × List D)} {x : D} {v : V} {ds : List D} {Q : VK} (r : Rel K φ S H) (hv : VR K φ S.length H x v) (p : Post K (vr K) φ S.length H X (mL g x ds S) Q) :
    ∃ l xs ws d ys, v = .ref (φ l) ∧ at_ S l = some (.lst xs) ∧ H (φ l) = some (.lst ws) ∧ VRs K φ S.length H xs ws ∧ g xs ds = some (d, ys) ∧ ∀ w us, VR K φ S.length H d w → VRs K φ S.length H ys us → Q w (upd H (φ l) (.lst us)) := by
  unfold mL at p
  split at p
  · split at p
    · rename_i l _ xs hl
      split at p
      · rename_i d ys hg
        obtain ⟨_, rfl⟩ := hv.ref_inv
        obtain ⟨ws, q1, q2⟩ := r.ob _ _ hl
        refine ⟨l, xs, ws, d, ys, rfl, hl, q1, q2, hg, fun w us hw hu => ?_⟩
        have fw : Fut K φ S.length H φ S.length (upd H (φ l) (.lst us)) := Fut.upd q1 trivial
        exact p.put r hl rfl rfl ⟨us, upd_same, hu.fut fw⟩ (VR.fut fw hw)
      · exact p.elim
    · exact p.elim
  · exact p.elim
def gAppend : List D → List D → Option (D × List D) := fun xs ds => match ds with
  | [y] => if xs.length < 100000 then some (.non, xs ++ [y]) else none
  | _ => none
theorem gAppend_eq {xs : List D} {y : D} (h : xs.length < 100000) : gAppend xs [y] = some (.non, xs ++ [y]) := by simp [gAppend, h]
theorem mti_append : MtI K rAppend (mL gAppend) := by
  intro φ S H x v ds vs X r hx hd Q p
  obtain ⟨l, xs, ws, d, ys, rfl, hl, q1, q2, hg, q⟩ := mL_inv r hx p
  unfold gAppend at hg
  split at hg
  · split at hg
    · rename_i hz
      cases hg
      obtain ⟨u, rfl, hu⟩ := hd.one_inv
      exact ⟨_, ws, u, rfl, rfl, q1, sz_lt (by rw [q2.len]; exact hz), q _ _ VR.non (q2.app (.one hu))⟩
    · cases hg
  · cases hg
def gClear : List D → List D → Option (D × List D) := fun _ ds => match ds with
  | [] => some (.non, [])
  | _ => none
@[simp] theorem gClear_eq {xs : List D} : gClear xs [] = some (.non, []) := rfl
theorem mti_clear : MtI K rClear (mL gClear) := by
  intro φ S H x v ds vs X r hx hd Q p
  obtain ⟨l, xs, ws, d, ys, rfl, hl, q1, q2, hg, q⟩ := mL_inv r hx p
  unfold gClear at hg
  split at hg
  · cases hg
    cases hd
    exact ⟨_, ws, rfl, rfl, q1, q _ _ VR.non .nil⟩
  · cases hg
def gReverse : List D → List D → Option (D × List D) := fun xs ds => match ds with
  | [] => some (.non, xs.reverse)
  | _ => none
@[simp] theorem gReverse_eq {xs : List D} : gReverse xs [] = some (.non, xs.reverse) := rfl
theorem mti_reverse : MtI K rReverse (mL gReverse) := by
  intro φ S H x v ds vs X r hx hd Q p
  obtain ⟨l, xs, ws, d, ys, rfl, hl, q1, q2, hg, q⟩ := mL_inv r hx p
  unfold gReverse at hg
  split at hg
  · cases hg
    cases hd
    exact ⟨_, ws, rfl, rfl, q1, q _ _ VR.non q2.reverse⟩
  · cases hg
def gPop : List D → List D → Option (D × List D) := fun xs ds => match ds with
  | [] => (xs[xs.length - 1]?).map fun y => (y, xs.dropLast)
  | _ => none
theorem gPop_eq {xs : List D} {y : D} (h : xs[xs.length - 1]? = some y) : gPop xs [] = some (y, xs.dropLast) := by simp [gPop, h]
theorem mti_pop : MtI K rPop (mL gPop) := by
  intro φ S H x v ds vs X r hx hd Q p
  obtain ⟨l, xs, ws, d, ys, rfl, hl, q1, q2, hg, q⟩ := mL_inv r hx p
  unfold gPop at hg
  split at hg
  · obtain ⟨y, h1, h2⟩ := Option.map_eq_some_iff.mp hg
    cases h2
    cases hd
    obtain ⟨u, g1, g2⟩ := q2.get h1
    exact ⟨_, ws, u, rfl, rfl, q1, by rw [q2.len]; exact g1, q _ _ g2 q2.dropLast⟩
  · cases hg
def PopOk (i : Int) : Prop := -(2 ^ 63) ≤ i ∧ i < 2 ^ 63
open Classical in
noncomputable def gPopAt : List D → List D → Option (D × List D) := fun xs ds => match ds with
  | [.int i] => if PopOk i then (seqIndex? i xs.length).bind fun k => (xs[k]?).map fun y => (y, xs.eraseIdx k) else none
  | _ => none
open Classical in
theorem gPopAt_eq {xs : List D} {i : Int} {k : Nat} {y : D} (h1 : PopOk i) (h2 : seqIndex? i xs.length = some k) (h3 : xs[k]? = some y) : gPopAt xs [.int i] = some (y, xs.eraseIdx k) := by
  show (if _ then _ else _) = _
  rw [if_pos h1, h2]
  simp [h3]
open Classical in
theorem mti_popAt : MtI K rPopAt (mL gPopAt) := by
  intro φ S H x v ds vs X r hx hd Q p
  obtain ⟨l, xs, ws, d, ys, rfl, hl, q1, q2, hg, q⟩ := mL_inv r hx p
  unfold gPopAt at hg
  split at hg
  · split at hg
    · rename_i hb
      obtain ⟨k, h1, h2⟩ := Option.bind_eq_some_iff.mp hg
      obtain ⟨y, h3, h4⟩ := Option.map_eq_some_iff.mp h2
      cases h4
      obtain ⟨w, rfl, hw⟩ := hd.one_inv
      cases hw
      obtain ⟨u, g1, g2⟩ := q2.get h3
      exact ⟨_, ws, _, k, u, rfl, rfl, q1, hb.1, hb.2, by rw [q2.len]; exact h1, g1, q _ _ g2 (q2.eraseIdx k)⟩
    · cases hg
  · cases hg
/-- extend by another list -/
def mExtend : D → List D → Sto → R D := fun x ds S => match x, ds with
  | .ref l, [.ref b] => match at_ S l, at_ S b with
    | some (.lst xs), some (.lst zs) => if xs.length + zs.length ≤ 100000 then .ok .non (S.set l (.lst (xs ++ zs))) else .bad
    | _, _ => .bad
  | _, _ => .bad
theorem mExtend_eq {l b : Nat} {xs zs : List D} (h : at_ S l = some (.lst xs)) (g : at_ S b = some (.lst zs)) (hl : xs.length + zs.length ≤ 100000) : mExtend (.ref l) [.ref b] S = .ok .non (S.set l (.lst (xs ++ zs))) := by simp [mExtend, h, g, hl]
theorem mti_extend : MtI K rExtend mExtend := by
  intro φ S H x v ds vs X r hx hd Q p
  unfold mExtend at p
  split at p
  · split at p
    · rename_i l b _ _ xs zs h1 h2
      split at p
      · rename_i hz
        obtain ⟨_, rfl⟩ := hx.ref_inv
        obtain ⟨w, rfl, hw⟩ := hd.one_inv
        obtain ⟨_, rfl⟩ := hw.ref_inv
        obtain ⟨ws, a1, a2⟩ := r.ob _ _ h1
        obtain ⟨us, b1, b2⟩ := r.ob _ _ h2
        have fw : Fut K φ S.length H φ S.length (upd H (φ l) (.lst (ws ++ us))) := Fut.upd a1 trivial
        exact ⟨_, _, ws, us, rfl, rfl, a1, b1, sz_of (by rw [a2.len, b2.len]; exact hz), p.put r h1 rfl rfl ⟨_, upd_same, (a2.app b2).fut fw⟩ VR.non⟩
      · exact p.elim
    · exact p.elim
  · exact p.elim
/-! ### calls of defs -/
/-- a def that does what f says -/
def spF (K : PySem.W.Frag) (f : List D → Sto → R D) : Sp := fun vs H Q E => ∃ φ S ds, Rel K φ S H ∧ VRs K φ S.length H ds vs ∧ Post K (vr K) φ S.length H E (f ds S) Q
theorem Post.anyX {X' : XK} {ρ : Rl α β} {d : α} {S1 : Sto} {Q : β → Hp → Prop} (p : Post K ρ φ n H X (.ok d S1) Q) : Post K ρ φ n H X' (.ok d S1) Q := p
def xCall (f : List D → Sto → R D) (fa : Env → Sto → R (List D)) : Env → Sto → R D := fun env S => (fa env S).bind fun ds S1 => nox (f ds S1)
theorem imp_call {f : List D → Sto → R D} {ta : TA} {fa : Env → Sto → R (List D)} {E : XK} (ha : Imp K W (vrs K) ta fa) : Imp K W (vr K) (tCall (spF K f) [] E ta) (xCall f fa) :=
  imp_bind (tb := fun (vs : List V) _ H (Q : VK) => spF K f (vs ++ []) H Q E) ha fun φ S H env σ x v rl e hv Q p => by
    rw [List.append_nil]
    obtain ⟨d, S1, hf, p⟩ := nox_inv p
    exact ⟨φ, S, x, rl, hv, by rw [hf]; exact p⟩
/-- a call that an error may leave -/
def xCallX (f : List D → Sto → R D) (fa : Env → Sto → R (List D)) : Env → Sto → R D := fun env S => (fa env S).bind fun ds S1 => f ds S1
theorem imp_callX {f : List D → Sto → R D} {ta : TA} {fa : Env → Sto → R (List D)} (ha : Imp K W (vrs K) ta fa) : Imp K W (vr K) (tCallS (spF K f) (WE W.wx) ta) (xCallX f fa) :=
  imp_bind (tb := fun (vs : List V) σ H (Q : VK) => spF K f vs H Q (WE W.wx σ)) ha fun φ S H env σ x v rl e hv Q p => ⟨φ, S, x, rl, hv, p⟩
/-- a def's body as a function of its arguments: m parameters, k slots behind them -/
def defX (m k : Nat) (f : Env → Sto → RS) : List D → Sto → R D := fun ds S => if ds.length = m then (match f (ds.map some ++ List.replicate k none) S with
    | .nx _ S1 => .ok .non S1
    | .ret d S1 => .ok d S1
    | .exc c fs _ S1 => .exc c fs S1
    | _ => .bad) else .bad
theorem spF_len {m k : Nat} {f : Env → Sto → RS} {ps : List Str} (hp : ps.length = m) : ∀ vs H Q E, spF K (defX m k f) vs H Q E → vs.length = ps.length := fun vs H Q E ⟨φ, S, ds, r, hv, p⟩ => by
  unfold defX at p
  split at p
  · rename_i h
    rw [hv.len, h, hp]
  · exact p.elim
theorem body_of {m k : Nat} {f : Env → Sto → RS} {t : TS} {N : List Str} {vs : List V} {H : Hp} {Q : VK} {E : XK} (hN : N.length = m + k) (hs : spF K (defX m k f) vs H Q E) (hf : ImpS K (WEx K E) t f) : t { nx := fun _ H' => Q .non H', rt := Q } (L2.start N vs) H := by
  obtain ⟨φ, S, ds, r, hv, p⟩ := hs
  unfold defX at p
  split at p
  · rename_i hl
    have he : ER K φ S.length H (ds.map some ++ List.replicate k none) (L2.start N vs) := by
      unfold L2.start
      rw [hv.len, hN, hl, Nat.add_sub_cancel_left]
      exact ER.ofs k hv
    refine hf φ S H _ _ r ⟨he, trivial⟩ _ ?_
    split at p
    · rename_i e1 S1 h1
      rw [h1]
      exact fun φ' H' σ' f' r' e' => p φ' H' .non f' r' VR.non
    · rename_i d S1 h1
      rw [h1]
      exact p
    · rename_i c fs e1 S1 h1
      rw [h1]
      exact fun φ' H' σ' dd fv f' r' e' hd hk => p φ' H' dd fv f' r' hd hk
    · exact p.elim
  · exact p.elim
end
end Mi

namespace Mi
open PySem PySem.Spec PyProof.Rows L2 Evl My
/-! ### set(a list of ints), k in it, len -/
def dedupL (ns : List Int) : List Int := ns.foldl step_dedup []
theorem firstMet_dedup (ns : List Int) : firstMet (fun i => ns.getD i 0) ns.length = dedupL ns := by
  unfold firstMet dedupL
  congr 1
  refine List.ext_getElem? fun i => ?_
  rw [List.getElem?_map]
  by_cases h : i < ns.length
  · rw [List.getElem?_range h, List.getElem?_eq_getElem h]
    simp [List.getD, h]
  · rw [List.getElem?_eq_none (by simpa using h), List.getElem?_eq_none (by omega)]
    rfl
theorem dedup_any (ns : List Int) (k : Int) : (dedupL ns).any (· == k) = ns.any (· == k) := by
  rw [← firstMet_dedup, firstMet_any]
  congr 1
  refine List.ext_getElem? fun i => ?_
  rw [List.getElem?_map]
  by_cases h : i < ns.length
  · rw [List.getElem?_range h, List.getElem?_eq_getElem h]
    simp [List.getD, h]
  · rw [List.getElem?_eq_none (by simpa using h), List.getElem?_eq_none (by omega)]
    rfl
theorem dedup_len (ns : List Int) : (dedupL ns).length ≤ ns.length := by
  rw [← firstMet_dedup]
  exact firstMet_length_le _ _
/-- k is in ns -/
def memI (ns : List Int) (k : Int) : Bool := ns.any (· == k)
theorem memI_iff {ns : List Int} {k : Int} : memI ns k = true ↔ k ∈ ns := by simp [memI]
theorem inV_ints {ns : List Int} {k : Int} : inV (.int k) (ns.map V.int) = memI ns k := by simp [inV, eqV, memI, List.any_map, Function.comp_def]
def rSetI (K : PySem.W.Frag) : List V → Hp → VK → Prop := fun xs H Q => ∃ (l : Addr) (ns : List Int), xs = [.ref l] ∧ SqL K H l (ns.map V.int) ∧ ns.length ≤ 4000 ∧ ∀ a, H a = none → Q (.ref a) (upd H a (.set (fun k => ns.any (· == k)) (dedupL ns).length))
section
variable {X : Cx}
theorem cr_setI (K : PySem.W.Frag) (hc : X.calm = true) (hK : X.K = K := by rfl) : CallR X (.type "set") (rSetI K) := by
  subst hK
  intro pins s σ H xs us Q I r h
  obtain ⟨l, ns, rfl, hl, hz, q⟩ := h
  rw [Vals.ref1 r]
  obtain ⟨its, rv, pl, _⟩ := I.list hl
  have hlen : its.toArray.size = ns.length := by rw [List.size_toArray, ← rv.length, List.length_map]
  have hn : H s.heap.objs.size = none := I.hok.fresh (Nat.le_refl _)
  refine call_set_list (I.ok.hd hc) pl.isList (by simpa using RZ.intsAre_vals rv) (by rw [hlen]; unfold scanBound; omega) fun h' tk hS hk => ?_
  rw [hlen, firstMet_dedup] at hS
  have e : (fun k' => (dedupL ns).any (· == k')) = fun k => ns.any (· == k) := funext fun k => dedup_any ns k
  rw [e] at hS
  exact ⟨.ref s.heap.objs.size, upd H s.heap.objs.size (.set (fun k => ns.any (· == k)) (dedupL ns).length), I.laid (t' := tk) (fun b o e => hk b o (Heap.lt_size e) e) (Nat.le_refl _) hS, rfl, q _ hn⟩
def rSetIn (neg : Bool) : R2 := fun x y H Q => ∃ k a S n, x = .int k ∧ y = .ref a ∧ H a = some (.set S n) ∧ Q (.bl (if neg then !S k else S k)) H
theorem or_setIn : OpR X (compareOp .In) (rSetIn false) := by
  intro pins s σ H x y v u Q I rx ry h
  obtain ⟨k, a, S, n, rfl, rfl, ha, q⟩ := h
  obtain ⟨tk, rfl⟩ := rx
  cases ry
  exact wpAny_inSet_of (intKind_is _ _ _ _) rfl (I.hok a _ ha) ⟨.bl (S k), H, I.tok _, rfl, q⟩
theorem or_setNin : OpR X (compareOp .NotIn) (rSetIn true) := by
  intro pins s σ H x y v u Q I rx ry h
  obtain ⟨k, a, S, n, rfl, rfl, ha, q⟩ := h
  obtain ⟨tk, rfl⟩ := rx
  cases ry
  exact wpAny_notInSet_of (intKind_is _ _ _ _) rfl (I.hok a _ ha) ⟨.bl (!S k), H, I.tok _, rfl, q⟩
def rSetLen : List V → Hp → VK → Prop := fun xs H Q => ∃ a S n, xs = [.ref a] ∧ H a = some (.set S n) ∧ n ≤ 4000 ∧ Q (.int (n : Int)) H
theorem cr_setLen : CallR X (.builtin "len") rSetLen := by
  intro pins s σ H xs us Q I r h
  obtain ⟨a, S, n, rfl, ha, hz, q⟩ := h
  rw [Vals.ref1 r]
  obtain ⟨o, es, ep, t, ho, hex, hd, _, _, _, hf, hn⟩ := (show s.heap.SetOf (intKind X.prog X.w) a S n from I.hok a _ ha)
  refine call_len_set ho hex hd hf (by rw [hn] <;> omega) ⟨.int n, H, (I.tok _), ⟨_, by rw [hn]⟩, q⟩
end
section
variable {K : PySem.W.Frag} {φ φ1 φ' : Nat → Addr} {n n1 n' : Nat} {H H1 H' : Hp} {X : XK} {W W1 : Wc K} {S : Sto} {α β γ δ : Type} {ρ : Rl α β}
def bSet : List D → Sto → R D := bInts fun ns S => if ns.length ≤ 4000 then .ok (.ref S.length) (S ++ [.set (memI ns) (dedupL ns).length]) else .bad
theorem cbi_set : CallI K (rSetI K) bSet := by
  intro φ S H ds vs X r h Q p
  obtain ⟨a, ns, rfl, q1, p⟩ := bInts_inv r h p
  split at p
  · rename_i hz
    exact ⟨a, ns, rfl, q1, hz, fun b hb => p.new r hb upd_same⟩
  · exact p.elim
def oInSet (neg : Bool) : D → D → Sto → R D := fun x y S => match x, y with
  | .int k, .ref l => match at_ S l with
    | some (.set f _) => .ok (.bl (if neg = true then !f k else f k)) S
    | _ => .bad
  | _, _ => .bad
theorem oInSet_eq {neg : Bool} {k : Int} {l : Nat} {f : Int → Bool} {m : Nat} (h : at_ S l = some (.set f m)) : oInSet neg (.int k) (.ref l) S = .ok (.bl (if neg = true then !f k else f k)) S := by simp [oInSet, h]
theorem opi_inSet {neg : Bool} : OpI K (rSetIn neg) (oInSet neg) := by
  intro φ S H x y v w X r hx hy Q p
  unfold oInSet at p
  split at p
  · split at p
    · rename_i k l _ f m e
      cases hx
      obtain ⟨_, rfl⟩ := hy.ref_inv
      exact ⟨k, _, f, m, rfl, rfl, r.ob _ _ e, p.here r (VR.bl _)⟩
    · exact p.elim
  · exact p.elim
def bLenSet : List D → Sto → R D := fun ds S => match ds with
  | [.ref l] => match at_ S l with
    | some (.set _ m) => if m ≤ 4000 then .ok (.int (m : Int)) S else .bad
    | _ => .bad
  | _ => .bad
theorem bLenSet_eq {l : Nat} {f : Int → Bool} {m : Nat} (h : at_ S l = some (.set f m)) (hm : m ≤ 4000) : bLenSet [.ref l] S = .ok (.int (m : Int)) S := by simp [bLenSet, h, hm]
theorem cbi_lenSet : CallI K rSetLen bLenSet := by
  intro φ S H ds vs X r h Q p
  unfold bLenSet at p
  split at p
  · split at p
    · rename_i l _ f m e
      split at p
      · rename_i hm
        obtain ⟨v, rfl, hv⟩ := h.one_inv
        obtain ⟨_, rfl⟩ := hv.ref_inv
        exact ⟨_, f, m, rfl, r.ob _ _ e, hm, p.here r (VR.int _)⟩
      · exact p.elim
    · exact p.elim
  · exact p.elim
/-! ### assert; what is never reached -/
def xAssert (ft : Env → Sto → R Bool) : Env → Sto → RS := fun env S => (ft env S).bindS env fun b S1 => if b = true then .nx env S1 else .bad
theorem imp_assert {tt : TT} {ft : Env → Sto → R Bool} (ht : Imp K W same tt ft) : ImpS K W (tAssert tt) (xAssert ft) := by
  intro φ S H env σ r e D p
  refine ht.goS (tb := fun b H1 => b = true ∧ D.nx σ H1) r e p fun φ1 S1 H1 x v f1 r1 e1 hv p1 => ?_
  obtain rfl : x = v := hv
  cases x with
  | true => exact ⟨rfl, p1 φ1 H1 σ Fut.refl r1 e1.e⟩
  | false => exact p1.elim
def xNever : Env → Sto → RS := fun _ _ => .bad
theorem imp_never : ImpS K W tNever xNever := fun φ S H env σ r e D p => p
/-! ### dicts with ints and texts as keys -/
def valX {κ α : Type} [DecidableEq κ] (kvs : List (κ × α)) (k : κ) : Option α := (kvs.find? fun kv => decide (kv.1 = k)).map (·.2)
def putX {κ α : Type} [DecidableEq κ] (kvs : List (κ × α)) (k : κ) (v : α) : List (κ × α) := if (kvs.any fun kv => decide (kv.1 = k)) = true then kvs.map (fun kv => if kv.1 = k then (kv.1, v) else kv) else kvs ++ [(k, v)]
theorem valX_cons {κ α : Type} [DecidableEq κ] {kvs : List (κ × α)} {k k' : κ} {v : α} : valX ((k', v) :: kvs) k = if k' = k then some v else valX kvs k := by
  unfold valX
  rw [List.find?_cons]
  by_cases h : k' = k <;> simp [h]
theorem KR.len {κ : Type} : ∀ {kvs : List (κ × D)} {kws : List (κ × V)}, KR K φ n H kvs kws → kws.length = kvs.length
  | _, _, .nil => rfl
  | _, _, .cons _ t => congrArg Nat.succ (KR.len t)
theorem KR.val {κ : Type} [DecidableEq κ] {k : κ} : ∀ {kvs : List (κ × D)} {kws : List (κ × V)} {d : D}, KR K φ n H kvs kws → valX kvs k = some d → ∃ v, valV kws k = some v ∧ VR K φ n H d v
  | _, _, _, .nil, h => by cases h
  | (k', x) :: r, _, d, .cons h t, e => by
    rw [valX_cons] at e
    split at e
    · rename_i hk
      cases e
      exact ⟨_, valV_pos hk, h⟩
    · rename_i hk
      obtain ⟨v, h1, h2⟩ := KR.val t e
      exact ⟨v, by rw [valV_neg hk]; exact h1, h2⟩
theorem KR.val_none {κ : Type} [DecidableEq κ] {k : κ} : ∀ {kvs : List (κ × D)} {kws : List (κ × V)}, KR K φ n H kvs kws → valX kvs k = none → valV kws k = none
  | _, _, .nil, _ => rfl
  | (k', x) :: r, _, .cons h t, e => by
    rw [valX_cons] at e
    split at e
    · cases e
    · rename_i hk
      rw [valV_neg hk]
      exact KR.val_none t e
theorem KR.any {κ : Type} [DecidableEq κ] {k : κ} : ∀ {kvs : List (κ × D)} {kws : List (κ × V)}, KR K φ n H kvs kws → (kws.any fun kv => decide (kv.1 = k)) = (kvs.any fun kv => decide (kv.1 = k))
  | _, _, .nil => rfl
  | _, _, .cons _ t => by rw [List.any_cons, List.any_cons, KR.any t]
theorem KR.mapPut {κ : Type} [DecidableEq κ] {k : κ} {d : D} {v : V} (hv : VR K φ n H d v) : ∀ {kvs : List (κ × D)} {kws : List (κ × V)}, KR K φ n H kvs kws → KR K φ n H (kvs.map fun kv => if kv.1 = k then (kv.1, d) else kv) (kws.map fun kv => if kv.1 = k then (kv.1, v) else kv)
  | _, _, .nil => .nil
  | (k', x) :: r, (_, _) :: _, .cons h t => by
    rw [List.map_cons, List.map_cons]
    by_cases hk : k' = k
    · rw [if_pos hk, if_pos hk]
      exact .cons hv (KR.mapPut hv t)
    · rw [if_neg hk, if_neg hk]
      exact .cons h (KR.mapPut hv t)
theorem KR.app {κ : Type} : ∀ {kvs lvs : List (κ × D)} {kws lws : List (κ × V)}, KR K φ n H kvs kws → KR K φ n H lvs lws → KR K φ n H (kvs ++ lvs) (kws ++ lws)
  | _, _, _, _, .nil, h => h
  | _, _, _, _, .cons a t, h => .cons a (KR.app t h)
theorem KR.put {κ : Type} [DecidableEq κ] {k : κ} {d : D} {v : V} {kvs : List (κ × D)} {kws : List (κ × V)} (h : KR K φ n H kvs kws) (hv : VR K φ n H d v) : KR K φ n H (putX kvs k d) (putK kws k v) := by
  unfold putX putK
  rw [h.any]
  split
  · exact h.mapPut hv
  · exact h.app (.cons hv .nil)
def keyD : D → Option Key
  | .int i => some (.inl i)
  | .str s => some (.inr s)
  | _ => none
@[simp] theorem keyD_int {i : Int} : keyD (.int i) = some (.inl i) := rfl
@[simp] theorem keyD_str {i : Str} : keyD (.str i) = some (.inr i) := rfl
theorem keyD_eq {d : D} {v : V} {k : Key} (h : keyD d = some k) (q : VR K φ n H d v) : v = kV k := by
  cases d <;> simp [keyD] at h <;> subst h <;> cases q <;> rfl
def getDX (S : Sto) (x y : D) : Option (Option D) := match x, keyD y with
  | .ref l, some k => match at_ S l with
    | some (.dK kvs) => some (valX kvs k)
    | _ => none
  | _, _ => none
theorem getDX_eq {l : Nat} {kvs : List (Key × D)} {y : D} {k : Key} (h : at_ S l = some (.dK kvs)) (hy : keyD y = some k) : getDX S (.ref l) y = some (valX kvs k) := by simp [getDX, h, hy]
theorem getDX_inv {x y : D} {v w : V} {o : Option D} (r : Rel K φ S H) (h : getDX S x y = some o) (hx : VR K φ S.length H x v) (hy : VR K φ S.length H y w) : ∃ a kws k, v = .ref a ∧ w = kV k ∧ H a = some (.dK kws) ∧ (∀ d, o = some d → ∃ u, valV kws k = some u ∧ VR K φ S.length H d u) ∧ (o = none → valV kws k = none) := by
  unfold getDX at h
  split at h
  · split at h
    · rename_i l k hk _ kvs e
      cases h
      obtain ⟨_, rfl⟩ := hx.ref_inv
      obtain ⟨kws, q1, q2⟩ := r.ob _ _ e
      exact ⟨_, kws, k, rfl, keyD_eq hk hy, q1, fun d hd => q2.val hd, fun hn => q2.val_none hn⟩
    · cases h
  · cases h
def oDGet : D → D → Sto → R D := fun x y S => match getDX S x y with
  | some (some d) => .ok d S
  | _ => .bad
def xDGet (fo fi : Env → Sto → R D) : Env → Sto → R D := xOp oDGet fo fi
theorem oDGet_eq {l : Nat} {kvs : List (Key × D)} {y d : D} {k : Key} (h : at_ S l = some (.dK kvs)) (hy : keyD y = some k) (hd : valX kvs k = some d) : oDGet (.ref l) y S = .ok d S := by simp [oDGet, getDX_eq h hy, hd]
theorem imp_dget {to ti : TE} {fo fi : Env → Sto → R D} (ho : Imp K W (vr K) to fo) (hi : Imp K W (vr K) ti fi) : Imp K W (vr K) (tDGet to ti) (xDGet fo fi) :=
  imp_op (r := fun x y H Q => ∃ a v, x = .ref a ∧ DGet H a y (some v) ∧ Q v H) (fun φ S H x y v w X r hx hy Q p => by
    unfold oDGet at p
    split at p
    · rename_i d e
      obtain ⟨a, kws, k, rfl, rfl, q1, q2, _⟩ := getDX_inv r e hx hy
      obtain ⟨u, h1, h2⟩ := q2 d rfl
      exact ⟨a, u, rfl, .inl ⟨kws, k, .inl q1, rfl, h1.symm⟩, p.here r h2⟩
    · exact p.elim) ho hi
def oDIn (neg : Bool) : D → D → Sto → R D := fun y x S => match getDX S x y with
  | some o => .ok (.bl (if neg = true then !o.isSome else o.isSome)) S
  | _ => .bad
theorem oDIn_eq {neg : Bool} {l : Nat} {kvs : List (Key × D)} {y : D} {k : Key} (h : at_ S l = some (.dK kvs)) (hy : keyD y = some k) : oDIn neg y (.ref l) S = .ok (.bl (if neg = true then !(valX kvs k).isSome else (valX kvs k).isSome)) S := by simp [oDIn, getDX_eq h hy]
def xDIn (neg : Bool) (fi fo : Env → Sto → R D) : Env → Sto → R D := xOp (oDIn neg) fi fo
theorem getDX_dget {x y : D} {v w : V} {o : Option D} (r : Rel K φ S H) (h : getDX S x y = some o) (hx : VR K φ S.length H x v) (hy : VR K φ S.length H y w) : ∃ a o', v = .ref a ∧ DGet H a w o' ∧ o'.isSome = o.isSome ∧ (∀ d, o = some d → ∃ u, o' = some u ∧ VR K φ S.length H d u) := by
  obtain ⟨a, kws, k, rfl, rfl, q1, q2, q3⟩ := getDX_inv r h hx hy
  cases o with
  | none => exact ⟨a, none, rfl, .inl ⟨kws, k, .inl q1, rfl, (q3 rfl).symm⟩, rfl, fun d hd => by cases hd⟩
  | some d =>
    obtain ⟨u, h1, h2⟩ := q2 d rfl
    exact ⟨a, some u, rfl, .inl ⟨kws, k, .inl q1, rfl, h1.symm⟩, rfl, fun d' hd => by cases hd; exact ⟨u, rfl, h2⟩⟩
theorem imp_din {to ti : TE} {fo fi : Env → Sto → R D} (hi : Imp K W (vr K) ti fi) (ho : Imp K W (vr K) to fo) : Imp K W (vr K) (tDIn ti to) (xDIn false fi fo) :=
  imp_op (r := fun y x H Q => ∃ a o, x = .ref a ∧ DGet H a y o ∧ Q (.bl o.isSome) H) (fun φ S H y x w v X r hy hx Q p => by
    unfold oDIn at p
    split at p
    · rename_i o e
      obtain ⟨a, o', rfl, q1, q2, _⟩ := getDX_dget r e hx hy
      exact ⟨a, o', rfl, q1, by rw [q2]; exact p.here r (VR.bl _)⟩
    · exact p.elim) hi ho
theorem imp_dnotin {to ti : TE} {fo fi : Env → Sto → R D} (hi : Imp K W (vr K) ti fi) (ho : Imp K W (vr K) to fo) : Imp K W (vr K) (tDNotIn ti to) (xDIn true fi fo) :=
  imp_op (r := fun y x H Q => ∃ a o, x = .ref a ∧ DGet H a y o ∧ Q (.bl (!o.isSome)) H) (fun φ S H y x w v X r hy hx Q p => by
    unfold oDIn at p
    split at p
    · rename_i o e
      obtain ⟨a, o', rfl, q1, q2, _⟩ := getDX_dget r e hx hy
      exact ⟨a, o', rfl, q1, by rw [q2]; exact p.here r (VR.bl _)⟩
    · exact p.elim) hi ho
/-- d[k] = v -/
def putDX (x y v : D) (S : Sto) : Option Sto := match x, keyD y with
  | .ref l, some k => match at_ S l with
    | some (.dK kvs) => if kvs.length < 100000 then some (S.set l (.dK (putX kvs k v))) else none
    | _ => none
  | _, _ => none
theorem putDX_eq {l : Nat} {kvs : List (Key × D)} {y v : D} {k : Key} (h : at_ S l = some (.dK kvs)) (hy : keyD y = some k) (hl : kvs.length < 100000) : putDX (.ref l) y v S = some (S.set l (.dK (putX kvs k v))) := by simp [putDX, h, hy, hl]
def xDPut (fo fi fv : Env → Sto → R D) : Env → Sto → RS := fun env S => (fv env S).bindS env fun v S1 => (fo env S1).bindS env fun x S2 => (fi env S2).bindS env fun y S3 => match putDX x y v S3 with
  | some S4 => .nx env S4
  | none => .bad
theorem imp_dput {to ti tv : TE} {fo fi fv : Env → Sto → R D} (ho : Imp K W (vr K) to fo) (hi : Imp K W (vr K) ti fi) (hv : Imp K W (vr K) tv fv) : ImpS K W (sDPut to ti tv) (xDPut fo fi fv) := by
  intro φ S H env σ r e D p
  refine hv.goS r e p fun φ1 S1 H1 v v' f1 r1 e1 hv1 p1 => ho.goS r1 e1 p1 fun φ2 S2 H2 x x' f2 r2 e2 hx p2 => hi.goS r2 e2 p2 fun φ3 S3 H3 y y' f3 r3 e3 hy p3 => ?_
  split at p3
  · rename_i S4 hp
    unfold putDX at hp
    split at hp
    · split at hp
      · rename_i l k hk _ kvs el
        split at hp
        · rename_i hz
          cases hp
          obtain ⟨_, rfl⟩ := (VR.fut f3 hx).ref_inv
          obtain ⟨kws, q1, q2⟩ := r3.ob _ _ el
          have hv3 := VR.fut (f2.trans f3) hv1
          have fw : Fut K φ3 S3.length H3 φ3 S3.length (upd H3 (φ3 l) (.dK (putK kws k v'))) := Fut.upd q1 trivial
          have q := r3.put (o' := .dK (putX kvs k v)) (u := .dK (putK kws k v')) el rfl rfl ⟨_, upd_same, (q2.put hv3).fut fw⟩
          exact ⟨_, _, rfl, .inl ⟨kws, k, q1, keyD_eq hk hy, sz_lt (by rw [q2.len]; exact hz), rfl⟩, p3 _ _ σ q.2 q.1 (e3.fut q.2).e⟩
        · cases hp
      · cases hp
    · cases hp
  · exact p3.elim
/-- d.get(k) -/
def xDGet1 (fo fi : Env → Sto → R D) : Env → Sto → R D := fun env S => (fo env S).bind fun x S1 => match x with
  | .ref l => match at_ S1 l with
    | some (.dK _) => (fi env S1).bind fun y S2 => match getDX S2 (.ref l) y with
      | some o => .ok (o.getD .non) S2
      | none => .bad
    | _ => .bad
  | _ => .bad
theorem imp_dget1 {to ti : TE} {fo fi : Env → Sto → R D} (ho : Imp K W (vr K) to fo) (hi : Imp K W (vr K) ti fi) : Imp K W (vr K) (tDGet1 to ti) (xDGet1 fo fi) :=
  imp_bind (tb := fun (x : V) σ H1 (Q : VK) => ∃ a, x = .ref a ∧ IsD H1 a ∧ ti σ H1 fun y H2 => ∃ o, DGet H2 a y o ∧ Q (o.getD .non) H2) ho fun φ S H env σ x v rl e hv Q p => by
    split at p
    · split at p
      · rename_i l _ kvs el
        obtain ⟨hl, rfl⟩ := hv.ref_inv
        obtain ⟨kws, q1, _⟩ := rl.ob _ _ el
        refine ⟨_, rfl, .inl ⟨kws, .inl q1⟩, hi.go rl e p fun φ1 S1 H1 y w f r1 _ hw p1 => ?_⟩
        split at p1
        · rename_i o eo
          obtain ⟨a, o', ea, b1, b2, b3⟩ := getDX_dget r1 eo (VR.ref (Nat.lt_of_lt_of_le hl f.le)) hw
          rw [f.ag _ hl] at ea
          cases ea
          refine ⟨o', b1, ?_⟩
          cases o with
          | none =>
            cases o' with
            | none => exact p1.here r1 VR.non
            | some u => cases b2
          | some d =>
            obtain ⟨u, rfl, hu⟩ := b3 d rfl
            exact p1.here r1 hu
        · exact p1.elim
      · exact p.elim
    · exact p.elim
def bLenD : List D → Sto → R D := fun ds S => match ds with
  | [.ref l] => match at_ S l with
    | some (.dK kvs) => .ok (.int (kvs.length : Int)) S
    | _ => .bad
  | _ => .bad
theorem cbi_lenD : CallI K (fun xs H Q => ∃ a kvs, xs = [V.ref a] ∧ H a = some (.dK kvs) ∧ Q (.int kvs.length) H) bLenD := by
  intro φ S H ds vs X r h Q p
  unfold bLenD at p
  split at p
  · split at p
    · rename_i l _ kvs e
      obtain ⟨v, rfl, hv⟩ := h.one_inv
      obtain ⟨_, rfl⟩ := hv.ref_inv
      obtain ⟨kws, q1, q2⟩ := r.ob _ _ e
      exact ⟨_, kws, rfl, q1, by rw [q2.len]; exact p.here r (VR.int _)⟩
    · exact p.elim
  · exact p.elim
def xDNew : Env → Sto → R D := fun _ S => .ok (.ref S.length) (S ++ [.dK []])
theorem imp_dnew : Imp K W (vr K) tDNewK xDNew := fun φ S H env σ r e Q p a ha => p.new r ha ⟨[], upd_same, .nil⟩
/-! displays -/
def prs (K : PySem.W.Frag) : Rl (List (D × D)) (List (V × V)) := fun φ n H ds vs => Paired (fun p q => VR K φ n H p.1 q.1 ∧ VR K φ n H p.2 q.2) ds vs
def xPNil : Env → Sto → R (List (D × D)) := fun _ S => .ok [] S
def xPCons (fk fv : Env → Sto → R D) (fr : Env → Sto → R (List (D × D))) : Env → Sto → R (List (D × D)) := fun env S => (fk env S).bind fun x S1 => (fv env S1).bind fun y S2 => (fr env S2).bind fun ps S3 => .ok ((x, y) :: ps) S3
theorem impp_nil : Imp K W (prs K) (tPairs []) xPNil := fun φ S H env σ r e Q p => p.here r Paired.nil
theorem impp_cons {tk tv : TE} {trs : List (TE × TE)} {fk fv : Env → Sto → R D} {fr : Env → Sto → R (List (D × D))} (hk : Imp K W (vr K) tk fk) (hv : Imp K W (vr K) tv fv) (hr : Imp K W (prs K) (tPairs trs) fr) : Imp K W (prs K) (tPairs ((tk, tv) :: trs)) (xPCons fk fv fr) :=
  imp_bind (tb := fun (x : V) σ H1 (Q : List (V × V) → Hp → Prop) => tv σ H1 fun y H2 => tPairs trs σ H2 fun ps H3 => Q ((x, y) :: ps) H3) hk fun φ S H env σ x v rl e hx Q p =>
    hv.go rl e p fun φ1 S1 H1 y w f1 r1 e1 hy p1 => hr.go r1 e1 p1 fun φ2 S2 H2 ps qs f2 r2 e2 hp p2 => p2.here r2 (Paired.cons ⟨VR.fut f2 (VR.fut f1 hx), VR.fut f2 hy⟩ hp)
def keysX : List (D × D) → Option (List (Key × D))
  | [] => some []
  | (k, v) :: r => (keyD k).bind fun k' => (keysX r).map fun r' => (k', v) :: r'
def mergeX (kvs more : List (Key × D)) : List (Key × D) := more.foldl (fun acc kv => putX acc kv.1 kv.2) kvs
theorem keysX_inv : ∀ {ds : List (D × D)} {ks : List (Key × D)} {vs : List (V × V)}, keysX ds = some ks → Paired (fun p q => VR K φ n H p.1 q.1 ∧ VR K φ n H p.2 q.2) ds vs → ∃ kws : List (Key × V), vs = kws.map (fun kv => (kV kv.1, kv.2)) ∧ KR K φ n H ks kws ∧ kws.length = ks.length
  | [], _, _, h, .nil => by cases h; exact ⟨[], rfl, .nil, rfl⟩
  | (k, v) :: r, _, _, h, .cons (b := b) q t => by
    obtain ⟨k', h1, h2⟩ := Option.bind_eq_some_iff.mp h
    obtain ⟨r', h3, h4⟩ := Option.map_eq_some_iff.mp h2
    obtain ⟨kws, e1, e2, e3⟩ := keysX_inv h3 t
    cases h4
    obtain ⟨b1, b2⟩ := b
    have := keyD_eq h1 q.1
    dsimp only at this
    subst this
    exact ⟨(k', b2) :: kws, by rw [e1]; rfl, .cons q.2 e2, congrArg Nat.succ e3⟩
theorem KR.merge : ∀ {more : List (Key × D)} {mw : List (Key × V)} {kvs : List (Key × D)} {kws : List (Key × V)}, KR K φ n H more mw → KR K φ n H kvs kws → KR K φ n H (mergeX kvs more) (mergeK kws mw)
  | _, _, _, _, .nil, h => h
  | (k, x) :: r, (_, v) :: vs, _, _, .cons q t, h => KR.merge (more := r) (mw := vs) t (h.put q)
def xDisp (fp : Env → Sto → R (List (D × D))) : Env → Sto → R D := fun env S => (fp env (S ++ [.dK []])).bind fun ps S1 => match at_ S1 S.length, keysX ps with
  | some (.dK []), some ks => if ks.length ≤ 15 then .ok (.ref S.length) (S1.set S.length (.dK (mergeX [] ks))) else .bad
  | _, _ => .bad
theorem imp_disp {trs : List (TE × TE)} {fp : Env → Sto → R (List (D × D))} (hp : Imp K W (prs K) (tPairs trs) fp) : Imp K W (vr K) (tDisp trs) (xDisp fp) := by
  intro φ S H env σ r e Q p a ha
  have r0 : Rel K (nxt φ S.length a) (S ++ [.dK []]) (upd H a (.dK [])) := r.new ha ⟨[], upd_same, .nil⟩
  have f0 : Fut K φ S.length H (nxt φ S.length a) (S ++ [O.dK []]).length (upd H a (.dK [])) := by
    rw [List.length_append]
    exact Fut.new ha
  refine hp.go r0 (e.fut f0) (p.fut f0) fun φ1 S1 H1 ps qs f1 r1 e1 hq p1 => ?_
  split at p1
  · rename_i ks h1 h2
    split at p1
    · rename_i hl
      obtain ⟨kws, e1', e2, e3⟩ := keysX_inv h2 hq
      obtain ⟨zs, q1, q2⟩ := r1.ob _ _ h1
      cases q2
      have hφ : φ1 S.length = a := by
        rw [f1.ag _ (by simp)]
        exact nxt_at
      have fw : Fut K φ1 S1.length H1 φ1 S1.length (upd H1 (φ1 S.length) (.dK (mergeK [] kws))) := Fut.upd q1 trivial
      have q := r1.put (o' := .dK (mergeX [] ks)) (u := .dK (mergeK [] kws)) h1 rfl rfl ⟨_, upd_same, (e2.merge .nil).fut fw⟩
      have fin := p1 φ1 _ (.ref (φ1 S.length)) q.2 q.1 (VR.ref (by
        rw [List.length_set]
        exact (List.getElem?_eq_some_iff.mp h1).1))
      rw [hφ] at q1 fin
      exact ⟨q1, kws, e1', by rw [e3]; exact hl, fin⟩
    · exact p1.elim
  · exact p1.elim
/-! ### instances -/
def lkX {α : Type} (f : Str) (fs : List (Str × α)) : Option α := fs.lookup f
theorem KR.lookup {f : Str} : ∀ {fs : List (Str × D)} {fv : List (Str × V)} {d : D}, KR K φ n H fs fv → fs.lookup f = some d → ∃ v, fv.lookup f = some v ∧ VR K φ n H d v
  | _, _, _, .nil, h => by cases h
  | (k, x) :: r, _, d, .cons h t, e => by
    rw [List.lookup_cons] at e ⊢
    cases hk : f == k with
    | true =>
      rw [hk] at e
      cases e
      exact ⟨_, rfl, h⟩
    | false =>
      rw [hk] at e
      exact KR.lookup t e
theorem KR.lookup_none {f : Str} : ∀ {fs : List (Str × D)} {fv : List (Str × V)}, KR K φ n H fs fv → fs.lookup f = none → fv.lookup f = none
  | _, _, .nil, _ => rfl
  | (k, x) :: r, _, .cons h t, e => by
    rw [List.lookup_cons] at e ⊢
    cases hk : f == k with
    | true =>
      rw [hk] at e
      cases e
    | false =>
      rw [hk] at e
      exact KR.lookup_none t e
def putFX (f : Str) (v : D) : List (Str × D) → List (Str × D)
  | [] => [(f, v)]
  | (g, x) :: r => if g = f then (g, v) :: r else (g, x) :: putFX f v r
theorem KR.putF {f : Str} {d : D} {v : V} (hv : VR K φ n H d v) : ∀ {fs : List (Str × D)} {fv : List (Str × V)}, KR K φ n H fs fv → KR K φ n H (putFX f d fs) (L2.putF f v fv)
  | _, _, .nil => .cons hv .nil
  | (g, x) :: r, (_, _) :: _, .cons h t => by
    unfold putFX L2.putF
    by_cases hg : g = f
    · rw [if_pos hg, if_pos hg]
      exact .cons hv t
    · rw [if_neg hg, if_neg hg]
      exact .cons h (KR.putF hv t)
def insX (S : Sto) (C : Str) : D → Option (Nat × List (Str × D))
  | .ref l => match at_ S l with
    | some (.ins C' fs) => if C' = C then some (l, fs) else none
    | _ => none
  | _ => none
theorem insX_eq {l : Nat} {C : Str} {fs : List (Str × D)} (h : at_ S l = some (.ins C fs)) : insX S C (.ref l) = some (l, fs) := by simp [insX, h]
theorem insX_inv {x : D} {v : V} {C : Str} {l : Nat} {fs : List (Str × D)} (r : Rel K φ S H) (h : insX S C x = some (l, fs)) (hv : VR K φ S.length H x v) : x = .ref l ∧ v = .ref (φ l) ∧ at_ S l = some (.ins C fs) ∧ ∃ dx fv, H (φ l) = some (.ins (He.ga K C) dx fv) ∧ KR K φ S.length H fs fv := by
  unfold insX at h
  split at h
  · split at h
    · rename_i l' _ C' fs' e
      split at h
      · rename_i hc
        cases h
        subst hc
        obtain ⟨_, rfl⟩ := hv.ref_inv
        exact ⟨rfl, rfl, e, r.ob _ _ e⟩
      · cases h
    · cases h
  · cases h
def xFld (C f : Str) (fa : Env → Sto → R D) : Env → Sto → R D := fun env S => (fa env S).bind fun x S1 => match (insX S1 C x).bind fun p => p.2.lookup f with
  | some d => .ok d S1
  | none => .bad
theorem imp_fld {C f : Str} {ta : TE} {fa : Env → Sto → R D} (c : Cls K (He.ga K C)) (na : NoAttr K (He.ga K C) f) (ha : Imp K W (vr K) ta fa) : Imp K W (vr K) (tFld K ta f) (xFld C f fa) :=
  imp_bind (tb := fun (x : V) _ H1 (Q : VK) => ∃ a C dx fs v, x = .ref a ∧ H1 a = some (.ins C dx fs) ∧ Cls K C ∧ NoAttr K C f ∧ fs.lookup f = some v ∧ Q v H1) ha fun φ S H env σ x v rl e hv Q p => by
    split at p
    · rename_i d hd
      obtain ⟨⟨l, fs⟩, h1, h2⟩ := Option.bind_eq_some_iff.mp hd
      obtain ⟨_, rfl, _, dx, fv, q1, q2⟩ := insX_inv rl h1 hv
      obtain ⟨u, h3, h4⟩ := q2.lookup h2
      exact ⟨_, _, dx, fv, u, rfl, q1, c, na, h3, p.here rl h4⟩
    · exact p.elim
def setFX (C f : Str) (x y : D) (S : Sto) : Option Sto := (insX S C x).bind fun p => if p.2.length < 900 then some (S.set p.1 (.ins C (putFX f y p.2))) else none
theorem setFX_eq {C f : Str} {l : Nat} {fs : List (Str × D)} {y : D} (h : at_ S l = some (.ins C fs)) (hl : fs.length < 900) : setFX C f (.ref l) y S = some (S.set l (.ins C (putFX f y fs))) := by simp [setFX, insX_eq h, hl]
theorem setFX_inv {C f : Str} {x y : D} {v w : V} {S' : Sto} (r : Rel K φ S H) (h : setFX C f x y S = some S') (hx : VR K φ S.length H x v) (hy : VR K φ S.length H y w) :
    ∃ l dx fv, x = .ref l ∧ v = .ref (φ l) ∧ H (φ l) = some (.ins (He.ga K C) dx fv) ∧ fv.length < 900 ∧ Rel K φ S' (upd H (φ l) (.ins (He.ga K C) dx (L2.putF f w fv))) ∧ Fut K φ S.length H φ S'.length (upd H (φ l) (.ins (He.ga K C) dx (L2.putF f w fv))) := by
  obtain ⟨⟨l, fs⟩, h1, h2⟩ := Option.bind_eq_some_iff.mp h
  split at h2
  · rename_i hl
    cases h2
    obtain ⟨rfl, rfl, el, dx, fv, q1, q2⟩ := insX_inv r h1 hx
    have fw : Fut K φ S.length H φ S.length (upd H (φ l) (.ins (He.ga K C) dx (L2.putF f w fv))) := Fut.upd q1 trivial
    have q := r.put (o' := .ins C (putFX f y fs)) (u := .ins (He.ga K C) dx (L2.putF f w fv)) el rfl rfl ⟨dx, _, upd_same, (q2.putF hy).fut fw⟩
    exact ⟨l, dx, fv, rfl, rfl, q1, by rw [q2.len]; exact hl, q.1, q.2⟩
  · cases h2
def xSetF (C f : Str) (fo fv : Env → Sto → R D) : Env → Sto → RS := fun env S => (fv env S).bindS env fun y S1 => (fo env S1).bindS env fun x S2 => match setFX C f x y S2 with
  | some S3 => .nx env S3
  | none => .bad
theorem imp_setF {C f : Str} {to tv : TE} {fo fv : Env → Sto → R D} (c : Cls K (He.ga K C)) (na : NoAttr K (He.ga K C) f) (ho : Imp K W (vr K) to fo) (hv : Imp K W (vr K) tv fv) : ImpS K W (sFld K to tv f) (xSetF C f fo fv) := by
  intro φ S H env σ r e D p
  refine hv.goS r e p fun φ1 S1 H1 y y' f1 r1 e1 hy p1 => ho.goS r1 e1 p1 fun φ2 S2 H2 x x' f2 r2 e2 hx p2 => ?_
  split at p2
  · rename_i S3 hs
    obtain ⟨l, dx, fv, rfl, rfl, q1, q2, q3, q4⟩ := setFX_inv r2 hs hx (VR.fut f2 hy)
    exact ⟨_, _, dx, fv, rfl, q1, c, na, by omega, p2 _ _ σ q4 q3 (e2.fut q4).e⟩
  · exact p2.elim
def xAugF (C f : Str) (fo fv : Env → Sto → R D) (o : D → D → Sto → R D) : Env → Sto → RS := fun env S => (fo env S).bindS env fun x S1 => match (insX S1 C x).bind fun p => p.2.lookup f with
  | some d => (fv env S1).bindS env fun y S2 => (o d y S2).bindS env fun z S3 => match setFX C f x z S3 with
    | some S4 => .nx env S4
    | none => .bad
  | none => .bad
theorem imp_augF {C f : Str} {to tv : TE} {fo fv : Env → Sto → R D} {op : Int → Int → Int} (c : Cls K (He.ga K C)) (na : NoAttr K (He.ga K C) f) (ho : Imp K W (vr K) to fo) (hv : Imp K W (vr K) tv fv) :
    ImpS K W (sFldAug K to tv (fun x y H Q => ∃ i j, x = .int i ∧ y = .int j ∧ Q (.int (op i j)) H) f) (xAugF C f fo fv (oI fun i j => .int (op i j))) := by
  intro φ S H env σ r e D p
  refine ho.goS r e p fun φ1 S1 H1 x x' f1 r1 e1 hx p1 => ?_
  split at p1
  · rename_i d hd
    obtain ⟨⟨l, fs⟩, h1, h2⟩ := Option.bind_eq_some_iff.mp hd
    obtain ⟨rfl, rfl, _, dx, fv1, q1, q2⟩ := insX_inv r1 h1 hx
    obtain ⟨u, h3, h4⟩ := q2.lookup h2
    refine ⟨_, _, dx, fv1, u, rfl, q1, c, na, h3, hv.goS r1 e1 p1 fun φ2 S2 H2 y y' f2 r2 e2 hy p2 => ?_⟩
    unfold oI at p2
    split at p2
    · cases VR.fut f2 h4
      cases hy
      simp only [R.bindS_ok] at p2
      split at p2
      · rename_i S4 hs
        obtain ⟨l', dx', fv', e', ev, q3, q4, q5, q6⟩ := setFX_inv r2 hs (VR.fut f2 hx) (VR.int _)
        cases e'
        injection ev with ev
        rw [ev]
        exact ⟨_, _, rfl, rfl, dx', fv', q3, by omega, p2 _ _ σ q6 q5 (e2.fut q6).e⟩
      · exact p2.elim
    · exact p2.elim
  · exact p1.elim
theorem imp_augF_add {C f : Str} {to tv : TE} {fo fv : Env → Sto → R D} (c : Cls K (He.ga K C)) (na : NoAttr K (He.ga K C) f) (ho : Imp K W (vr K) to fo) (hv : Imp K W (vr K) tv fv) : ImpS K W (sFldAug K to tv rAdd f) (xAugF C f fo fv (oI fun i j => .int (i + j))) := imp_augF c na ho hv
theorem imp_augF_sub {C f : Str} {to tv : TE} {fo fv : Env → Sto → R D} (c : Cls K (He.ga K C)) (na : NoAttr K (He.ga K C) f) (ho : Imp K W (vr K) to fo) (hv : Imp K W (vr K) tv fv) : ImpS K W (sFldAug K to tv rSub f) (xAugF C f fo fv (oI fun i j => .int (i - j))) := imp_augF c na ho hv
/-- o.m(..) -/
def xMeth (C m : Str) (f : List D → Sto → R D) (fo : Env → Sto → R D) (fa : Env → Sto → R (List D)) : Env → Sto → R D := fun env S => (fo env S).bind fun x S1 => match insX S1 C x with
  | some (_, fs) => match fs.lookup m with
    | none => (fa env S1).bind fun ds S2 => nox (f (x :: ds) S2)
    | some _ => .bad
  | none => .bad
theorem imp_meth {C m : Str} {f : List D → Sto → R D} {to : TE} {ta : TA} {fo : Env → Sto → R D} {fa : Env → Sto → R (List D)} {E : XK} (ho : Imp K W (vr K) to fo) (ha : Imp K W (vrs K) ta fa) : Imp K W (vr K) (tMeth (He.ga K C) m (spF K f) [] E to ta) (xMeth C m f fo fa) :=
  imp_bind (tb := fun (x : V) σ H1 (Q : VK) => ∃ a dx fs, x = .ref a ∧ H1 a = some (.ins (He.ga K C) dx fs) ∧ fs.lookup m = none ∧ ta σ H1 fun vs H2 => spF K f (x :: (vs ++ [])) H2 Q E) ho fun φ S H env σ x v rl e hv Q p => by
    split at p
    · rename_i l fs hi
      split at p
      · rename_i hm
        obtain ⟨rfl, rfl, _, dx, fv, q1, q2⟩ := insX_inv rl hi hv
        refine ⟨_, dx, fv, rfl, q1, q2.lookup_none hm, ha.go rl e p fun φ1 S1 H1 ds vs f1 r1 _ hvs p1 => ?_⟩
        rw [List.append_nil]
        obtain ⟨d, S2, hf, p1⟩ := nox_inv p1
        exact ⟨φ1, S1, _, r1, .cons (VR.fut f1 hv) hvs, by rw [hf]; exact p1⟩
      · exact p.elim
    · exact p.elim
def xMethX (C m : Str) (f : List D → Sto → R D) (fo : Env → Sto → R D) (fa : Env → Sto → R (List D)) : Env → Sto → R D := fun env S => (fo env S).bind fun x S1 => match insX S1 C x with
  | some (_, fs) => match fs.lookup m with
    | none => (fa env S1).bind fun ds S2 => f (x :: ds) S2
    | some _ => .bad
  | none => .bad
theorem imp_methX {C m : Str} {f : List D → Sto → R D} {to : TE} {ta : TA} {fo : Env → Sto → R D} {fa : Env → Sto → R (List D)} (ho : Imp K W (vr K) to fo) (ha : Imp K W (vrs K) ta fa) : Imp K W (vr K) (tMethS (He.ga K C) m (spF K f) (WE W.wx) to ta) (xMethX C m f fo fa) :=
  imp_bind (tb := fun (x : V) σ H1 (Q : VK) => ∃ a dx fs, x = .ref a ∧ H1 a = some (.ins (He.ga K C) dx fs) ∧ fs.lookup m = none ∧ ta σ H1 fun vs H2 => spF K f (x :: vs) H2 Q (WE W.wx σ)) ho fun φ S H env σ x v rl e hv Q p => by
    split at p
    · rename_i l fs hi
      split at p
      · rename_i hm
        obtain ⟨rfl, rfl, _, dx, fv, q1, q2⟩ := insX_inv rl hi hv
        exact ⟨_, dx, fv, rfl, q1, q2.lookup_none hm, ha.go rl e p fun φ1 S1 H1 ds vs f1 r1 _ hvs p1 => ⟨φ1, S1, _, r1, .cons (VR.fut f1 hv) hvs, p1⟩⟩
      · exact p.elim
    · exact p.elim
/-- C(..) -/
def xMake (C : Str) (f : List D → Sto → R D) (fa : Env → Sto → R (List D)) : Env → Sto → R D := fun env S => (fa env S).bind fun ds S1 => match f (.ref S1.length :: ds) (S1 ++ [.ins C []]) with
  | .ok .non S2 => .ok (.ref S1.length) S2
  | _ => .bad
theorem imp_make {C : Str} {f : List D → Sto → R D} {ta : TA} {fa : Env → Sto → R (List D)} {E : XK} (ha : Imp K W (vrs K) ta fa) : Imp K W (vr K) (tMake (He.ga K C) (spF K f) [] E ta) (xMake C f fa) :=
  imp_bind (tb := fun (vs : List V) _ H1 (Q : VK) => ∀ x dx, H1 x = none → H1 dx = none → dx ≠ x → spF K f (.ref x :: (vs ++ [])) (upd (upd H1 dx (.own x)) x (.ins (He.ga K C) dx [])) (fun v H2 => v = .non ∧ Q (.ref x) H2) E) ha fun φ S H env σ ds vs rl e hv Q p x dx hx hd ne => by
    split at p
    · rename_i S2 hf
      have e1 : Ex H (upd H dx (.own x)) := Ex.new hd
      have hx1 : (upd H dx (.own x)) x = none := by rw [upd_ne ne.symm]; exact hx
      have r1 := (rl.ex e1).new (o := .ins C []) (u := .ins (He.ga K C) dx []) hx1 ⟨dx, [], upd_same, .nil⟩
      have f1 : Fut K φ S.length H (nxt φ S.length x) (S ++ [O.ins C []]).length (upd (upd H dx (.own x)) x (.ins (He.ga K C) dx [])) := by
        rw [List.length_append]
        exact (Fut.ex e1).trans (Fut.new hx1)
      have hr := VR.ref (K := K) (φ := nxt φ S.length x) (n := (S ++ [O.ins C []]).length) (H := upd (upd H dx (.own x)) x (.ins (He.ga K C) dx [])) (l := S.length) (by simp)
      rw [nxt_at] at hr
      refine ⟨_, _, _, r1, .cons hr (by rw [List.append_nil]; exact hv.fut f1), ?_⟩
      rw [hf]
      intro φ' H' v f' r' hv'
      cases hv'
      refine ⟨rfl, ?_⟩
      have q := p φ' H' (.ref (φ' S.length)) (f1.trans f') r' (VR.ref (Nat.lt_of_lt_of_le (by simp) f'.le))
      rw [f'.ag _ (by simp), nxt_at] at q
      exact q
    · exact p.elim
end
end Mi

namespace Mi
open PySem PySem.Spec PyProof.Rows L2 Evl My
/-! ### the first part first -/
def RS.turn (r : RS) (g : Env → Sto → RS) : RS := match r with
  | .nx e S => g e S
  | .ct e S => g e S
  | q => q
def R.bindE (r : R Env) (g : Env → Sto → RS) : RS := match r with
  | .ok e S => g e S
  | _ => .bad
@[simp] theorem turn_nx {e : Env} {S : Sto} {g : Env → Sto → RS} : (RS.nx e S).turn g = g e S := rfl
@[simp] theorem turn_ct {e : Env} {S : Sto} {g : Env → Sto → RS} : (RS.ct e S).turn g = g e S := rfl
@[simp] theorem turn_ret {d : D} {S : Sto} {g : Env → Sto → RS} : (RS.ret d S).turn g = .ret d S := rfl
@[simp] theorem turn_bk {e : Env} {S : Sto} {g : Env → Sto → RS} : (RS.bk e S).turn g = .bk e S := rfl
@[simp] theorem turn_exc {c : Str} {fs : List (Str × D)} {e : Env} {S : Sto} {g : Env → Sto → RS} : (RS.exc c fs e S).turn g = .exc c fs e S := rfl
@[simp] theorem bindE_ok {e : Env} {S : Sto} {g : Env → Sto → RS} : (R.ok e S).bindE g = g e S := rfl
open Classical in
theorem loopX_cons {ok : Sto → Prop} {fg : XG} {fb : Env → Sto → RS} {x : D} {r : List D} {env : Env} {S : Sto} (h : ok S) : loopX ok fg fb (x :: r) env S = (fg x env S).bindE fun e1 S1 => (fb e1 S1).turn (loopX ok fg fb r) := by
  rw [loopX, if_pos h]
  cases fg x env S with
  | ok e1 S1 =>
    simp only [bindE_ok]
    cases fb e1 S1 <;> rfl
  | _ => rfl
open Classical in
theorem loopX_nil {ok : Sto → Prop} {fg : XG} {fb : Env → Sto → RS} {env : Env} {S : Sto} (h : ok S) : loopX ok fg fb [] env S = .nx env S := by rw [loopX, if_pos h]
theorem whileX_succ {ft : Env → Sto → R Bool} {fb : Env → Sto → RS} {k : Nat} {env : Env} {S : Sto} : whileX ft fb (k + 1) env S = (ft env S).bindS env fun b S1 => if b = true then (fb env S1).turn (whileX ft fb k) else .nx env S1 := by
  rw [whileX]
  congr 1
/-! ### reckoning in the store -/
theorem str_beq (a b : Str) : (a == b) = decide (a = b) := by rw [Bool.eq_iff_iff]; simp
section
variable {S S' : Sto} {l i : Nat} {o : O} {xs : List D}
theorem at_set {j : Nat} : at_ (S.set i o) j = if i = j then (if i < S.length then some o else none) else at_ S j := by
  unfold at_
  rw [List.getElem?_set]
theorem at_set_eq (h : i < S.length) : at_ (S.set i o) i = some o := List.getElem?_set_self h
theorem at_set_ne (h : i ≠ l) : at_ (S.set i o) l = at_ S l := List.getElem?_set_ne h
theorem at_app (h : at_ S l = some o) {T : Sto} : at_ (S ++ T) l = some o := by
  unfold at_ at *
  rw [List.getElem?_append_left (List.getElem?_eq_some_iff.mp h).1]
  exact h
theorem at_app_lt (h : l < S.length) {T : Sto} : at_ (S ++ T) l = at_ S l := List.getElem?_append_left h
theorem at_new {T : Sto} : at_ (S ++ o :: T) S.length = some o := by simp [at_]
theorem rdL_at : rdL S l = (match at_ S l with
  | some (.lst xs) => some xs
  | some (.rol xs) => some xs
  | _ => none) := rfl
theorem rdL_lst (h : at_ S l = some (.lst xs)) : rdL S l = some xs := by simp [rdL, h]
theorem rdL_set_ne (h : i ≠ l) : rdL (S.set i o) l = rdL S l := by unfold rdL; rw [at_set_ne h]
theorem rdL_set_eq (h : i < S.length) : rdL (S.set i (.lst xs)) i = some xs := rdL_lst (at_set_eq h)
theorem rdL_app (h : rdL S l = some xs) {T : Sto} : rdL (S ++ T) l = some xs := by
  unfold rdL at h ⊢
  rw [at_app_lt (rdL_lt (S := S) (l := l) (xs := xs) (by unfold rdL; exact h))]
  exact h
theorem rdL_new {T : Sto} : rdL (S ++ O.lst xs :: T) S.length = some xs := rdL_lst at_new
theorem rdL_of_at {S' : Sto} (e : at_ S' l = at_ S l) (h : rdL S l = some xs) : rdL S' l = some xs := by
  unfold rdL at h ⊢
  rw [e]
  exact h
theorem at_app_ge {T : Sto} {k : Nat} : at_ (S ++ T) (S.length + k) = at_ T k := by
  unfold at_
  rw [List.getElem?_append_right (by omega), Nat.add_sub_cancel_left]
theorem at_app_self {T : Sto} : at_ (S ++ T) S.length = at_ T 0 := at_app_ge (k := 0)
theorem at_zero {T : Sto} : at_ (o :: T) 0 = some o := rfl
theorem at_succ {T : Sto} {k : Nat} : at_ (o :: T) (k + 1) = at_ T k := by simp [at_]
theorem rdL_app_ge {T : Sto} {k : Nat} : rdL (S ++ T) (S.length + k) = rdL T k := by unfold rdL; rw [at_app_ge]
theorem rdL_app_self {T : Sto} : rdL (S ++ T) S.length = rdL T 0 := rdL_app_ge (k := 0)
theorem rdL_zero {T : Sto} : rdL (.lst xs :: T) 0 = some xs := rfl
theorem rdL_succ {T : Sto} {k : Nat} : rdL (o :: T) (k + 1) = rdL T k := by unfold rdL; rw [at_succ]
theorem rdL_app_lt (h : l < S.length) {T : Sto} : rdL (S ++ T) l = rdL S l := by unfold rdL; rw [at_app_lt h]
/-- all below n but what lies in [b, b + k) is as it was -/
structure Frm (b k : Nat) (S S' : Sto) : Prop where
  le : S.length ≤ S'.length
  eq : ∀ i, i < S.length → ¬ (b ≤ i ∧ i < b + k) → at_ S' i = at_ S i
theorem Frm.refl {b k : Nat} : Frm b k S S := ⟨Nat.le_refl _, fun _ _ _ => rfl⟩
theorem Frm.trans {b k : Nat} {S1 S2 : Sto} (a : Frm b k S S1) (c : Frm b k S1 S2) : Frm b k S S2 := ⟨Nat.le_trans a.le c.le, fun i h n => (c.eq i (Nat.lt_of_lt_of_le h a.le) n).trans (a.eq i h n)⟩
theorem Frm.set {b k j : Nat} (h : b ≤ j ∧ j < b + k) : Frm b k S (S.set j o) := ⟨by simp, fun i _ n => List.getElem?_set_ne (fun z => n (by rw [← z]; exact h))⟩
theorem Frm.app {b k : Nat} {T : Sto} : Frm b k S (S ++ T) := ⟨by simp, fun i h _ => List.getElem?_append_left h⟩
theorem Frm.get {b k : Nat} (f : Frm b k S S') (h : at_ S l = some o) (n : ¬ (b ≤ l ∧ l < b + k)) : at_ S' l = some o := by rw [f.eq l (at_lt h) n]; exact h
theorem Frm.rd {b k : Nat} (f : Frm b k S S') (h : rdL S l = some xs) (n : ¬ (b ≤ l ∧ l < b + k)) : rdL S' l = some xs := rdL_of_at (f.eq l (rdL_lt h) n) h
end
/-! ### comprehensions that leave the store -/
theorem lc_pure {ok : Sto → Prop} {fg : XG} {ft : Env → Sto → R Bool} {fe : Env → Sto → R D} {env0 : Env} {S : Sto} (g : D → Option D) : ∀ (items : List D) (acc : List D), (∀ acc, ok (S ++ [.lst acc])) →
    (∀ x ∈ items, ∀ acc, ∃ e1, fg x env0 (S ++ [.lst acc]) = .ok e1 (S ++ [.lst acc]) ∧ (match g x with
      | some y => ft e1 (S ++ [.lst acc]) = .ok true (S ++ [.lst acc]) ∧ fe e1 (S ++ [.lst acc]) = .ok y (S ++ [.lst acc])
      | none => ft e1 (S ++ [.lst acc]) = .ok false (S ++ [.lst acc]))) →
    acc.length + items.length < 100000 → compX ok fg ft fe env0 S.length items (S ++ [.lst acc]) = .ok (.ref S.length) (S ++ [.lst (acc ++ items.filterMap g)])
  | [], acc, hok, _, _ => by simp [compX, hok]
  | x :: r, acc, hok, ht, hl => by
    obtain ⟨e1, h1, h2⟩ := ht x List.mem_cons_self acc
    rw [List.length_cons] at hl
    have ht' : ∀ y ∈ r, _ := fun y hy => ht y (List.mem_cons_of_mem _ hy)
    rw [compX, if_pos (hok acc), h1]
    cases hg : g x with
    | none =>
      rw [hg] at h2
      simp only [h2]
      rw [lc_pure g r acc hok ht' (by omega), List.filterMap_cons_none hg]
    | some y =>
      rw [hg] at h2
      simp only [h2.1, h2.2]
      have hs : at_ (S ++ [O.lst acc]) S.length = some (.lst acc) := by simp [at_]
      have hset : (S ++ [O.lst acc]).set S.length (.lst (acc ++ [y])) = S ++ [.lst (acc ++ [y])] := by simp
      rw [hs]
      simp only
      rw [if_pos (by omega), hset, lc_pure g r (acc ++ [y]) hok ht' (by simp; omega), List.filterMap_cons_some hg]
      simp
/-- .. each item gives one -/
theorem lc_map {ok : Sto → Prop} {fg : XG} {fe : Env → Sto → R D} {env0 : Env} {S : Sto} (g : D → D) (items : List D) (hok : ∀ acc, ok (S ++ [.lst acc]))
    (ht : ∀ x ∈ items, ∀ acc, ∃ e1, fg x env0 (S ++ [.lst acc]) = .ok e1 (S ++ [.lst acc]) ∧ fe e1 (S ++ [.lst acc]) = .ok (g x) (S ++ [.lst acc])) (hl : items.length < 100000) :
    compX ok fg xYes fe env0 S.length items (S ++ [.lst []]) = .ok (.ref S.length) (S ++ [.lst (items.map g)]) := by
  have := lc_pure (ok := ok) (fg := fg) (ft := xYes) (fe := fe) (env0 := env0) (S := S) (fun x => some (g x)) items [] hok (fun x hx acc => by
    obtain ⟨e1, h1, h2⟩ := ht x hx acc
    exact ⟨e1, h1, rfl, h2⟩) (by simpa using hl)
  rw [this]
  simp
theorem rngD_mem {lo : Int} {k : Nat} {x : D} (h : x ∈ rngD lo k) : ∃ i : Nat, i < k ∧ x = .int (lo + (i : Int)) := by
  obtain ⟨i, hi, rfl⟩ := List.mem_map.mp h
  exact ⟨i, List.mem_range.mp hi, rfl⟩
/-! ### loops by a word -/
def Exits : RS → Prop
  | .ret _ _ => True
  | .bk _ _ => True
  | .exc _ _ _ _ => True
  | _ => False
theorem loop_run {ok : Sto → Prop} {fg : XG} {fb : Env → Sto → RS} (I : Nat → Env → Sto → Prop) (F : RS → Prop) : ∀ (items : List D) (k : Nat) (env : Env) (S : Sto), (∀ i env S, i ≤ k + items.length → I i env S → ok S) →
    (∀ (i : Nat) x env S, items[i]? = some x → I (k + i) env S → ∃ e1 S1, fg x env S = .ok e1 S1 ∧ ((∃ e S', (fb e1 S1 = .nx e S' ∨ fb e1 S1 = .ct e S') ∧ I (k + i + 1) e S') ∨ (F (fb e1 S1) ∧ Exits (fb e1 S1)))) → I k env S →
    (∃ e S', loopX ok fg fb items env S = .nx e S' ∧ I (k + items.length) e S') ∨ (F (loopX ok fg fb items env S) ∧ Exits (loopX ok fg fb items env S))
  | [], k, env, S, hok, _, h => .inl ⟨env, S, by rw [loopX, if_pos (hok k env S (by simp) h)], h⟩
  | x :: r, k, env, S, hok, turn, h => by
    rw [loopX, if_pos (hok k env S (by simp) h)]
    obtain ⟨e1, S1, h1, h2⟩ := turn 0 x env S rfl h
    rw [h1]
    simp only
    have next : ∀ e S', I (k + 1) e S' → (∃ e2 S2, loopX ok fg fb r e S' = .nx e2 S2 ∧ I (k + (x :: r).length) e2 S2) ∨ (F (loopX ok fg fb r e S') ∧ Exits (loopX ok fg fb r e S')) := fun e S' hI => by
      have := loop_run I F r (k + 1) e S' (fun i env S hi => hok i env S (by rw [List.length_cons]; omega)) (fun i y env S hy hI => by
        have := turn (i + 1) y env S hy (by rw [show k + (i + 1) = k + 1 + i by omega]; exact hI)
        rw [show k + (i + 1) = k + 1 + i by omega] at this
        exact this) hI
      rw [show k + (x :: r).length = k + 1 + r.length by rw [List.length_cons]; omega]
      exact this
    rcases h2 with ⟨e, S', h3, h4⟩ | ⟨h3, h4⟩
    · rcases h3 with h3 | h3
      · rw [h3]
        exact next e S' h4
      · rw [h3]
        exact next e S' h4
    · cases hb : fb e1 S1 with
      | nx e S' => rw [hb] at h4; exact h4.elim
      | ct e S' => rw [hb] at h4; exact h4.elim
      | bad => rw [hb] at h4; exact h4.elim
      | ret d S' => rw [hb] at h3; exact .inr ⟨h3, trivial⟩
      | bk e S' => rw [hb] at h3; exact .inr ⟨h3, trivial⟩
      | exc c fs e S' => rw [hb] at h3; exact .inr ⟨h3, trivial⟩
/-- no way out within -/
theorem loop_all {ok : Sto → Prop} {fg : XG} {fb : Env → Sto → RS} {items : List D} {env : Env} {S : Sto} (I : Nat → Env → Sto → Prop) (hok : ∀ i env S, i ≤ items.length → I i env S → ok S)
    (turn : ∀ (i : Nat) x env S, items[i]? = some x → I i env S → ∃ e1 S1, fg x env S = .ok e1 S1 ∧ ∃ e S', (fb e1 S1 = .nx e S' ∨ fb e1 S1 = .ct e S') ∧ I (i + 1) e S') (h : I 0 env S) :
    ∃ e S', loopX ok fg fb items env S = .nx e S' ∧ I items.length e S' := by
  rcases loop_run (ok := ok) (fg := fg) (fb := fb) I (fun _ => False) items 0 env S (fun i env S hi => hok i env S (by omega)) (fun i x env S hx hI => by
    rw [Nat.zero_add] at hI
    obtain ⟨e1, S1, h1, h2⟩ := turn i x env S hx hI
    exact ⟨e1, S1, h1, .inl (by rw [Nat.zero_add]; exact h2)⟩) h with h1 | h1
  · rw [Nat.zero_add] at h1
    exact h1
  · exact h1.1.elim
/-- some way out -/
theorem loop_or {ok : Sto → Prop} {fg : XG} {fb : Env → Sto → RS} {items : List D} {env : Env} {S : Sto} (I : Nat → Env → Sto → Prop) (F : RS → Prop) (hok : ∀ i env S, i ≤ items.length → I i env S → ok S)
    (turn : ∀ (i : Nat) x env S, items[i]? = some x → I i env S → ∃ e1 S1, fg x env S = .ok e1 S1 ∧ ((∃ e S', (fb e1 S1 = .nx e S' ∨ fb e1 S1 = .ct e S') ∧ I (i + 1) e S') ∨ (F (fb e1 S1) ∧ Exits (fb e1 S1)))) (h : I 0 env S) :
    (∃ e S', loopX ok fg fb items env S = .nx e S' ∧ I items.length e S') ∨ (F (loopX ok fg fb items env S) ∧ Exits (loopX ok fg fb items env S)) := by
  have := loop_run (ok := ok) (fg := fg) (fb := fb) I F items 0 env S (fun i env S hi => hok i env S (by omega)) (fun i x env S hx hI => by
    rw [Nat.zero_add] at hI
    rw [Nat.zero_add]
    exact turn i x env S hx hI) h
  rw [Nat.zero_add] at this
  exact this
theorem atI_of {α : Type} {xs : List α} {i : Int} {x : α} (h0 : 0 ≤ i) (h : xs[i.toNat]? = some x) : atI xs i = some x := by
  have := (List.getElem?_eq_some_iff.mp h).1
  unfold atI ixN
  rw [if_pos h0, if_pos (by omega)]
  exact h
theorem ixN_of {n : Nat} {i : Int} (h0 : 0 ≤ i) (h : i < n) : ixN n i = some i.toNat := by
  unfold ixN
  rw [if_pos h0, if_pos h]
theorem erase_map {α β : Type} {f : α → β} : ∀ {l : List α} {i : Nat}, (l.map f).eraseIdx i = (l.eraseIdx i).map f
  | [], _ => by simp
  | _ :: _, 0 => rfl
  | _ :: r, i + 1 => by simp [List.eraseIdx_cons_succ, erase_map (l := r) (i := i)]
theorem seqIx {n : Nat} {i : Int} (h0 : 0 ≤ i) (h : i < n) : seqIndex? i n = some i.toNat := by
  unfold seqIndex?
  have h1 : ¬ i < 0 := by omega
  simp [h1, h0, h]
end Mi

namespace Mi
open PySem PySem.Spec PyProof.Rows L2 Evl My
/-! ### the law itself -/
theorem law_in {K : PySem.W.Frag} {f : List D → Sto → R D} (h : ∀ (o : O) (ns : List Int), (o = .lst (ns.map .int) ∨ o = .rol (ns.map .int)) → ns.length ≤ 63 → ∃ S', f [.ref 0] [o] = .ok (.bl true) S') : ∀ vs H Q E, My.spLaw K vs H Q E → spF K f vs H Q E := fun vs H Q E ⟨a, ns, hv, hS, hl, q⟩ => by
  subst hv
  have go : ∀ o : O, (o = .lst (ns.map .int) ∨ o = .rol (ns.map .int)) → OR K (fun _ => a) 1 H a o → spF K f [.ref a] H Q E := fun o ho hO => by
    obtain ⟨S', hf⟩ := h o ns ho hl
    refine ⟨fun _ => a, [o], [.ref 0], ⟨fun i j oi oj hi hj _ _ _ => ?_, fun l oo hl => ?_⟩, .cons (.ref (l := 0) (by simp)) .nil, ?_⟩
    · have h1 := (List.getElem?_eq_some_iff.mp hi).1
      have h2 := (List.getElem?_eq_some_iff.mp hj).1
      simp at h1 h2
      omega
    · have h1 := (List.getElem?_eq_some_iff.mp hl).1
      simp at h1
      subst h1
      cases hl
      exact hO
    · rw [hf]
      intro φ' H' v _ _ hv
      cases hv
      exact q H'
  rcases hS with (hS | ⟨o, hS⟩) | hS
  · exact go (.lst (ns.map .int)) (.inl rfl) ⟨_, hS, VRs.ints ns⟩
  · exact go (.rol (ns.map .int)) (.inr rfl) ⟨_, .inl ⟨o, hS⟩, VRs.ints ns⟩
  · exact go (.rol (ns.map .int)) (.inr rfl) ⟨_, .inr fun H' => .inr hS, VRs.ints ns⟩
end Mi

namespace Mi
open PySem PySem.Spec PyProof.Rows L2 Evl My
section
variable {K : PySem.W.Frag} {φ φ1 φ' : Nat → Addr} {n n1 n' : Nat} {H H1 H' : Hp} {X : XK} {W : Wc K} {S : Sto} {α β γ δ : Type} {ρ : Rl α β}
/-! ### a call of a def that raises, where no error is awaited -/
theorem imp_callX0 {f : List D → Sto → R D} {ta : TA} {fa : Env → Sto → R (List D)} {E : L2.St → XK} (ha : Imp K W (vrs K) ta fa) : Imp K W (vr K) (tCallS (spF K f) E ta) (xCall f fa) :=
  imp_bind (tb := fun (vs : List V) σ H (Q : VK) => spF K f vs H Q (E σ)) ha fun φ S H env σ x v rl e hv Q p => by
    obtain ⟨d, S1, hf, p⟩ := nox_inv p
    exact ⟨φ, S, x, rl, hv, by rw [hf]; exact p⟩
theorem imp_methX0 {C m : Str} {f : List D → Sto → R D} {to : TE} {ta : TA} {fo : Env → Sto → R D} {fa : Env → Sto → R (List D)} {E : L2.St → XK} (ho : Imp K W (vr K) to fo) (ha : Imp K W (vrs K) ta fa) : Imp K W (vr K) (tMethS (He.ga K C) m (spF K f) E to ta) (xMeth C m f fo fa) :=
  imp_bind (tb := fun (x : V) σ H1 (Q : VK) => ∃ a dx fs, x = .ref a ∧ H1 a = some (.ins (He.ga K C) dx fs) ∧ fs.lookup m = none ∧ ta σ H1 fun vs H2 => spF K f (x :: vs) H2 Q (E σ)) ho fun φ S H env σ x v rl e hv Q p => by
    split at p
    · rename_i l fs hi
      split at p
      · rename_i hm
        obtain ⟨rfl, rfl, _, dx, fv, q1, q2⟩ := insX_inv rl hi hv
        refine ⟨_, dx, fv, rfl, q1, q2.lookup_none hm, ha.go rl e p fun φ1 S1 H1 ds vs f1 r1 _ hvs p1 => ?_⟩
        obtain ⟨d, S2, hf, p1⟩ := nox_inv p1
        exact ⟨φ1, S1, _, r1, .cons (VR.fut f1 hv) hvs, by rw [hf]; exact p1⟩
      · exact p.elim
    · exact p.elim
/-! ### raise -/
/-- how an error's fields come of its arguments -/
structure ErrD (K : PySem.W.Frag) (ok : List V → Prop) (fs : List V → List (Str × V)) (g : List D → Option (List (Str × D))) : Prop where
  of : ∀ {φ n H ds vs ef}, g ds = some ef → VRs K φ n H ds vs → ok vs ∧ vs.length ≤ 1000 ∧ KR K φ n H ef (fs vs)
def xRaise (C : Str) (g : List D → Option (List (Str × D))) (fa : Env → Sto → R (List D)) : Env → Sto → RS := fun env S => (fa env S).bindS env fun ds S1 => match g ds with
  | some ef => .exc C ef env S1
  | none => .bad
theorem imp_raise {C : Str} {ok : List V → Prop} {fs : List V → List (Str × V)} {g : List D → Option (List (Str × D))} {ta : TA} {fa : Env → Sto → R (List D)} (G : ErrD K ok fs g) (ha : Imp K W (vrs K) ta fa) :
    ImpS K W (fun _ σ H => tMkO (He.ga K C) (My.spXinit K (He.ga K C) ok fs) [] ta σ H fun cls d H' => W.wx cls d σ H') (xRaise C g fa) := by
  intro φ S H env σ r e D p
  refine ha.goS (tb := fun vs H1 => vs.length ≤ 1000 ∧ ∀ a, H1 a = none → My.spXinit K (He.ga K C) ok fs (.ref a :: (vs ++ [])) (upd H1 a (exo a (He.ga K C) none)) _ _) r e p fun φ1 S1 H1 ds vs f1 r1 e1 hv p1 => ?_
  split at p1
  · rename_i ef hg
    obtain ⟨h0, hl, hk⟩ := G.of hg hv
    refine ⟨hl, fun a na => ⟨a, vs, by rw [List.append_nil], h0, upd_same, fun d H' nd da h1 h2 kp => ⟨rfl, d, fs vs, h1, h2, by
      rw [upd_ne da] at nd
      exact nd, ?_⟩⟩⟩
    have nd' : H1 d = none := by
      rw [upd_ne da] at nd
      exact nd
    have ex : Ex H1 (upd (del H' a) d (.xd (fs vs))) := fun b o hb => by
      have hba : b ≠ a := ne_of_none hb na
      have hbd : b ≠ d := ne_of_none hb nd'
      rw [upd_ne hbd, del_ne hba]
      exact kp b o hba (by rw [upd_ne hba]; exact hb)
    exact p1 φ1 _ σ d (fs vs) (Fut.ex ex) (r1.ex ex) (e1.fut (Fut.ex ex)).e upd_same (hk.fut (Fut.ex ex))
  · exact p1.elim
/-! ### try .. except -/
/-- what is known of the error that a suite holds -/
def WErr (W : Wc K) (a dd : Addr) (l : Nat) (ef : List (Str × D)) : Wc K := ⟨fun _ _ _ _ => False, fun φ n H => W.ctx φ n H ∧ φ l = a ∧ l < n ∧ ∃ fv, H dd = some (.xd fv) ∧ KR K φ n H ef fv, fun f ⟨h, h0, h3, fv, h1, h2⟩ => ⟨W.mono f h, (f.ag _ h3).trans h0, Nat.lt_of_lt_of_le h3 f.le, fv, f.xd _ _ h1, h2.fut f⟩⟩
/-- an error's field in its suite -/
def xErrF (C f : Str) (l : Nat) (ec : Str) (ef : List (Str × D)) (fe : Env → Sto → R D) : Env → Sto → R D := fun env S => (fe env S).bind fun x S1 => match x with
  | .ref k => if k = l ∧ ec = C then match ef.lookup f with
    | some d => .ok d S1
    | none => .bad
    else .bad
  | _ => .bad
theorem xErrF_ok {C f : Str} {l : Nat} {ef : List (Str × D)} {fe : Env → Sto → R D} {env : Env} {S1 : Sto} {d : D} (h : fe env S = .ok (.ref l) S1) (hd : ef.lookup f = some d) : xErrF C f l C ef fe env S = .ok d S1 := by simp [xErrF, h, hd]
theorem imp_errF {C f ec : Str} {ef : List (Str × D)} {a dd : Addr} {l : Nat} {te : TE} {fe : Env → Sto → R D} (he : Imp K (WErr W a dd l ef) (vr K) te fe) : Imp K (WErr W a dd l ef) (vr K) (tXf a (.ref (He.ga K ec)) (some dd) (He.ga K C) f te) (xErrF C f l ec ef fe) :=
  imp_bind (tb := fun x σ H1 (Q : VK) => x = .ref a ∧ (Value.ref (He.ga K ec)) = .ref (He.ga K C) ∧ ∃ (dd' : Addr) (fs : List (Str × V)) (v : V), some dd = some dd' ∧ H1 dd' = some (.xd fs) ∧ fs.lookup f = some v ∧ Q v H1) he fun φ S H env σ x v rl e hv Q p => by
    split at p
    · rename_i k
      split at p
      · rename_i hk
        obtain ⟨rfl, rfl⟩ := hk
        split at p
        · rename_i d hd
          obtain ⟨_, h0, _, fv, h1, h2⟩ := e.c
          obtain ⟨u, h3, h4⟩ := h2.lookup hd
          obtain ⟨_, rfl⟩ := VR.ref_inv hv
          exact ⟨by rw [h0], rfl, dd, fv, u, rfl, h1, h3, p.here rl h4⟩
        · exact p.elim
      · exact p.elim
    · exact p.elim
/-- isinstance(e, X) -/
def xIsE (C : Str) (b : Bool) (l : Nat) (ec : Str) (fe : Env → Sto → R D) : Env → Sto → R D := fun env S => (fe env S).bind fun x S1 => match x with
  | .ref k => if k = l ∧ ec = C then .ok (.bl b) S1 else .bad
  | _ => .bad
theorem xIsE_ok {C : Str} {b : Bool} {l : Nat} {fe : Env → Sto → R D} {env : Env} {S1 : Sto} (h : fe env S = .ok (.ref l) S1) : xIsE C b l C fe env S = .ok (.bl b) S1 := by simp [xIsE, h]
theorem imp_isE1 {C ec : Str} {b : Bool} {ef : List (Str × D)} {a dd : Addr} {l : Nat} {c : V} {cv : Value} {te : TE} {fe : Env → Sto → R D} (hc : ClsV c cv) (hk : PySem.W.kitOne K (.ref (He.ga K C)) cv = some b) (he : Imp K (WErr W a dd l ef) (vr K) te fe) :
    Imp K (WErr W a dd l ef) (vr K) (tCB (rIsX K (He.ga K C) a (.ref (He.ga K ec)) (some dd)) (tCons te (tCons (tC c) tNil))) (xIsE C b l ec fe) :=
  imp_bind (tb := fun (x : V) σ H1 (Q : VK) => rIsX K (He.ga K C) a (.ref (He.ga K ec)) (some dd) [x, c] H1 Q) he fun φ S H env σ x v rl e hv Q p => by
    split at p
    · rename_i k
      split at p
      · rename_i hk'
        obtain ⟨rfl, rfl⟩ := hk'
        obtain ⟨_, h0, _, fv, h1, h2⟩ := e.c
        obtain ⟨_, rfl⟩ := VR.ref_inv hv
        exact ⟨rfl, ⟨dd, fv, rfl, h1⟩, .inl ⟨c, cv, b, by rw [h0], hc, hk, p.here rl (VR.bl _)⟩⟩
      · exact p.elim
    · exact p.elim
theorem imp_isET {C ec : Str} {b : Bool} {ef : List (Str × D)} {a dd : Addr} {l : Nat} {cs : List V} {us : List Value} {te : TE} {ta : TA} {fe : Env → Sto → R D} (hc : Paired ClsV cs us) (hl : cs.length ≤ 100) (hta : ∀ σ H Q, Q cs H → ta σ H Q) (hk : PySem.W.kitAny K (.ref (He.ga K C)) us = some b)
    (he : Imp K (WErr W a dd l ef) (vr K) te fe) :
    Imp K (WErr W a dd l ef) (vr K) (tCB (rIsX K (He.ga K C) a (.ref (He.ga K ec)) (some dd)) (tCons te (tCons (tTup ta) tNil))) (xIsE C b l ec fe) :=
  imp_bind (tb := fun (x : V) σ H1 (Q : VK) => tTup ta σ H1 fun y H2 => rIsX K (He.ga K C) a (.ref (He.ga K ec)) (some dd) [x, y] H2 Q) he fun φ S H env σ x v rl e hv Q p => by
    split at p
    · rename_i k
      split at p
      · rename_i hk'
        obtain ⟨rfl, rfl⟩ := hk'
        obtain ⟨_, h0, _, fv, h1, h2⟩ := e.c
        obtain ⟨_, rfl⟩ := VR.ref_inv hv
        refine hta σ H _ ⟨sz_of (by omega), fun tp ht => ?_⟩
        have ex : Ex H (upd H tp (.tup cs)) := Ex.new ht
        exact ⟨rfl, ⟨dd, fv, rfl, ex _ _ h1⟩, .inr ⟨tp, cs, us, b, by rw [h0], upd_same, hc, hk, p.ex rl ex (VR.bl _)⟩⟩
      · exact p.elim
    · exact p.elim
def RS.unset (i : Nat) (r : RS) : RS := match r with
  | .nx e S => .nx (e.set i none) S
  | .bk e S => .bk (e.set i none) S
  | .ct e S => .ct (e.set i none) S
  | .ret d S => .ret d S
  | _ => .bad
@[simp] theorem unset_nx {i : Nat} {e : Env} : (RS.nx e S).unset i = .nx (e.set i none) S := rfl
@[simp] theorem unset_bk {i : Nat} {e : Env} : (RS.bk e S).unset i = .bk (e.set i none) S := rfl
@[simp] theorem unset_ct {i : Nat} {e : Env} : (RS.ct e S).unset i = .ct (e.set i none) S := rfl
@[simp] theorem unset_ret {i : Nat} {d : D} : (RS.ret d S).unset i = .ret d S := rfl
def CatOk (K : PySem.W.Frag) (cv : Value) (cat : List (Str × Bool)) : Prop := ∀ c b, cat.lookup c = some b → PySem.W.exmOne K (.ref (He.ga K c)) cv = some b
theorem cat_nil {cv : Value} : CatOk K cv [] := fun c b h => by cases h
theorem cat_cons {cv : Value} {c : Str} {b : Bool} {cat : List (Str × Bool)} (h : PySem.W.exmOne K (.ref (He.ga K c)) cv = some b) (r : CatOk K cv cat) : CatOk K cv ((c, b) :: cat) := fun c' b' h' => by
  rw [List.lookup_cons] at h'
  split at h'
  · rename_i hc
    cases h'
    rw [eq_of_beq hc]
    exact h
  · exact r c' b' h'
def tTryAs (K : PySem.W.Frag) (c : Value) (i : Nat) (tb : WX → TS) (ts : Addr → Value → Option Addr → TS) (Wout : WX) : TS := fun D σ H => tb (wAs K c i ts Wout D) D σ H
def tTryOnly (K : PySem.W.Frag) (c : Value) (tb : WX → TS) (ts : Addr → Value → Option Addr → TS) (Wout : WX) : TS := fun D σ H => tb (wOnly K c ts Wout D) D σ H
section
variable {X : Cx} {x n : Str} {c : Value} {i : Nat} {body suite : List Stmt} {b₀ : Stmt} {np pos pos' : Pos} {tb : WX → TS} {ts : Addr → Value → Option Addr → TS} {Wout : WX}
theorem ps_try_asK (K : PySem.W.Frag) (hs : X.stack = X.env :: X.outer) (hf : X.env.frame = some X.env.locals) (hN : X.N.Nodup) (hi : X.N[i]? = some n) (hln : X.env.kindOf n = some .local) (hc : Names X x c) (tk : Takes X Wout)
    (hb : ∀ (W : WX) (pn : List (Addr × Obj)) (xe : Value → Shared → Prop), Takes (X.tr pn xe) W → PassesOwn (model X.prog X.w) X.A X.env xe → PSs (X.tr pn xe) body (tb W))
    (hsu : ∀ (a : Addr) (oe : Obj) (cls : Value) (d : Option Addr) (pn : List (Addr × Obj)), Zc cls d oe → (∃ vs, oe.data = .fields vs) → PSs (X.suite a ((a, oe) :: pn)) (b₀ :: suite) (ts a cls d)) (hK : X.K = K := by rfl) :
    PS X (.Try body [.ExceptHandler (some (.Name x np)) (some n) (b₀ :: suite) pos'] [] [] pos) (tTryAs K c i tb ts Wout) := by
  subst hK
  exact ps_try_as hs hf hN hi hln hc tk hb hsu
theorem ps_try_onlyK (K : PySem.W.Frag) (hs : X.stack = X.env :: X.outer) (hf : X.env.frame = some X.env.locals) (hc : Names X x c) (tk : Takes X Wout)
    (hb : ∀ (W : WX) (pn : List (Addr × Obj)) (xe : Value → Shared → Prop), Takes (X.tr pn xe) W → PassesOwn (model X.prog X.w) X.A X.env xe → PSs (X.tr pn xe) body (tb W))
    (hsu : ∀ (a : Addr) (oe : Obj) (cls : Value) (d : Option Addr) (pn : List (Addr × Obj)), Zc cls d oe → (∃ vs, oe.data = .fields vs) → PSs (X.suite a ((a, oe) :: pn)) (b₀ :: suite) (ts a cls d)) (hK : X.K = K := by rfl) :
    PS X (.Try body [.ExceptHandler (some (.Name x np)) none (b₀ :: suite) pos'] [] [] pos) (tTryOnly K c tb ts Wout) := by
  subst hK
  exact ps_try_only hs hf hc tk hb hsu
end
def xTryAs (cat : List (Str × Bool)) (i : Nat) (fb : Env → Sto → RS) (fs : Nat → Str → List (Str × D) → Env → Sto → RS) : Env → Sto → RS := fun env S => match fb env S with
  | .exc c ef e S1 => match cat.lookup c with
    | some true => (fs S1.length c ef (e.set i (some (.ref S1.length))) (S1 ++ [.opq])).unset i
    | some false => .exc c ef e S1
    | none => .bad
  | r => r
theorem imp_tryAs {cv : Value} {cat : List (Str × Bool)} {i : Nat} {tb : WX → TS} {ts : Addr → Value → Option Addr → TS} {fb : Env → Sto → RS} {fs : Nat → Str → List (Str × D) → Env → Sto → RS} (hcat : CatOk K cv cat)
    (hb : ∀ wx, ImpS K ⟨wx, W.ctx, W.mono⟩ (tb wx) fb) (hs : ∀ a dd l ec ef, ImpS K (WErr W a dd l ef) (ts a (.ref (He.ga K ec)) (some dd)) (fs l ec ef)) :
    ImpS K W (tTryAs K cv i tb ts W.wx) (xTryAs cat i fb fs) := by
  intro φ S H env σ r e D p
  refine hb (wAs K cv i ts W.wx D) φ S H env σ r ⟨e.e, e.c⟩ D ?_
  unfold xTryAs at p
  cases hf : fb env S with
  | nx e1 S1 => rw [hf] at p; exact p
  | ret d S1 => rw [hf] at p; exact p
  | bk e1 S1 => rw [hf] at p; exact p
  | ct e1 S1 => rw [hf] at p; exact p
  | bad => rw [hf] at p; exact p
  | exc c ef e1 S1 =>
    rw [hf] at p
    dsimp only at p
    intro φ' H' σ' dd fv f r' er hd hk
    split at p
    · rename_i hl
      refine ⟨true, hcat _ _ hl, fun _ a na => ?_, fun z => by cases z⟩
      have f2 : Fut K φ' S1.length H' (nxt φ' S1.length a) (S1 ++ [O.opq]).length H' := by
        rw [List.length_append]
        exact Fut.newO
      have hr := VR.ref (K := K) (φ := nxt φ' S1.length a) (n := (S1 ++ [O.opq]).length) (H := H') (l := S1.length) (by simp)
      rw [nxt_at] at hr
      refine hs a dd S1.length c ef _ _ H' _ _ (r'.newO a) ⟨(er.fut f2).set i hr, W.mono (f.trans f2) e.c, nxt_at, by simp, fv, hd, hk.fut f2⟩ _ ?_
      have p2 := p.fut (f.trans f2)
      revert p2
      cases fs S1.length c ef (e1.set i (some (.ref S1.length))) (S1 ++ [O.opq]) with
      | nx e2 S2 => exact fun p2 φ2 H2 σ2 g2 r2 er2 => p2 φ2 H2 _ g2 r2 (er2.unset none i)
      | bk e2 S2 => exact fun p2 φ2 H2 σ2 g2 r2 er2 => p2 φ2 H2 _ g2 r2 (er2.unset none i)
      | ct e2 S2 => exact fun p2 φ2 H2 σ2 g2 r2 er2 => p2 φ2 H2 _ g2 r2 (er2.unset none i)
      | ret d2 S2 => exact fun p2 => p2
      | exc c2 ef2 e2 S2 => exact fun p2 => p2.elim
      | bad => exact fun p2 => p2.elim
    · rename_i hl
      refine ⟨false, hcat _ _ hl, ?_, ?_⟩
      · intro z
        cases z
      · exact fun _ => p φ' H' σ' dd fv f r' er hd hk
    · exact p.elim
def RS.noexc (r : RS) : RS := match r with
  | .exc _ _ _ _ => .bad
  | r => r
def xTryOnly (cat : List (Str × Bool)) (fb fs : Env → Sto → RS) : Env → Sto → RS := fun env S => match fb env S with
  | .exc c ef e S1 => match cat.lookup c with
    | some true => (fs e S1).noexc
    | some false => .exc c ef e S1
    | none => .bad
  | r => r
theorem imp_tryOnly {cv : Value} {cat : List (Str × Bool)} {tb : WX → TS} {ts : Addr → Value → Option Addr → TS} {fb fs : Env → Sto → RS} (hcat : CatOk K cv cat)
    (hb : ∀ wx, ImpS K ⟨wx, W.ctx, W.mono⟩ (tb wx) fb) (hs : ∀ a cls d, ImpS K ⟨fun _ _ _ _ => False, W.ctx, W.mono⟩ (ts a cls d) fs) :
    ImpS K W (tTryOnly K cv tb ts W.wx) (xTryOnly cat fb fs) := by
  intro φ S H env σ r e D p
  refine hb (wOnly K cv ts W.wx D) φ S H env σ r ⟨e.e, e.c⟩ D ?_
  unfold xTryOnly at p
  cases hf : fb env S with
  | nx e1 S1 => rw [hf] at p; exact p
  | ret d S1 => rw [hf] at p; exact p
  | bk e1 S1 => rw [hf] at p; exact p
  | ct e1 S1 => rw [hf] at p; exact p
  | bad => rw [hf] at p; exact p
  | exc c ef e1 S1 =>
    rw [hf] at p
    dsimp only at p
    intro φ' H' σ' dd fv f r' er hd hk
    split at p
    · rename_i hl
      refine ⟨true, hcat _ _ hl, fun _ a na => ?_, fun z => by cases z⟩
      refine hs a _ _ _ _ H' _ _ r' ⟨er, W.mono f e.c⟩ _ ?_
      have p2 := p.fut f
      revert p2
      cases fs e1 S1 with
      | exc c2 ef2 e2 S2 => exact fun p2 => p2.elim
      | _ => exact fun p2 => p2
    · rename_i hl
      refine ⟨false, hcat _ _ hl, ?_, ?_⟩
      · intro z
        cases z
      · exact fun _ => p φ' H' σ' dd fv f r' er hd hk
    · exact p.elim
/-! .. where no error is awaited -/
theorem ImpS.noexc {t : TS} {f : Env → Sto → RS} (h : ImpS K ⟨fun _ _ _ _ => False, W.ctx, W.mono⟩ t f) : ImpS K W t fun env S => (f env S).noexc := by
  intro φ S H env σ r e D p
  refine h φ S H env σ r ⟨e.e, e.c⟩ D ?_
  dsimp only at p
  revert p
  cases f env S with
  | exc c ef e1 S1 => exact fun p => p.elim
  | _ => exact fun p => p
def xTryAs0 (cat : List (Str × Bool)) (i : Nat) (fb : Env → Sto → RS) (fs : Nat → Str → List (Str × D) → Env → Sto → RS) : Env → Sto → RS := fun env S => (xTryAs cat i fb fs env S).noexc
theorem imp_tryAs0 {cv : Value} {cat : List (Str × Bool)} {i : Nat} {tb : WX → TS} {ts : Addr → Value → Option Addr → TS} {fb : Env → Sto → RS} {fs : Nat → Str → List (Str × D) → Env → Sto → RS} (hcat : CatOk K cv cat)
    (hb : ∀ wx, ImpS K ⟨wx, W.ctx, W.mono⟩ (tb wx) fb) (hs : ∀ a dd l ec ef, ImpS K (WErr W a dd l ef) (ts a (.ref (He.ga K ec)) (some dd)) (fs l ec ef)) :
    ImpS K W (tTryAs K cv i tb ts fun _ _ _ _ => False) (xTryAs0 cat i fb fs) := ImpS.noexc (imp_tryAs (W := ⟨fun _ _ _ _ => False, W.ctx, W.mono⟩) hcat hb hs)
def xTryOnly0 (cat : List (Str × Bool)) (fb fs : Env → Sto → RS) : Env → Sto → RS := fun env S => (xTryOnly cat fb fs env S).noexc
theorem imp_tryOnly0 {cv : Value} {cat : List (Str × Bool)} {tb : WX → TS} {ts : Addr → Value → Option Addr → TS} {fb fs : Env → Sto → RS} (hcat : CatOk K cv cat)
    (hb : ∀ wx, ImpS K ⟨wx, W.ctx, W.mono⟩ (tb wx) fb) (hs : ∀ a cls d, ImpS K ⟨fun _ _ _ _ => False, W.ctx, W.mono⟩ (ts a cls d) fs) :
    ImpS K W (tTryOnly K cv tb ts fun _ _ _ _ => False) (xTryOnly0 cat fb fs) := ImpS.noexc (imp_tryOnly (W := ⟨fun _ _ _ _ => False, W.ctx, W.mono⟩) hcat hb hs)
end
end Mi

namespace Mi
open PySem PySem.Spec PyProof.Rows L2 Evl My
/-! ### text * int -/
def strRepS (x : Str) (n : Int) : Str := if n < 1 then Str.empty else if (n == 1 || x.length == 0) = true then x else ⟨(List.replicate n.toNat x.cps).foldl (· ++ ·) #[]⟩
def rMulS : R2 := fun x y H Q => ∃ (a : Str) (n : Int), x = .str a ∧ y = .int n ∧ a.length ≤ 1000 ∧ -1000 ≤ n ∧ n ≤ 1000 ∧ Q (.str (strRepS a n)) H
theorem op_mulS {X : Cx} : OpR X (binaryOp .Mult) rMulS := by
  intro pins s σ H x y v u Q I rx ry h
  obtain ⟨a, n, rfl, rfl, h1, h2, h3, q⟩ := h
  obtain ⟨t, rfl⟩ := rx
  obtain ⟨t', rfl⟩ := ry
  have hm : a.length * n.toNat ≤ 1000 * 1000 := Nat.mul_le_mul h1 (by omega)
  have hlen : Builtin.Str.tooLong (a.length * n.toNat) = false := decide_eq_false (by rw [sizeLine_eq]; omega)
  refine P.mul_str (by
    have e1 : ¬ n < -(2 ^ 63 : Int) := by omega
    have e2 : ¬ n ≥ 2 ^ 63 := by omega
    rw [decide_eq_false e1, decide_eq_false e2]; rfl) (fun hn _ => ?_) (fun _ _ => hlen) ?_
  · have : (1000 : Int) ≤ (2 ^ 63 - 1) / n := by
      rw [Int.le_ediv_iff_mul_le (by omega)]
      omega
    omega
  · unfold strRepS at q
    split
    · rename_i hn
      rw [if_pos hn] at q
      exact ⟨by decide, .str _, H, I.tok _, ⟨_, rfl⟩, q⟩
    · rename_i hn
      rw [if_neg hn] at q
      split
      · rename_i hn1
        rw [if_pos hn1] at q
        exact ⟨.str _, H, I, ⟨_, rfl⟩, q⟩
      · rename_i hn1
        rw [if_neg hn1] at q
        exact ⟨fits_reps hlen, .str _, H, I.tok _, ⟨_, rfl⟩, q⟩
section
variable {K : PySem.W.Frag} {φ φ1 φ' : Nat → Addr} {n n1 n' : Nat} {H H1 H' : Hp} {X : XK} {W : Wc K} {S : Sto} {α β γ δ : Type} {ρ : Rl α β}
def oMulS : D → D → Sto → R D := fun x y S => match x, y with
  | .str a, .int n => if a.length ≤ 1000 ∧ -1000 ≤ n ∧ n ≤ 1000 then .ok (.str (strRepS a n)) S else .bad
  | _, _ => .bad
theorem oMulS_eq {a : Str} {n : Int} (h : a.length ≤ 1000) (h1 : -1000 ≤ n) (h2 : n ≤ 1000) : oMulS (.str a) (.int n) S = .ok (.str (strRepS a n)) S := by simp [oMulS, h, h1, h2]
theorem opi_mulS : OpI K rMulS oMulS := by
  intro φ S H x y v w X r hx hy Q p
  unfold oMulS at p
  split at p
  · split at p
    · rename_i hc
      cases hx; cases hy
      exact ⟨_, _, rfl, rfl, hc.1, hc.2.1, hc.2.2, p.here r (VR.str _)⟩
    · exact p.elim
  · exact p.elim
/-! ### list(a dict), list(range(..)) -/
def keyOf : Key → D
  | .inl i => .int i
  | .inr s => .str s
theorem keyOf_vr (k : Key) : VR K φ n H (keyOf k) (kV k) := by
  cases k with
  | inl i => exact .int i
  | inr s => exact .str s
def rListDk : List V → Hp → VK → Prop := fun xs H Q => ∃ (a : Addr) (kvs : List (Key × V)), xs = [.ref a] ∧ Rd H a (.dK kvs) ∧ ∀ p, H p = none → Q (.ref p) (upd H p (.lst (kvs.map fun kv => kV kv.1)))
def bListD : List D → Sto → R D := fun ds S => match ds with
  | [.ref l] => match at_ S l with
    | some (.dK kvs) => .ok (.ref S.length) (S ++ [.lst (kvs.map fun kv => keyOf kv.1)])
    | _ => .bad
  | _ => .bad
theorem bListD_eq {l : Nat} {kvs : List (Key × D)} (h : at_ S l = some (.dK kvs)) : bListD [.ref l] S = .ok (.ref S.length) (S ++ [.lst (kvs.map fun kv => keyOf kv.1)]) := by simp [bListD, h]
theorem KR.keysV : ∀ {kvs : List (Key × D)} {kws : List (Key × V)}, KR K φ n H kvs kws → VRs K φ' n' H' (kvs.map fun kv => keyOf kv.1) (kws.map fun kv => kV kv.1)
  | _, _, .nil => .nil
  | _, _, .cons _ t => .cons (keyOf_vr _) (KR.keysV t)
theorem cbi_listD : CallI K rListDk bListD := by
  intro φ S H ds vs X r h Q p
  unfold bListD at p
  split at p
  · split at p
    · rename_i l _ kvs e
      obtain ⟨v, rfl, hv⟩ := h.one_inv
      obtain ⟨_, rfl⟩ := hv.ref_inv
      obtain ⟨kws, q1, q2⟩ := r.ob _ _ e
      exact ⟨_, kws, rfl, .inl q1, fun a ha => p.new r ha ⟨_, upd_same, q2.keysV⟩⟩
    · exact p.elim
  · exact p.elim
open Classical in
noncomputable def mkRg (a b : Int) (S : Sto) : R D := if RgOk a b then .ok (.ref S.length) (S ++ [.lst (rngD a (b - a).toNat)]) else .bad
theorem mkRg_eq {a b : Int} (h : RgOk a b) : mkRg a b S = .ok (.ref S.length) (S ++ [.lst (rngD a (b - a).toNat)]) := by simp [mkRg, h]
theorem vr_rg {a : Int} : ∀ {l : List Nat}, VRs K φ n H (l.map fun (i : Nat) => D.int (a + (i : Int))) (l.map fun (i : Nat) => V.int (a + (i : Int)))
  | [] => .nil
  | _ :: r => .cons (.int _) (vr_rg (l := r))
theorem Post.mkRg {a b : Int} {Q : VK} (r : Rel K φ S H) (p : Post K (vr K) φ S.length H X (mkRg a b S) Q) : RgOk a b ∧ ∀ q, H q = none → Q (.ref q) (upd H q (.lst (rgV a b))) := by
  unfold Mi.mkRg at p
  split at p
  · rename_i ok
    exact ⟨ok, fun q hq => p.new r hq ⟨_, upd_same, vr_rg⟩⟩
  · exact p.elim
noncomputable def xLRg1 (fa : Env → Sto → R D) : Env → Sto → R D := fun env S => (fa env S).bind fun x S1 => match x with
  | .int b => mkRg 0 b S1
  | _ => .bad
theorem imp_lrg1 {ta : TE} {fa : Env → Sto → R D} (ha : Imp K W (vr K) ta fa) : Imp K W (vr K) (tLstRg (tRg1 ta)) (xLRg1 fa) :=
  imp_bind (tb := fun (x : V) σ H1 (Q : VK) => ∃ m, x = .int m ∧ (RgOk 0 m ∧ ∀ q, H1 q = none → Q (.ref q) (upd H1 q (.lst (rgV 0 m))))) ha fun φ S H env σ x v rl e hv Q p => by
    split at p
    · cases VR.int_inv hv
      exact ⟨_, rfl, Post.mkRg rl p⟩
    · exact p.elim
noncomputable def xLRg2 (fa fb : Env → Sto → R D) : Env → Sto → R D := fun env S => (fa env S).bind fun x S1 => (fb env S1).bind fun y S2 => match x, y with
  | .int a, .int b => mkRg a b S2
  | _, _ => .bad
theorem imp_lrg2 {ta tb : TE} {fa fb : Env → Sto → R D} (ha : Imp K W (vr K) ta fa) (hb : Imp K W (vr K) tb fb) : Imp K W (vr K) (tLstRg (tRg2 ta tb)) (xLRg2 fa fb) :=
  imp_bind (tb := fun (x : V) σ H1 (Q : VK) => tb σ H1 fun y H2 => ∃ i j, x = .int i ∧ y = .int j ∧ (RgOk i j ∧ ∀ q, H2 q = none → Q (.ref q) (upd H2 q (.lst (rgV i j))))) ha fun φ S H env σ x v rl e hv Q p => hb.go rl e p fun φ1 S1 H1 y w f1 r1 e1 hw p1 => by
    split at p1
    · cases VR.int_inv hv
      cases VR.int_inv hw
      exact ⟨_, _, rfl, rfl, Post.mkRg r1 p1⟩
    · exact p1.elim
/-! ### slices and sums of tuples -/
def oSlT : D → Option Int → Option Int → Sto → R D := fun x lo hi S => match x with
  | .tup xs => if ¬ (HT.sIx xs.length 0 lo = 0 ∧ HT.sIx xs.length xs.length hi = xs.length) then .ok (.tup (cutX xs lo hi)) S else .bad
  | _ => .bad
theorem sli_T : SlI K (rSlT K) oSlT := by
  intro φ S H x v lo hi X r hx Q p
  unfold oSlT at p
  split at p
  · split at p
    · rename_i xs hc
      obtain ⟨a, vs, rfl, q1, q2⟩ := hx.tup_inv
      refine ⟨a, vs, rfl, q1, ?_, fun b hb => ?_⟩
      · rw [q2.len]; exact hc
      · exact p.tup r hb q2.cut
    · exact p.elim
  · exact p.elim
end
end Mi
namespace My
open PySem PySem.Spec PyProof.Rows L2 Evl
theorem pe_bmK {X : Cx} {T name id : String} {r : V → List V → Hp → VK → Prop} {o e : Expr} {es : List Expr} {to : TE} {t : TA} {apos cpos : Pos} (K : PySem.W.Frag) (pa : PlainAttrs T) (slot : Slot T name id) (hty : typeOf (.builtin id) = pure (.type "method_descriptor")) (hm : MtR X id r) (ho : PE X o to) (ha : PA X (e :: es) t)
    (hK : X.K = K := by rfl)
    (hbase : attributeBase o name X.env (eval o X.env) = eval o X.env := by rfl)
    (hfew : ((backTo cpos (starEach (e :: es) X.env)).all (fun x => !x.1) && (backToKw cpos (keywordEach [] X.env)).all (fun x => x.1.isSome)
      && decide ((e :: es).length + ([] : List Keyword).length + (if ([] : List Keyword).isEmpty then 0 else 1) < 30)) = true := by rfl)
    (hline : (apos.endLine == cpos.line) = true := by rfl) (hs : starEach (e :: es) X.env = (false, eval e X.env) :: starEach es X.env := by rfl) (hplain : (backTo cpos (starEach es X.env)).any (·.1) = false := by rfl) :
    PE X (.Call (.Attribute o name apos) (e :: es) [] cpos) (tBM K T r to t) := by
  subst hK
  exact pe_bm pa slot hty hm ho ha hbase hfew hline hs hplain
/-- e.f, isinstance(e, ..) in a suite, the context left open -/
theorem pe_xfS {Y : Cx} (a : Addr) (K : PySem.W.Frag) {C : Addr} {oe : Obj} {cls : Value} {d : Option Addr} {e : Expr} {te : TE} {pos : Pos} {n : Str} (T : XcC K C) (hno : PySem.W.findIn K (.ref C) n = some none)
    (hz : Zc cls d oe) (hf : ∃ vs, oe.data = .fields vs) (he : PE Y e te) (hY : ∃ (X : Cx) (pn : List (Addr × Obj)), X.K = K ∧ Y = X.suite a ((a, oe) :: pn) := by exact ⟨_, _, rfl, rfl⟩) (hb : attributeBase e n Y.env (eval e Y.env) = eval e Y.env := by rfl) :
    PE Y (.Attribute e n pos) (tXf a cls d C n te) := by
  obtain ⟨X, pn, hK, rfl⟩ := hY
  exact pe_xfK K T hno hz hf he hK hb
theorem call_isS {Y : Cx} (a : Addr) (K : PySem.W.Frag) {D : Addr} {oe : Obj} {cls : Value} {d : Option Addr} (C : XcC K D) (hz : Zc cls d oe) (hf : ∃ vs, oe.data = .fields vs) (hY : ∃ (X : Cx) (pn : List (Addr × Obj)), X.K = K ∧ Y = X.suite a ((a, oe) :: pn) := by exact ⟨_, _, rfl, rfl⟩) :
    CallR Y (.builtin "isinstance") (rIsX K D a cls d) := by
  obtain ⟨X, pn, hK, rfl⟩ := hY
  exact call_isX K C hz hf hK
end My

namespace Mi
open PySem PySem.Spec PyProof.Rows L2 Evl My
/-! ### what is left to be shown, from left to right. The continuations are instances, so that simp leaves them alone until they are reached -/
class Cn (α : Type) where
  k : α → Sto → Prop
  x : Str → List (Str × D) → Sto → Prop
class Ck where
  n : Env → Sto → Prop
  q : RS → Prop
def wpe {α : Type} (r : R α) [K : Cn α] : Prop := match r with
  | .ok a S => K.k a S
  | .exc c fs S => K.x c fs S
  | .bad => False
def wps (r : RS) [K : Ck] : Prop := match r with
  | .nx e S => K.n e S
  | .bad => False
  | r => K.q r
def noX : Str → List (Str × D) → Sto → Prop := fun _ _ _ => False
section
variable {α β : Type} {S S' : Sto} {env : Env}
theorem cn_k {f : α → Sto → Prop} {x : Str → List (Str × D) → Sto → Prop} {a : α} : Cn.k (self := ⟨f, x⟩) a S = f a S := rfl
theorem cn_x {f : α → Sto → Prop} {x : Str → List (Str × D) → Sto → Prop} {c : Str} {fs : List (Str × D)} : Cn.x α (self := ⟨f, x⟩) c fs S = x c fs S := rfl
theorem cx_n {f : Env → Sto → Prop} {q : RS → Prop} : Ck.n (self := ⟨f, q⟩) env S = f env S := rfl
theorem cx_q {f : Env → Sto → Prop} {q : RS → Prop} {r : RS} : Ck.q (self := ⟨f, q⟩) r = q r := rfl
theorem wpe_ret {K : Cn α} {a : α} : wpe (.ok a S) = K.k a S := rfl
theorem wpe_exc {K : Cn α} {c : Str} {fs : List (Str × D)} : wpe (α := α) (.exc c fs S) = K.x c fs S := rfl
theorem wpe_bind {K : Cn β} {r : R α} {g : α → Sto → R β} : wpe (r.bind g) = wpe (K := ⟨fun a S => wpe (g a S), K.x⟩) r := by cases r <;> rfl
theorem wps_nx {K : Ck} {e : Env} : wps (.nx e S) = K.n e S := rfl
theorem wps_ret {K : Ck} {d : D} : wps (.ret d S) = K.q (.ret d S) := rfl
theorem wps_bk {K : Ck} {e : Env} : wps (.bk e S) = K.q (.bk e S) := rfl
theorem wps_ct {K : Ck} {e : Env} : wps (.ct e S) = K.q (.ct e S) := rfl
theorem wps_exc {K : Ck} {c : Str} {fs : List (Str × D)} {e : Env} : wps (.exc c fs e S) = K.q (.exc c fs e S) := rfl
theorem wps_bindS {K : Ck} {r : R α} {g : α → Sto → RS} : wps (r.bindS env g) = wpe (K := ⟨fun a S => wps (g a S), fun c fs S => K.q (.exc c fs env S)⟩) r := by cases r <;> rfl
theorem wps_seq {K : Ck} {r : RS} {g : Env → Sto → RS} : wps (r.seq g) = wps (K := ⟨fun e S => wps (g e S), K.q⟩) r := by cases r <;> rfl
theorem wps_xSeq {K : Ck} {f g : Env → Sto → RS} : wps (xSeq f g env S) = wps (K := ⟨fun e S => wps (g e S), K.q⟩) (f env S) := wps_seq
theorem wps_toS {K : Ck} {r : R Env} : wps (toS r) = wpe (K := ⟨fun e S => K.n e S, noX⟩) r := by cases r <;> rfl
theorem wpe_nox {K : Cn α} {r : R α} : wpe (nox r) = wpe (K := ⟨K.k, noX⟩) r := by cases r <;> rfl
/-- what a def's end asks -/
def defQ (K : Cn D) : RS → Prop
  | .ret d S => K.k d S
  | .exc c fs _ S => K.x c fs S
  | _ => False
theorem defQ_ret {K : Cn D} {d : D} : defQ K (.ret d S) = K.k d S := rfl
theorem defQ_exc {K : Cn D} {c : Str} {fs : List (Str × D)} {e : Env} : defQ K (.exc c fs e S) = K.x c fs S := rfl
theorem wpe_def {K : Cn D} {m k : Nat} {f : Env → Sto → RS} {ds : List D} (h : ds.length = m) (w : wps (K := ⟨fun _ S => K.k .non S, defQ K⟩) (f (ds.map some ++ List.replicate k none) S)) : wpe (defX m k f ds S) := by
  unfold defX
  rw [if_pos h]
  cases hf : f (ds.map some ++ List.replicate k none) S <;> rw [hf] at w <;> first | exact w | exact w.elim
/-- what a call promises -/
def Ok {α : Type} (r : R α) (P : α → Sto → Prop) : Prop := wpe (K := ⟨P, noX⟩) r
theorem Ok.ex {r : R α} {P : α → Sto → Prop} (h : Ok r P) : ∃ a S, r = .ok a S ∧ P a S := by
  cases r with
  | ok a S => exact ⟨a, S, rfl, h⟩
  | exc c fs S => exact h.elim
  | bad => exact h.elim
theorem Ok.of {r : R α} {P : α → Sto → Prop} (h : ∃ a S, r = .ok a S ∧ P a S) : Ok r P := by
  obtain ⟨a, S, rfl, h⟩ := h
  exact h
theorem wpe_k {K : Cn α} {r : R α} {P : α → Sto → Prop} (h : Ok r P) (k : ∀ a S, P a S → K.k a S) : wpe r := by
  obtain ⟨a, S, rfl, h⟩ := h.ex
  exact k a S h
theorem Ok.mono {r : R α} {P P' : α → Sto → Prop} (h : Ok r P) (k : ∀ a S, P a S → P' a S) : Ok r P' := wpe_k (K := ⟨P', noX⟩) h k
/-- a statement's promise -/
theorem wps_k {K : Ck} {r : RS} {N : Env → Sto → Prop} {Q : RS → Prop} (h : wps (K := ⟨N, Q⟩) r) (k : ∀ e S, N e S → K.n e S) (q : ∀ r, Q r → K.q r) : wps r := by
  cases r with
  | nx e S => exact k e S h
  | bad => exact h.elim
  | ret d S => exact q _ h
  | bk e S => exact q _ h
  | ct e S => exact q _ h
  | exc c fs e S => exact q _ h
theorem wps_if {K : Ck} {ft : Env → Sto → R Bool} {f g : Env → Sto → RS} : wps (xIfS ft f g env S) = wpe (K := ⟨fun b S1 => wps (if b = true then f env S1 else g env S1), fun c fs S => K.q (.exc c fs env S)⟩) (ft env S) := wps_bindS
/-! ### chunks of the store -/
structure Asn where
  h : Sto → List Nat → Prop
  loc : ∀ S S' F, h S F → (∀ l ∈ F, at_ S' l = at_ S l) → h S' F
def pt (l : Nat) (o : O) : Asn := ⟨fun S F => F = [l] ∧ at_ S l = some o, fun S S' F h e => ⟨h.1, by rw [e l (by rw [h.1]; simp)]; exact h.2⟩⟩
/-- a list that is only read -/
def rl (l : Nat) (xs : List D) : Asn := ⟨fun S F => F = [l] ∧ rdL S l = some xs, fun S S' F h e => ⟨h.1, rdL_of_at (e l (by rw [h.1]; simp)) h.2⟩⟩
def pu (p : Prop) : Asn := ⟨fun _ F => F = [] ∧ p, fun _ _ _ h _ => h⟩
def exA {α : Type} (A : α → Asn) : Asn := ⟨fun S F => ∃ x, (A x).h S F, fun S S' F ⟨x, h⟩ e => ⟨x, (A x).loc S S' F h e⟩⟩
def HsF : List Asn → Sto → List Nat → Prop
  | [], _, F => F = []
  | A :: As, S, F => ∃ F1 F2, F = F1 ++ F2 ∧ A.h S F1 ∧ HsF As S F2
theorem HsF.loc : ∀ {As : List Asn} {S S' : Sto} {F : List Nat}, HsF As S F → (∀ l ∈ F, at_ S' l = at_ S l) → HsF As S' F
  | [], _, _, _, h, _ => h
  | A :: As, S, S', F, ⟨F1, F2, e, h1, h2⟩, q => ⟨F1, F2, e, A.loc S S' F1 h1 (fun l hl => q l (by rw [e]; exact List.mem_append_left _ hl)), HsF.loc h2 (fun l hl => q l (by rw [e]; exact List.mem_append_right _ hl))⟩
def bun (As : List Asn) : Asn := ⟨HsF As, fun _ _ _ h e => h.loc e⟩
def Hs (As : List Asn) (S : Sto) : Prop := ∃ F, HsF As S F ∧ F.Nodup ∧ ∀ l ∈ F, l < S.length
theorem HsF.app : ∀ {As Bs : List Asn} {S : Sto} {F : List Nat}, HsF (As ++ Bs) S F ↔ ∃ F1 F2, F = F1 ++ F2 ∧ HsF As S F1 ∧ HsF Bs S F2
  | [], Bs, S, F => ⟨fun h => ⟨[], F, rfl, rfl, h⟩, fun ⟨F1, F2, e, h1, h2⟩ => by cases h1; rw [e]; exact h2⟩
  | A :: As, Bs, S, F => ⟨fun ⟨F1, F2, e, h1, h2⟩ => by
      obtain ⟨G1, G2, e', h3, h4⟩ := HsF.app.mp h2
      exact ⟨F1 ++ G1, G2, by rw [e, e', List.append_assoc], ⟨F1, G1, rfl, h1, h3⟩, h4⟩, fun ⟨F1, F2, e, ⟨G1, G2, e', h1, h2⟩, h3⟩ => ⟨G1, G2 ++ F2, by rw [e, e', List.append_assoc], h1, HsF.app.mpr ⟨G2, F2, rfl, h2, h3⟩⟩⟩
theorem HsF.up : ∀ {As : List Asn} {i : Nat} {A : Asn} {S : Sto} {F : List Nat}, HsF As S F → As[i]? = some A → ∃ F', F'.Perm F ∧ HsF (A :: As.eraseIdx i) S F'
  | [], _, _, _, _, _, e => by simp at e
  | B :: As, 0, A, S, F, h, e => by
    cases e
    exact ⟨F, .refl _, h⟩
  | B :: As, i + 1, A, S, F, ⟨F1, F2, e1, h1, h2⟩, e => by
    obtain ⟨F', p, G1, G2, e', h3, h4⟩ := HsF.up (As := As) (i := i) h2 e
    refine ⟨G1 ++ (F1 ++ G2), ?_, G1, F1 ++ G2, rfl, h3, F1, G2, rfl, h1, h4⟩
    rw [e1]
    refine List.Perm.trans ?_ (List.Perm.append_left F1 p)
    rw [e', ← List.append_assoc, ← List.append_assoc]
    exact List.Perm.append_right G2 List.perm_append_comm
variable {As Bs : List Asn} {A : Asn} {l i : Nat} {o o' : O} {xs : List D}
/-- the i-th one to the front -/
theorem Hs.up (i : Nat) (h : Hs As S) (e : As[i]? = some A := by rfl) : Hs (A :: As.eraseIdx i) S := by
  obtain ⟨F, h1, h2, h3⟩ := h
  obtain ⟨F', p, q⟩ := h1.up e
  exact ⟨F', q, p.nodup_iff.mpr h2, fun l hl => h3 l (p.mem_iff.mp hl)⟩
theorem Hs.drop (h : Hs (A :: As) S) : Hs As S := by
  obtain ⟨F, ⟨F1, F2, e, h1, h2⟩, n, b⟩ := h
  subst e
  exact ⟨F2, h2, (List.nodup_append.mp n).2.1, fun l hl => b l (List.mem_append_right _ hl)⟩
theorem Hs.lt (h : Hs (pt l o :: As) S) : l < S.length := by
  obtain ⟨F, ⟨F1, F2, e, h1, h2⟩, n, b⟩ := h
  exact at_lt h1.2
theorem Hs.at0 (h : Hs (pt l o :: As) S) : at_ S l = some o := by
  obtain ⟨F, ⟨F1, F2, e, h1, h2⟩, n, b⟩ := h
  exact h1.2
theorem Hs.rd0 (h : Hs (rl l xs :: As) S) : rdL S l = some xs := by
  obtain ⟨F, ⟨F1, F2, e, h1, h2⟩, n, b⟩ := h
  exact h1.2
theorem Hs.at (i : Nat) (h : Hs As S) (e : As[i]? = some (pt l o) := by rfl) : at_ S l = some o := (h.up i e).at0
theorem Hs.rd (i : Nat) (h : Hs As S) (e : As[i]? = some (rl l xs) := by rfl) : rdL S l = some xs := (h.up i e).rd0
theorem Hs.rp (i : Nat) (h : Hs As S) (e : As[i]? = some (pt l (.lst xs)) := by rfl) : rdL S l = some xs := rdL_lst (h.at i e)
theorem Hs.ins {C : Str} {fs : List (Str × D)} (i : Nat) (h : Hs As S) (e : As[i]? = some (pt l (.ins C fs)) := by rfl) : insX S C (.ref l) = some (l, fs) := insX_eq (h.at i e)
theorem Hs.fr (h : Hs As S) (le : S.length ≤ S'.length) (q : ∀ F, HsF As S F → ∀ l ∈ F, at_ S' l = at_ S l) : Hs As S' := by
  obtain ⟨F, h1, n, b⟩ := h
  exact ⟨F, h1.loc (q F h1), n, fun l hl => Nat.lt_of_lt_of_le (b l hl) le⟩
theorem Hs.app (h : Hs As S) {T : Sto} : Hs As (S ++ T) := by
  obtain ⟨F, h1, n, b⟩ := h
  exact ⟨F, h1.loc (fun l hl => at_app_lt (b l hl)), n, fun l hl => by rw [List.length_append]; exact Nat.lt_of_lt_of_le (b l hl) (Nat.le_add_right _ _)⟩
theorem Hs.new (h : Hs As S) : Hs (pt S.length o :: As) (S ++ [o]) := by
  obtain ⟨F, h1, n, b⟩ := h
  refine ⟨S.length :: F, ⟨[S.length], F, rfl, ⟨rfl, at_new⟩, h1.loc (fun l hl => at_app_lt (b l hl))⟩, List.nodup_cons.mpr ⟨fun z => Nat.lt_irrefl _ (b _ z), n⟩, fun l hl => ?_⟩
  rw [List.length_append]
  rcases List.mem_cons.mp hl with rfl | hl
  · exact Nat.lt_succ_self _
  · exact Nat.lt_succ_of_lt (b l hl)
theorem Hs.set (h : Hs (pt l o :: As) S) : Hs (pt l o' :: As) (S.set l o') := by
  obtain ⟨F, ⟨F1, F2, e, h1, h2⟩, n, b⟩ := h
  subst e
  obtain ⟨rfl, h1⟩ := h1
  refine ⟨[l] ++ F2, ⟨[l], F2, rfl, ⟨rfl, at_set_eq (at_lt h1)⟩, h2.loc (fun k hk => at_set_ne fun z => ?_)⟩, n, fun k hk => by rw [List.length_set]; exact b k hk⟩
  subst z
  exact (List.nodup_cons.mp n).1 hk
theorem Hs.ne0 (h : Hs (pt l o :: pt i o' :: As) S) : l ≠ i := by
  obtain ⟨F, ⟨F1, F2, e, ⟨e1, h1⟩, ⟨F3, F4, e2, ⟨e3, h3⟩, h4⟩⟩, n, b⟩ := h
  subst e e1 e2 e3
  intro z
  subst z
  simp at n
theorem Hs.bun : Hs (bun As :: Bs) S ↔ Hs (As ++ Bs) S := by
  constructor
  · rintro ⟨F, ⟨F1, F2, e, h1, h2⟩, n, b⟩
    exact ⟨F, HsF.app.mpr ⟨F1, F2, e, h1, h2⟩, n, b⟩
  · rintro ⟨F, h1, n, b⟩
    obtain ⟨F1, F2, e, h1, h2⟩ := HsF.app.mp h1
    exact ⟨F, ⟨F1, F2, e, h1, h2⟩, n, b⟩
theorem Hs.ex {α : Type} {A : α → Asn} : Hs (exA A :: As) S ↔ ∃ x, Hs (A x :: As) S := by
  constructor
  · rintro ⟨F, ⟨F1, F2, e, ⟨x, h1⟩, h2⟩, n, b⟩
    exact ⟨x, F, ⟨F1, F2, e, h1, h2⟩, n, b⟩
  · rintro ⟨x, F, ⟨F1, F2, e, h1, h2⟩, n, b⟩
    exact ⟨F, ⟨F1, F2, e, ⟨x, h1⟩, h2⟩, n, b⟩
theorem Hs.pu {p : Prop} : Hs (pu p :: As) S ↔ p ∧ Hs As S := by
  constructor
  · rintro ⟨F, ⟨F1, F2, e, ⟨e1, h1⟩, h2⟩, n, b⟩
    subst e e1
    exact ⟨h1, F2, h2, n, b⟩
  · rintro ⟨h1, F, h2, n, b⟩
    exact ⟨F, ⟨[], F, rfl, ⟨rfl, h1⟩, h2⟩, n, b⟩
theorem Hs.front {B : Asn} (h : Hs (A :: As) S) (i : ∀ S F, A.h S F → B.h S F) : Hs (B :: As) S := by
  obtain ⟨F, ⟨F1, F2, e, h1, h2⟩, n, b⟩ := h
  exact ⟨F, ⟨F1, F2, e, i S F1 h1, h2⟩, n, b⟩
theorem Hs.toRl (h : Hs (pt l (.lst xs) :: As) S) : Hs (rl l xs :: As) S := h.front fun _ _ ⟨e, h⟩ => ⟨e, rdL_lst h⟩
/-- a whole bundle to the front: As1 ++ (Bs ++ As2) -/
theorem Hs.swap (h : Hs (As ++ Bs) S) : Hs (Bs ++ As) S := by
  obtain ⟨F, h1, n, b⟩ := h
  obtain ⟨F1, F2, rfl, h1, h2⟩ := HsF.app.mp h1
  have p : (F2 ++ F1).Perm (F1 ++ F2) := List.perm_append_comm
  exact ⟨F2 ++ F1, HsF.app.mpr ⟨F2, F1, rfl, h2, h1⟩, p.nodup_iff.mpr n, fun l hl => b l (p.mem_iff.mp hl)⟩
theorem Hs.nil : Hs [] S := ⟨[], rfl, List.nodup_nil, by simp⟩
/-- the first object of all -/
theorem Hs.one (h : at_ S l = some o) : Hs [pt l o] S := ⟨[l], ⟨[l], [], rfl, ⟨rfl, h⟩, rfl⟩, by simp, by simp; exact at_lt h⟩
theorem Hs.oneRl (h : rdL S l = some xs) : Hs [rl l xs] S := ⟨[l], ⟨[l], [], rfl, ⟨rfl, h⟩, rfl⟩, by simp, by simp; exact rdL_lt h⟩
/-! ### what changes the store stops the reckoning; each has its rule -/
def allo (o : O) (S : Sto) : R D := .ok (.ref S.length) (S ++ [o])
theorem wpe_allo {K : Cn D} (h : Hs As S) (k : ∀ l S', Hs (pt l o :: As) S' → K.k (.ref l) S') : wpe (allo o S) := k _ _ h.new
theorem wpe_lst {K : Cn D} {fa : Env → Sto → R (List D)} : wpe (xLst fa env S) = wpe (K := ⟨fun xs S1 => xs.length ≤ 100000 ∧ wpe (allo (.lst xs) S1), K.x⟩) (fa env S) := by
  unfold xLst
  rw [wpe_bind]
  congr 2
  funext xs S1
  by_cases h : xs.length ≤ 100000
  · rw [if_pos h]
    simp [h, allo]
  · rw [if_neg h]
    simp [h, wpe]
theorem wpe_dnew {K : Cn D} : wpe (xDNew env S) = wpe (allo (.dK []) S) := rfl
theorem wpe_mL {K : Cn D} {g : List D → List D → Option (D × List D)} {xs ys ds : List D} {d : D} (h : Hs (pt l (.lst xs) :: As) S) (e : g xs ds = some (d, ys)) (k : ∀ S', Hs (pt l (.lst ys) :: As) S' → K.k d S') : wpe (mL g (.ref l) ds S) := by
  rw [mL_eq h.at0 e]
  exact k _ h.set
theorem wpe_append {K : Cn D} {xs : List D} {d : D} (h : Hs (pt l (.lst xs) :: As) S) (e : xs.length < 100000) (k : ∀ S', Hs (pt l (.lst (xs ++ [d])) :: As) S' → K.k .non S') : wpe (mL gAppend (.ref l) [d] S) := wpe_mL h (gAppend_eq e) k
def setFS (C f : Str) (x y : D) (env : Env) (S : Sto) : RS := match setFX C f x y S with
  | some S3 => .nx env S3
  | none => .bad
theorem wps_xSetF {K : Ck} {C f : Str} {fo fv : Env → Sto → R D} : wps (xSetF C f fo fv env S) = wps ((fv env S).bindS env fun y S1 => (fo env S1).bindS env fun x S2 => setFS C f x y env S2) := rfl
theorem wps_setF {K : Ck} {C f : Str} {y : D} {fs : List (Str × D)} (h : Hs (pt l (.ins C fs) :: As) S) (hl : fs.length < 900) (k : ∀ S', Hs (pt l (.ins C (putFX f y fs)) :: As) S' → K.n env S') : wps (setFS C f (.ref l) y env S) := by
  unfold setFS
  rw [setFX_eq h.at0 hl]
  exact k _ h.set
theorem wps_xAugF {K : Ck} {C f : Str} {fo fv : Env → Sto → R D} {o : D → D → Sto → R D} : wps (xAugF C f fo fv o env S) = wps ((fo env S).bindS env fun x S1 => match (insX S1 C x).bind fun p => p.2.lookup f with
  | some d => (fv env S1).bindS env fun y S2 => (o d y S2).bindS env fun z S3 => setFS C f x z env S3
  | none => .bad) := rfl
def putDS (x y v : D) (env : Env) (S : Sto) : RS := match putDX x y v S with
  | some S4 => .nx env S4
  | none => .bad
theorem wps_xDPut {K : Ck} {fo fi fv : Env → Sto → R D} : wps (xDPut fo fi fv env S) = wps ((fv env S).bindS env fun v S1 => (fo env S1).bindS env fun x S2 => (fi env S2).bindS env fun y S3 => putDS x y v env S3) := rfl
theorem wps_putD {K : Ck} {y v : D} {kvs : List (Key × D)} {q : Key} (h : Hs (pt l (.dK kvs) :: As) S) (hy : keyD y = some q) (hl : kvs.length < 100000) (k : ∀ S', Hs (pt l (.dK (putX kvs q v)) :: As) S' → K.n env S') : wps (putDS (.ref l) y v env S) := by
  unfold putDS
  rw [putDX_eq h.at0 hy hl]
  exact k _ h.set
def setLE (x i v : D) (env : Env) (S : Sto) : R Env := match setLX x i v S with
  | some S3 => .ok env S3
  | none => .bad
theorem gSub_eq {fo fi : Env → Sto → R D} {d : D} : gSubX fo fi d env S = (fo env S).bind fun x S1 => (fi env S1).bind fun i S2 => setLE x i d env S2 := rfl
theorem wpe_setL {K : Cn Env} {v : D} {xs : List D} {q : Int} {j : Nat} (h : Hs (pt l (.lst xs) :: As) S) (hj : ixN xs.length q = some j) (k : ∀ S', Hs (pt l (.lst (xs.set j v)) :: As) S' → K.k env S') : wpe (setLE (.ref l) (.int q) v env S) := by
  unfold setLE
  rw [setLX_eq h.at0 hj]
  exact k _ h.set
/-- C(..) -/
def mkEnd (l : Nat) (r : R D) : R D := match r with
  | .ok .non S2 => .ok (.ref l) S2
  | _ => .bad
theorem wpe_xMake {K : Cn D} {C : Str} {f : List D → Sto → R D} {fa : Env → Sto → R (List D)} : wpe (xMake C f fa env S) = wpe ((fa env S).bind fun ds S1 => mkEnd S1.length (f (.ref S1.length :: ds) (S1 ++ [.ins C []]))) := rfl
theorem wpe_make {K : Cn D} {C : Str} {f : List D → Sto → R D} {ds : List D} {P : Nat → Sto → Prop} (h : Hs As S) (q : ∀ l S', Hs (pt l (.ins C []) :: As) S' → Ok (f (.ref l :: ds) S') (fun v S2 => v = .non ∧ P l S2)) (k : ∀ l S', P l S' → K.k (.ref l) S') : wpe (mkEnd S.length (f (.ref S.length :: ds) (S ++ [.ins C []]))) := by
  obtain ⟨a, S2, e, rfl, p⟩ := (q S.length (S ++ [.ins C []]) h.new).ex
  rw [e]
  exact k _ _ p
/-! ### loops -/
def loopQ (J : Env → Sto → Prop) (K : Ck) : RS → Prop
  | .ct e S => J e S
  | .bk e S => K.n e S
  | .nx _ _ => False
  | .bad => False
  | r => K.q r
theorem loopQ_ct {J : Env → Sto → Prop} {K : Ck} {e : Env} : loopQ J K (.ct e S) = J e S := rfl
theorem loopQ_bk {J : Env → Sto → Prop} {K : Ck} {e : Env} : loopQ J K (.bk e S) = K.n e S := rfl
theorem loopQ_ret {J : Env → Sto → Prop} {K : Ck} {d : D} : loopQ J K (.ret d S) = K.q (.ret d S) := rfl
theorem loopQ_exc {J : Env → Sto → Prop} {K : Ck} {c : Str} {fs : List (Str × D)} {e : Env} : loopQ J K (.exc c fs e S) = K.q (.exc c fs e S) := rfl
theorem loop_go {K : Ck} {ok : Sto → Prop} {fg : XG} {fb : Env → Sto → RS} (I : Nat → Env → Sto → Prop) : ∀ (items : List D) (j : Nat) (env : Env) (S : Sto), (∀ i env S, i ≤ j + items.length → I i env S → ok S) →
    (∀ i x env S, items[i]? = some x → I (j + i) env S → wpe (K := ⟨fun e1 S1 => wps (K := ⟨I (j + i + 1), loopQ (I (j + i + 1)) K⟩) (fb e1 S1), noX⟩) (fg x env S)) →
    (∀ e S', I (j + items.length) e S' → K.n e S') → I j env S → wps (finX (loopX ok fg fb items env S))
  | [], j, env, S, hok, _, fin, h => by
    rw [loopX_nil (hok j env S (by simp) h)]
    exact fin env S h
  | x :: r, j, env, S, hok, turn, fin, h => by
    have next : ∀ e S', I (j + 1) e S' → wps (finX (loopX ok fg fb r e S')) := fun e S' h' =>
      loop_go I r (j + 1) e S' (fun i env S hi => hok i env S (by rw [List.length_cons]; omega)) (fun i y env S hy hI => by
        have := turn (i + 1) y env S hy (by rw [show j + (i + 1) = j + 1 + i by omega]; exact hI)
        rw [show j + (i + 1) = j + 1 + i by omega] at this
        exact this) (fun e S' q => fin e S' (by rw [show j + (x :: r).length = j + 1 + r.length by rw [List.length_cons]; omega]; exact q)) h'
    rw [loopX_cons (hok j env S (by simp) h)]
    have t := turn 0 x env S rfl h
    rw [Nat.add_zero] at t
    cases hg : fg x env S with
    | ok e1 S1 =>
      rw [hg] at t
      change wps (K := ⟨I (j + 1), loopQ (I (j + 1)) K⟩) (fb e1 S1) at t
      rw [bindE_ok]
      cases hb : fb e1 S1 with
      | nx e S' => rw [hb] at t; exact next e S' t
      | ct e S' => rw [hb] at t; exact next e S' t
      | bk e S' => rw [hb] at t; exact t
      | ret d S' => rw [hb] at t; exact t
      | exc c fs e S' => rw [hb] at t; exact t
      | bad => rw [hb] at t; exact t.elim
    | exc c fs S1 => rw [hg] at t; exact t.elim
    | bad => rw [hg] at t; exact t.elim
theorem wps_xFor {K : Ck} {fi : Env → Sto → R Itx} {fg : XG} {fb : Env → Sto → RS} : wps (xFor fi fg fb env S) = wpe (K := ⟨fun it S1 => wps (finX (loopX it.ok fg fb it.items env S1)), fun c fs S => K.q (.exc c fs env S)⟩) (fi env S) := wps_bindS
theorem wps_loop {K : Ck} {ok : Sto → Prop} {fg : XG} {fb : Env → Sto → RS} {items : List D} (I : Nat → Env → Sto → Prop) (start : I 0 env S) (hok : ∀ i env S, I i env S → ok S)
    (turn : ∀ i x env S, items[i]? = some x → I i env S → wpe (K := ⟨fun e1 S1 => wps (K := ⟨I (i + 1), loopQ (I (i + 1)) K⟩) (fb e1 S1), noX⟩) (fg x env S))
    (fin : ∀ e S', I items.length e S' → K.n e S') : wps (finX (loopX ok fg fb items env S)) := by
  refine loop_go I items 0 env S (fun i env S _ h => hok i env S h) (fun i x env S hx h => ?_) (fun e S' h => fin e S' (by rw [Nat.zero_add] at h; exact h)) start
  rw [Nat.zero_add] at h ⊢
  exact turn i x env S hx h
/-- for .. else -/
def loopE (fe : Env → Sto → RS) (r : RS) : RS := match r with
  | .nx e S2 => fe e S2
  | r => finX r
theorem wps_xForE {K : Ck} {fi : Env → Sto → R Itx} {fg : XG} {fb fe : Env → Sto → RS} : wps (xForE fi fg fb fe env S) = wpe (K := ⟨fun it S1 => wps (loopE fe (loopX it.ok fg fb it.items env S1)), fun c fs S => K.q (.exc c fs env S)⟩) (fi env S) := wps_bindS
theorem wps_loopE {K : Ck} {ok : Sto → Prop} {fg : XG} {fb fe : Env → Sto → RS} {items : List D} (I : Nat → Env → Sto → Prop) (start : I 0 env S) (hok : ∀ i env S, I i env S → ok S)
    (turn : ∀ i x env S, items[i]? = some x → I i env S → wpe (K := ⟨fun e1 S1 => wps (K := ⟨I (i + 1), loopQ (I (i + 1)) K⟩) (fb e1 S1), noX⟩) (fg x env S))
    (fin : ∀ e S', I items.length e S' → wps (fe e S')) : wps (loopE fe (loopX ok fg fb items env S)) := by
  have := loop_go (K := ⟨fun e S' => (I items.length e S' ∧ loopX ok fg fb items env S = .nx e S') ∨ (K.n e S' ∧ loopX ok fg fb items env S = .bk e S'), fun r => K.q r ∧ loopX ok fg fb items env S = r⟩) (ok := ok) (fg := fg) (fb := fb) I items 0 env S
  have gen : wps (K := ⟨I items.length, fun r => match r with
      | .bk e S' => K.n e S'
      | .ct _ _ => False
      | r => K.q r⟩) (loopX ok fg fb items env S) := by
    clear this
    have : ∀ (r : List D) (j : Nat) (env : Env) (S : Sto), j + r.length = items.length → (∀ i x, r[i]? = some x → items[j + i]? = some x) → I j env S → wps (K := ⟨I items.length, fun r => match r with
      | .bk e S' => K.n e S'
      | .ct _ _ => False
      | r => K.q r⟩) (loopX ok fg fb r env S) := by
      intro r
      induction r with
      | nil =>
        intro j env S hj _ h
        rw [loopX_nil (hok j env S h)]
        have : j = items.length := by simpa using hj
        subst this
        exact h
      | cons x r ih =>
        intro j env S hj hx h
        rw [loopX_cons (hok j env S h)]
        have t := turn j x env S (by have := hx 0 x rfl; rwa [Nat.add_zero] at this) h
        have next : ∀ e S', I (j + 1) e S' → _ := fun e S' h' => ih (j + 1) e S' (by rw [← hj, List.length_cons]; omega) (fun i y hy => by have := hx (i + 1) y hy; rwa [show j + (i + 1) = j + 1 + i by omega] at this) h'
        cases hg : fg x env S with
        | ok e1 S1 =>
          rw [hg] at t
          change wps (K := ⟨I (j + 1), loopQ (I (j + 1)) K⟩) (fb e1 S1) at t
          rw [bindE_ok]
          cases hb : fb e1 S1 with
          | nx e S' => rw [hb] at t; exact next e S' t
          | ct e S' => rw [hb] at t; exact next e S' t
          | bk e S' => rw [hb] at t; exact t
          | ret d S' => rw [hb] at t; exact t
          | exc c fs e S' => rw [hb] at t; exact t
          | bad => rw [hb] at t; exact t.elim
        | exc c fs S1 => rw [hg] at t; exact t.elim
        | bad => rw [hg] at t; exact t.elim
    exact this items 0 env S (by simp) (fun i x h => by rwa [Nat.zero_add]) start
  unfold loopE
  cases hl : loopX ok fg fb items env S with
  | nx e S' => rw [hl] at gen; exact fin e S' gen
  | ct e S' => rw [hl] at gen; exact gen.elim
  | bk e S' => rw [hl] at gen; exact gen
  | ret d S' => rw [hl] at gen; exact gen
  | exc c fs e S' => rw [hl] at gen; exact gen
  | bad => rw [hl] at gen; exact gen.elim
/-- while, by a measure -/
theorem while_fuel {K : Ck} {ft : Env → Sto → R Bool} {fb : Env → Sto → RS} (I : Nat → Env → Sto → Prop)
    (turn : ∀ m env S, I m env S → wpe (K := ⟨fun b S1 => if b = true then wps (K := ⟨fun e S' => ∃ m', m' < m ∧ I m' e S', loopQ (fun e S' => ∃ m', m' < m ∧ I m' e S') K⟩) (fb env S1) else K.n env S1, noX⟩) (ft env S)) :
    ∀ (N m : Nat) (env : Env) (S : Sto), m < N → I m env S → wps (finX (whileX ft fb N env S)) ∧ whileX ft fb N env S ≠ .bad
  | 0, m, _, _, h, _ => absurd h (Nat.not_lt_zero _)
  | N + 1, m, env, S, hm, h => by
    rw [whileX_succ]
    have t := turn m env S h
    cases ht : ft env S with
    | ok b S1 =>
      rw [ht] at t
      rw [R.bindS_ok]
      have t' : if b = true then wps (K := ⟨fun e S' => ∃ m', m' < m ∧ I m' e S', loopQ (fun e S' => ∃ m', m' < m ∧ I m' e S') K⟩) (fb env S1) else K.n env S1 := t
      cases b with
      | false => exact ⟨t', by simp⟩
      | true =>
        rw [if_pos rfl] at t' ⊢
        have next : ∀ e S', (∃ m', m' < m ∧ I m' e S') → wps (finX (whileX ft fb N e S')) ∧ whileX ft fb N e S' ≠ .bad := fun e S' ⟨m', h1, h2⟩ => while_fuel I turn N m' e S' (by omega) h2
        cases hb : fb env S1 with
        | nx e S' => rw [hb] at t'; exact next e S' t'
        | ct e S' => rw [hb] at t'; exact next e S' t'
        | bk e S' => rw [hb] at t'; exact ⟨t', by simp⟩
        | ret d S' => rw [hb] at t'; exact ⟨t', by simp⟩
        | exc c fs e S' => rw [hb] at t'; exact ⟨t', by simp⟩
        | bad => rw [hb] at t'; exact t'.elim
    | exc c fs S1 => rw [ht] at t; exact t.elim
    | bad => rw [ht] at t; exact t.elim
theorem wps_while {K : Ck} {ft : Env → Sto → R Bool} {fb : Env → Sto → RS} (I : Nat → Env → Sto → Prop) (m : Nat) (start : I m env S)
    (turn : ∀ m env S, I m env S → wpe (K := ⟨fun b S1 => if b = true then wps (K := ⟨fun e S' => ∃ m', m' < m ∧ I m' e S', loopQ (fun e S' => ∃ m', m' < m ∧ I m' e S') K⟩) (fb env S1) else K.n env S1, noX⟩) (ft env S)) : wps (xWhile ft fb env S) := by
  obtain ⟨h1, h2⟩ := while_fuel I turn (m + 1) m env S (Nat.lt_succ_self _) start
  rw [xWhile_eq rfl h2]
  exact h1
/-! ### comprehensions -/
theorem wpe_xLc {K : Cn D} {fi : Env → Sto → R Itx} {fg : XG} {ft : Env → Sto → R Bool} {fe : Env → Sto → R D} {vs : List Nat} : wpe (xLc fi fg ft fe vs env S) = wpe (K := ⟨fun it S1 => wpe (compX it.ok fg ft fe (wipeE env vs) S1.length it.items (S1 ++ [.lst []])), K.x⟩) (fi env S) := wpe_bind
theorem comp_go {K : Cn D} {ok : Sto → Prop} {fg : XG} {ft : Env → Sto → R Bool} {fe : Env → Sto → R D} {env0 : Env} {l : Nat} (I : Nat → List D → Sto → Prop) (hI : ∀ i acc S, I i acc S → ok S ∧ at_ S l = some (.lst acc)) : ∀ (items : List D) (j : Nat) (acc : List D) (S : Sto),
    (∀ i x acc S, items[i]? = some x → I (j + i) acc S → wpe (K := ⟨fun e1 S1 => wpe (K := ⟨fun b S2 => if b = true then wpe (K := ⟨fun y S3 => at_ S3 l = some (.lst acc) ∧ acc.length < 100000 ∧ I (j + i + 1) (acc ++ [y]) (S3.set l (.lst (acc ++ [y]))), noX⟩) (fe e1 S2) else I (j + i + 1) acc S2, noX⟩) (ft e1 S1), noX⟩) (fg x env0 S)) →
    (∀ acc S, I (j + items.length) acc S → K.k (.ref l) S) → I j acc S → wpe (compX ok fg ft fe env0 l items S)
  | [], j, acc, S, _, fin, h => by
    rw [compX, if_pos (hI _ _ _ h).1]
    exact fin acc S h
  | x :: r, j, acc, S, turn, fin, h => by
    have next : ∀ acc S, I (j + 1) acc S → wpe (compX ok fg ft fe env0 l r S) := fun acc S h =>
      comp_go I hI r (j + 1) acc S (fun i y acc S hy hq => by
        have := turn (i + 1) y acc S hy (by rw [show j + (i + 1) = j + 1 + i by omega]; exact hq)
        rw [show j + (i + 1) = j + 1 + i by omega] at this
        exact this) (fun acc S q => fin acc S (by rw [show j + (x :: r).length = j + 1 + r.length by rw [List.length_cons]; omega]; exact q)) h
    rw [compX, if_pos (hI _ _ _ h).1]
    have t := turn 0 x acc S rfl h
    rw [Nat.add_zero] at t
    cases hg : fg x env0 S with
    | ok e1 S1 =>
      rw [hg] at t
      change wpe (K := ⟨fun b S2 => if b = true then wpe (K := ⟨fun y S3 => at_ S3 l = some (.lst acc) ∧ acc.length < 100000 ∧ I (j + 1) (acc ++ [y]) (S3.set l (.lst (acc ++ [y]))), noX⟩) (fe e1 S2) else I (j + 1) acc S2, noX⟩) (ft e1 S1) at t
      simp only
      cases ht : ft e1 S1 with
      | ok b S2 =>
        rw [ht] at t
        change if b = true then wpe (K := ⟨fun y S3 => at_ S3 l = some (.lst acc) ∧ acc.length < 100000 ∧ I (j + 1) (acc ++ [y]) (S3.set l (.lst (acc ++ [y]))), noX⟩) (fe e1 S2) else I (j + 1) acc S2 at t
        cases b with
        | false =>
          simp only
          exact next acc S2 t
        | true =>
          simp only
          rw [if_pos rfl] at t
          cases he : fe e1 S2 with
          | ok y S3 =>
            rw [he] at t
            obtain ⟨h1, h2, h3⟩ : at_ S3 l = some (.lst acc) ∧ acc.length < 100000 ∧ I (j + 1) (acc ++ [y]) (S3.set l (.lst (acc ++ [y]))) := t
            simp only [h1, if_pos h2]
            exact next _ _ h3
          | exc c fs S1 => rw [he] at t; exact t.elim
          | bad => rw [he] at t; exact t.elim
      | exc c fs S1 => rw [ht] at t; exact t.elim
      | bad => rw [ht] at t; exact t.elim
    | exc c fs S1 => rw [hg] at t; exact t.elim
    | bad => rw [hg] at t; exact t.elim
/-- a comprehension whose items leave the chunks as they are -/
theorem wpe_comp {K : Cn D} {ok : Sto → Prop} {fg : XG} {ft : Env → Sto → R Bool} {fe : Env → Sto → R D} {env0 : Env} {items : List D} (g : D → Option D) (h : Hs As S) (hok : ∀ Bs S', Hs (As ++ Bs) S' → ok S')
    (turn : ∀ x ∈ items, ∀ Bs S', Hs (As ++ Bs) S' → wpe (K := ⟨fun e1 S1 => wpe (K := ⟨fun b S2 => b = (g x).isSome ∧ (if b = true then wpe (K := ⟨fun y S3 => g x = some y ∧ Hs (As ++ Bs) S3, noX⟩) (fe e1 S2) else Hs (As ++ Bs) S2), noX⟩) (ft e1 S1), noX⟩) (fg x env0 S'))
    (hl : items.length ≤ 100000) (k : ∀ l S', Hs (pt l (.lst (items.filterMap g)) :: As) S' → K.k (.ref l) S') : wpe (compX ok fg ft fe env0 S.length items (S ++ [.lst []])) := by
  generalize hm : S.length = l
  have h0 : Hs (pt l (.lst []) :: As) (S ++ [.lst []]) := by subst hm; exact h.new
  have sw : ∀ {acc : List D} {S : Sto}, Hs (pt l (.lst acc) :: As) S → Hs (As ++ [pt l (.lst acc)]) S := fun {acc S} h => Hs.swap (As := [pt l (.lst acc)]) (Bs := As) h
  have ws : ∀ {acc : List D} {S : Sto}, Hs (As ++ [pt l (.lst acc)]) S → Hs (pt l (.lst acc) :: As) S := fun {acc S} h => Hs.swap (As := As) (Bs := [pt l (.lst acc)]) h
  refine comp_go (fun i acc S => Hs (pt l (.lst acc) :: As) S ∧ acc = (items.take i).filterMap g ∧ i ≤ items.length) (fun i acc S q => ⟨hok _ S (sw q.1), q.1.at0⟩) items 0 [] _ (fun i x acc S hx ⟨h, e, hi⟩ => ?_) (fun acc S ⟨h, e, _⟩ => k l S (by rw [Nat.zero_add, List.take_length] at e; rw [← e]; exact h)) ⟨h0, by simp, Nat.zero_le _⟩
  have hlt := (List.getElem?_eq_some_iff.mp hx).1
  have ha : acc.length ≤ i := by
    rw [e]
    refine Nat.le_trans (List.length_filterMap_le _ _) ?_
    rw [List.length_take]
    omega
  have tk : ∀ o, g x = o → (items.take (0 + i + 1)).filterMap g = acc ++ o.toList := fun o ho => by
    rw [show 0 + i + 1 = i + 1 by omega, List.take_succ, hx, List.filterMap_append, e, Nat.zero_add]
    congr 1
    cases o <;> simp [ho]
  have t := turn x (List.mem_of_getElem? hx) _ S (sw h)
  cases hg : fg x env0 S with
  | ok e1 S1 =>
    rw [hg] at t
    change wpe (K := ⟨fun b S2 => b = (g x).isSome ∧ (if b = true then wpe (K := ⟨fun y S3 => g x = some y ∧ Hs (As ++ [pt l (.lst acc)]) S3, noX⟩) (fe e1 S2) else Hs (As ++ [pt l (.lst acc)]) S2), noX⟩) (ft e1 S1) at t
    show wpe (K := ⟨fun b S2 => if b = true then wpe (K := ⟨fun y S3 => at_ S3 l = some (.lst acc) ∧ acc.length < 100000 ∧ (Hs (pt l (.lst (acc ++ [y])) :: As) (S3.set l (.lst (acc ++ [y]))) ∧ acc ++ [y] = (items.take (0 + i + 1)).filterMap g ∧ 0 + i + 1 ≤ items.length), noX⟩) (fe e1 S2) else (Hs (pt l (.lst acc) :: As) S2 ∧ acc = (items.take (0 + i + 1)).filterMap g ∧ 0 + i + 1 ≤ items.length), noX⟩) (ft e1 S1)
    cases ht : ft e1 S1 with
    | ok b S2 =>
      rw [ht] at t
      obtain ⟨hb, t⟩ : b = (g x).isSome ∧ (if b = true then wpe (K := ⟨fun y S3 => g x = some y ∧ Hs (As ++ [pt l (.lst acc)]) S3, noX⟩) (fe e1 S2) else Hs (As ++ [pt l (.lst acc)]) S2) := t
      show (if b = true then _ else _)
      cases b with
      | false =>
        rw [if_neg (by simp)] at t ⊢
        have := tk none (by cases hq : g x with
          | none => rfl
          | some y => rw [hq] at hb; cases hb)
        exact ⟨ws t, by rw [this]; simp, by omega⟩
      | true =>
        rw [if_pos rfl] at t ⊢
        cases he : fe e1 S2 with
        | ok y S3 =>
          rw [he] at t
          obtain ⟨h1, h2⟩ : g x = some y ∧ Hs (As ++ [pt l (.lst acc)]) S3 := t
          exact ⟨(ws h2).at0, by omega, (ws h2).set, by rw [tk _ h1]; simp, by omega⟩
        | exc c fs S1 => rw [he] at t; exact t.elim
        | bad => rw [he] at t; exact t.elim
    | exc c fs S1 => rw [ht] at t; exact t.elim
    | bad => rw [ht] at t; exact t.elim
  | exc c fs S1 => rw [hg] at t; exact t.elim
  | bad => rw [hg] at t; exact t.elim
end
end Mi

namespace Mi
open PySem PySem.Spec PyProof.Rows L2 Evl My
/-! ### the reckoning's words, so that what makes a new object stops it -/
section
variable {α : Type} {S : Sto} {l b : Nat} {i j : Int} {o : O}
theorem rngOk_lit {n : Nat} (h : n ≤ 1000000000) : RngOk (no_index (@OfNat.ofNat Int n instOfNat)) := rngOk (show -1000000000 ≤ ((n : Nat) : Int) ∧ ((n : Nat) : Int) ≤ 1000000000 by omega)
theorem rngOk_m1 : RngOk (-1) := rngOk (by decide)
theorem cDiv_lit {a : Int} {n : Nat} (h : 0 < n ∧ n < 1073741824) : CDiv a (no_index (@OfNat.ofNat Int n instOfNat)) := show 0 < ((n : Nat) : Int) ∧ ((n : Nat) : Int) < 1073741824 by omega
theorem cMul_litR {a : Int} {n : Nat} (h : n ≤ 1000000000000) : CMul a (no_index (@OfNat.ofNat Int n instOfNat)) := .inr (show -(2 ^ 64) < ((n : Nat) : Int) ∧ ((n : Nat) : Int) < 2 ^ 64 by omega)
theorem cMul_litL {a : Int} {n : Nat} (h : n ≤ 1000000000000) : CMul (no_index (@OfNat.ofNat Int n instOfNat)) a := .inl (show -(2 ^ 64) < ((n : Nat) : Int) ∧ ((n : Nat) : Int) < 2 ^ 64 by omega)
theorem cMul_l {a b : Int} (h : -1000000000000 ≤ a ∧ a ≤ 1000000000000) : CMul a b := .inl (by omega)
theorem cMul_r {a b : Int} (h : -1000000000000 ≤ b ∧ b ≤ 1000000000000) : CMul a b := .inr (by omega)
theorem cDiv_of {a b : Int} (h : 0 < b ∧ b < 1000000000) : CDiv a b := ⟨h.1, by omega⟩
theorem rgOk {a b : Int} (h : -1000000 ≤ a ∧ a ≤ 1000000 ∧ -1000000 ≤ b ∧ b ≤ 1000000) : RgOk a b := ⟨by omega, by omega, by omega, by omega, by omega⟩
theorem popOk {i : Int} (h : -1000000000 ≤ i ∧ i ≤ 1000000000) : PopOk i := ⟨by omega, by omega⟩
theorem wpe_iteBad {K : Cn α} {c : Prop} {_ : Decidable c} {r : R α} : wpe (if c then r else .bad) = (c ∧ wpe r) := by
  by_cases h : c
  · simp [h]
  · simp [h, wpe]
theorem wps_iteBad {K : Ck} {c : Prop} {_ : Decidable c} {r : RS} : wps (if c then r else .bad) = (c ∧ wps r) := by
  by_cases h : c
  · simp [h]
  · simp [h, wps]
theorem oIC_wp {C : Int → Int → Prop} {g : Int → Int → D} : oIC C g (.int i) (.int j) S = (open Classical in if C i j then .ok (g i j) S else .bad) := rfl
theorem bList_wp : bList [.ref l] S = (match rdL S l with
  | some xs => allo (.lst xs) S
  | none => .bad) := rfl
theorem bListT_wp {xs : List D} : bList [.tup xs] S = allo (.lst xs) S := rfl
theorem oSlL_wp {lo hi : Option Int} : oSlL (.ref l) lo hi S = (match rdL S l with
  | some xs => allo (.lst (cutX xs lo hi)) S
  | none => .bad) := rfl
theorem oCat_wp : oCat (.ref l) (.ref b) S = (match at_ S l, at_ S b with
  | some (.lst xs), some (.lst ys) => if xs.length + ys.length ≤ 100000 then allo (.lst (xs ++ ys)) S else .bad
  | _, _ => .bad) := rfl
theorem bListD_wp : bListD [.ref l] S = (match at_ S l with
  | some (.dK kvs) => allo (.lst (kvs.map fun kv => keyOf kv.1)) S
  | _ => .bad) := rfl
theorem mkRg_wp {a b : Int} : mkRg a b S = (open Classical in if RgOk a b then allo (.lst (rngD a (b - a).toNat)) S else .bad) := rfl
theorem bSet_wp {l : Nat} : bSet [.ref l] S = (match (rdL S l).bind intsOf with
  | some ns => if ns.length ≤ 4000 then allo (.set (memI ns) (dedupL ns).length) S else .bad
  | none => .bad) := by
  unfold bSet bInts
  simp only
  cases h : (rdL S l).bind intsOf <;> rfl
/-- the outcome of a test is one of two -/
theorem wps_ite {K : Ck} {c : Prop} {_ : Decidable c} {r q : RS} (h1 : c → wps r) (h2 : ¬ c → wps q) : wps (if c then r else q) := by
  by_cases h : c
  · rw [if_pos h]; exact h1 h
  · rw [if_neg h]; exact h2 h
theorem wpe_ite {K : Cn α} {c : Prop} {_ : Decidable c} {r q : R α} (h1 : c → wpe r) (h2 : ¬ c → wpe q) : wpe (if c then r else q) := by
  by_cases h : c
  · rw [if_pos h]; exact h1 h
  · rw [if_neg h]; exact h2 h
theorem Ok.def {m k : Nat} {f : Env → Sto → RS} {ds : List D} {P : D → Sto → Prop} (h : ds.length = m) (w : wps (K := ⟨fun _ S => P .non S, defQ ⟨P, noX⟩⟩) (f (ds.map some ++ List.replicate k none) S)) : Ok (defX m k f ds S) P := wpe_def (K := ⟨P, noX⟩) h w
end
end Mi

namespace Mi
open PySem PySem.Spec PyProof.Rows L2 Evl My
/-! ### sorted(set(a list of ints)) -/
section
variable {P : Program} {w : World} {A : Around} {E : Value → Shared → Prop} {s : Shared}
theorem set_of_list {l : Addr} {xs : Array Value} (ns : List Int) {Q : Value → Shared → Prop} (ih : A.handled = none) (il : s.heap.IsList l xs) (ii : IntsAre xs.toList ns) (ib : ns.length + 1 < scanBound)
    (go : ∀ (g : Heap) (tk c : Nat), SetR w g s.heap.objs.size (fun j => decide (j ∈ ns)) c → c ≤ ns.length → (∀ b o, s.heap.get? b = some o → g.get? b = some o) → Q (.ref s.heap.objs.size) { s with heap := g, toks := tk }) :
    wpAny (model P w) A (call (.type "set") [.ref l]) Q E s := by
  have sz : xs.size = ns.length := by rw [← Array.length_toList]; exact IntsAre.length ii
  have nl : l < s.heap.objs.size := by
    obtain ⟨_, e, _⟩ := id il
    exact Heap.lt_size e
  obtain ⟨_, _, hmro⟩ := F.called_set.mro
  have made := F.called_set.made
  have subs := F.called_set.sub
  have q1 := F.called_set.notType
  have q2 := F.called_set.canCreate
  have q3 := F.typeCall_set_1 (.ref l)
  refine wpAny_call (codeAny_of_tree ?_)
  change wpAny _ _ (callAny (.type "set") _) _ _ _
  refine wpAny_pure ⟨Code.quiet_builtin _ (by decide +kernel), codeAny_builtin F.entry_type_call ?_⟩
  rw [Around.under_plain (weight_type_call_type "set" [.ref l] []) rfl]
  repeat (any_goals (first | assumption | wp_step))
  refine codeAny_mono (code_set_led1 (.ref l) (E := E) (Q₁ := fun ob s1 => ob = .ref s.heap.objs.size ∧ s1 = { s with heap := s.heap.push { cls := .type "set", dict := none, data := .set #[] 0 (.fresh 0 0 (!w.params.followText "set-order")) } }) ⟨rfl, rfl⟩) fun r s1 hr => ?_
  cases r with
  | error e => exact hr
  | ok fl =>
    cases fl with
    | ret ob =>
      obtain ⟨rfl, rfl⟩ := hr
      have at1 : (s.heap.push { cls := .type "set", dict := none, data := .set #[] 0 (.fresh 0 0 (!w.params.followText "set-order")) }).get? s.heap.objs.size = some { cls := .type "set", dict := none, data := .set #[] 0 (.fresh 0 0 (!w.params.followText "set-order")) } := Heap.get?_push_size _ rfl
      have ty : Shared.TypeIs { s with heap := s.heap.push { cls := .type "set", dict := none, data := .set #[] 0 (.fresh 0 0 (!w.params.followText "set-order")) } } (.ref s.heap.objs.size) "set" := ⟨_, at1, rfl⟩
      have z1 : (s.heap.push { cls := .type "set", dict := none, data := .set #[] 0 (.fresh 0 0 (!w.params.followText "set-order")) }).objs.size = s.heap.objs.size + 1 := Heap.size_push ..
      have lk := F.called_set.init.lookup
      have bd := F.called_set.init.bind (.ref s.heap.objs.size)
      repeat (any_goals (first | assumption | wp_step))
      refine codeAny_mono (codeAny_call_builtin (R := wants (fun r s2 => r = .none ∧ ∃ g tk c, s2 = { s with heap := g, toks := tk } ∧ SetR w g s.heap.objs.size (fun j => decide (j ∈ ns)) c ∧ c ≤ ns.length ∧ (∀ b o, s.heap.get? b = some o → g.get? b = some o)) E) F.called_set.init.plain F.entry_set_init (check_set_init_1 ty ?_)) fun r2 s2 hr2 => ?_
      · obtain ⟨⟨oc, od, odt, os⟩, hol, hc, k, hd⟩ := il
        simp only at hc hd
        subst hc hd
        have at2 : (s.heap.push { cls := .type "set", dict := none, data := .set #[] 0 (.fresh 0 0 (!w.params.followText "set-order")) }).get? l = some { cls := .type "list", dict := od, data := .seq xs k, slots := os } := Heap.get?_push_of_some _ hol
        have e1 := F.sub_list_set
        have e2 := F.sub_list_frozenset
        have e3 : (Value.type "list" == Value.type "dict") = false := by decide
        have il1 : (s.heap.push { cls := .type "set", dict := none, data := .set #[] 0 (.fresh 0 0 (!w.params.followText "set-order")) }).IsList l xs := ⟨_, at2, rfl, k, rfl⟩
        unfold Builtin.«set.__init__» noKeywords Builtin.Frozenset.updateFrom
        generalize hw : pyIter = PI
        wp_walk
        subst hw
        refine wpAny_pyIter_list il1 ?_
        refine wpAny_bind (wpAny_runValue ?_)
        have ih3 : A.in1.in1.in1.handled = none := by simp [ih]
        have hn1 : l ≠ (s.heap.push { cls := .type "set", dict := none, data := .set #[] 0 (.fresh 0 0 (!w.params.followText "set-order")) }).objs.size := by rw [z1]; exact Nat.ne_of_lt (Nat.lt_succ_of_lt nl)
        have n2 : s.heap.objs.size ∉ [(s.heap.push { cls := .type "set", dict := none, data := .set #[] 0 (.fresh 0 0 (!w.params.followText "set-order")) }).objs.size, l] := by
          rw [z1]
          simp only [List.mem_cons, List.not_mem_nil, or_false, not_or]
          exact ⟨Nat.ne_of_lt (Nat.lt_succ_self _), Nat.ne_of_gt nl⟩
        have val : ∀ (i : Nat) (v : Value), xs[i]? = some v → ∃ k t, ns[i]? = some k ∧ v = .int k t := fun i v hv => by
          have hi : i < ns.length := by rw [← sz]; exact (Array.getElem?_eq_some_iff.mp hv).1
          obtain ⟨t, e⟩ := PyProof.Rows.IntsAre.int_at ii i v (by rw [Array.getElem?_toList]; exact hv)
          exact ⟨ns[i], t, List.getElem?_eq_getElem hi, by rw [e, List.getD_eq_getElem?_getD, List.getElem?_eq_getElem hi] <;> rfl⟩
        refine set_update_ints ((Walks.list ih3 _ l hn1 xs).toS) s.heap.objs.size n2 ns sz ib val (xs.size - 0) 0 _ (by omega) (Nat.zero_le _) ⟨⟨_, Heap.get?_push_size _ rfl, rfl, rfl⟩, (il1.push _)⟩ ?ga ?gb
        case ga => exact ⟨0, Nat.le_refl 0, setR_new_at (Heap.get?_push_of_some _ at1)⟩
        case gb =>
          rintro ⟨g, gs, dr, tk, ow⟩ c hm hc hS
          obtain rfl : gs = s.gens := hm.gens
          obtain rfl : dr = s.drawn := hm.drawn
          obtain rfl : ow = s.os := hm.os
          change wpAny _ _ _ _ _ _
          refine wpAny_pure ?_
          change wpAny _ _ (ret Value.none) _ _ _
          refine wpAny_pure ⟨rfl, g, tk, c, rfl, hS, by omega, fun b o e => ?_⟩
          have hb := Heap.lt_size e
          refine hm.heap b o ?_ (Heap.get?_push_of_some _ (Heap.get?_push_of_some _ e))
          simp only [List.mem_cons, List.not_mem_nil, or_false, not_or, z1]
          exact ⟨Nat.ne_of_lt hb, Nat.ne_of_lt (Nat.lt_succ_of_lt hb)⟩
      · cases r2 with
        | error e => exact hr2
        | ok fl2 =>
          cases fl2 with
          | ret r =>
            obtain ⟨rfl, g, tk, c, rfl, hS, hc, hk⟩ := hr2
            repeat (any_goals (first | assumption | wp_step))
            exact go _ _ _ hS hc hk
          | _ => exact hr2.elim
    | _ => exact hr.elim
end
end Mi

namespace Mi
open PySem PySem.Spec PyProof.Rows L2 Evl My
section
variable {X : L2.Cx}
def tSortSet (K : PySem.W.Frag) (ta : TE) : TE := fun σ H Q => ta σ H fun x H1 => ∃ (l : Addr) (ns : List Int), x = V.ref l ∧ SqL K H1 l (ns.map V.int) ∧ ns.length < 64 ∧
  ∀ (ms : List Int) (p : Addr), ms.Pairwise (· < ·) → (∀ k : Int, k ∈ ms ↔ k ∈ ns) → H1 p = none → Q (.ref p) (upd H1 p (.lst (ms.map V.int)))
theorem pe_sortSet (K : PySem.W.Frag) {a : Expr} {ta : TE} {p p2 q pos : Pos} (hc : X.calm = true) (hm : X.mg "sorted" = none) (hm2 : X.mg "set" = none) (ha : PE X a ta) (hg : Gl X "sorted" := by rfl) (hg2 : Gl X "set" := by rfl)
    (na : starEach [a] X.env = (false, eval a X.env) :: starEach [] X.env := by rfl) (hK : X.K = K := by rfl) : PE X (.Call (.Name "sorted" p) [.Call (.Name "set" p2) [a] [] q] [] pos) (tSortSet K ta) := by
  subst hK
  refine ⟨fun pins s σ H Q I h => ?_⟩
  refine Call_ (ld_blt I hg hm (u := .builtin "sorted") (by decide +kernel) ?_)
  refine PyProof.Rows.callWith_builtin1 (PyProof.Rows.args_cons ?_ rfl) rfl rfl
  refine Call_ (ld_blt I hg2 hm2 PyProof.Rows.boot_set ?_)
  refine PyProof.Rows.callWith_type1 (PyProof.Rows.args_cons (thn (ha.run pins s σ H _ I h) fun v s1 ⟨x, H1, I1, r1, q1⟩ => PyProof.Rows.args_nil ?_) na) na rfl
  obtain ⟨l, ns, rfl, hq, hz, q1⟩ := q1
  cases r1
  obtain ⟨its, r, pl, hlen⟩ := I1.list hq
  refine set_of_list ns (I1.ok.hd hc) pl.isList (by simpa using r.ints) (by unfold scanBound; omega) fun g tk c hS hcn hk => ?_
  refine PyProof.Rows.args_nil ?_
  have I2 : Inv X pins σ H1 { s1 with heap := g, toks := tk } := I1.kept hk
  refine sorted_set hS (I2.ok.hd hc) (by omega) fun s' p out c2 ms k gg o hp hgp hi hs hmem hl => ?_
  have hlz : (ms.map V.int).length ≤ sizeLine := by rw [List.length_map, hl, sizeLine_eq]; omega
  have hn : H1 p = none := I2.hok.fresh hp
  have J : Inv X pins σ (upd H1 p (.lst (ms.map V.int))) { ({ s1 with heap := g, toks := tk } : Shared) with heap := s'.heap, gens := s'.gens, drawn := s'.drawn, toks := s'.toks } :=
    I2.call (ch := []) (Un.laid k hp hn) (I2.hok.laid k hp ⟨hlz, out.toList, c2, vals_of_ints hi, hgp⟩) (by rw [gg]; exact I2.bare) (fun _ z => nomatch z)
  have es : s' = { ({ s1 with heap := g, toks := tk } : Shared) with heap := s'.heap, gens := s'.gens, drawn := s'.drawn, toks := s'.toks } := by
    cases s'
    cases o
    rfl
  rw [es]
  exact ⟨.ref p, _, J, rfl, q1 ms p hs (fun j => by rw [hmem]; simp) hn⟩
end
/-! ### .. as a function of a store -/
def insU (k : Int) : List Int → List Int
  | [] => [k]
  | x :: r => if k < x then k :: x :: r else if k = x then x :: r else x :: insU k r
def sortU : List Int → List Int
  | [] => []
  | k :: r => insU k (sortU r)
theorem insU_mem {k j : Int} : ∀ {l : List Int}, j ∈ insU k l ↔ j = k ∨ j ∈ l
  | [] => by simp [insU]
  | x :: r => by
    unfold insU
    split
    · simp
    · split
      · rename_i h
        subst h
        simp
      · rw [List.mem_cons, insU_mem, List.mem_cons]
        constructor
        · rintro (h | h | h) <;> simp [h]
        · rintro (h | h | h) <;> simp [h]
theorem insU_srt {k : Int} : ∀ {l : List Int}, l.Pairwise (· < ·) → (insU k l).Pairwise (· < ·)
  | [], _ => by simp [insU]
  | x :: r, h => by
    obtain ⟨h1, h2⟩ := List.pairwise_cons.mp h
    unfold insU
    split
    · rename_i hk
      refine List.pairwise_cons.mpr ⟨fun y hy => ?_, h⟩
      rcases List.mem_cons.mp hy with rfl | hy
      · exact hk
      · exact Int.lt_trans hk (h1 y hy)
    · split
      · exact h
      · refine List.pairwise_cons.mpr ⟨fun y hy => ?_, insU_srt h2⟩
        rcases insU_mem.mp hy with rfl | hy
        · omega
        · exact h1 y hy
theorem sortU_mem {j : Int} : ∀ {l : List Int}, j ∈ sortU l ↔ j ∈ l
  | [] => Iff.rfl
  | k :: r => by rw [sortU, insU_mem, sortU_mem, List.mem_cons]
theorem sortU_srt : ∀ {l : List Int}, (sortU l).Pairwise (· < ·)
  | [] => .nil
  | _ :: _ => insU_srt sortU_srt
theorem srt_uniq : ∀ {xs ys : List Int}, xs.Pairwise (· < ·) → ys.Pairwise (· < ·) → (∀ k, k ∈ xs ↔ k ∈ ys) → xs = ys
  | [], [], _, _, _ => rfl
  | [], y :: s, _, _, h => absurd ((h y).mpr List.mem_cons_self) (by simp)
  | x :: r, [], _, _, h => absurd ((h x).mp List.mem_cons_self) (by simp)
  | x :: r, y :: s, h1, h2, h => by
    obtain ⟨a1, a2⟩ := List.pairwise_cons.mp h1
    obtain ⟨b1, b2⟩ := List.pairwise_cons.mp h2
    have e : x = y := by
      rcases List.mem_cons.mp ((h x).mp List.mem_cons_self) with e | e
      · exact e
      · rcases List.mem_cons.mp ((h y).mpr List.mem_cons_self) with e' | e'
        · exact e'.symm
        · have := b1 x e
          have := a1 y e'
          omega
    subst e
    rw [srt_uniq a2 b2 fun k => ?_]
    constructor
    · intro hk
      rcases List.mem_cons.mp ((h k).mp (List.mem_cons_of_mem _ hk)) with e | e
      · have := a1 k hk
        omega
      · exact e
    · intro hk
      rcases List.mem_cons.mp ((h k).mpr (List.mem_cons_of_mem _ hk)) with e | e
      · have := b1 k hk
        omega
      · exact e
theorem sortU_id {l : List Int} (h : l.Pairwise (· < ·)) : sortU l = l := srt_uniq sortU_srt h fun _ => sortU_mem
def xSortSet (fa : Env → Sto → R D) : Env → Sto → R D := fun env S => (fa env S).bind fun x S1 => match x with
  | .ref l => match (rdL S1 l).bind intsOf with
    | some ns => if ns.length < 64 then .ok (.ref S1.length) (S1 ++ [.lst ((sortU ns).map .int)]) else .bad
    | none => .bad
  | _ => .bad
section
variable {K : PySem.W.Frag} {W : Wc K}
theorem imp_sortSet {ta : TE} {fa : Env → Sto → R D} (ha : Imp K W (vr K) ta fa) : Imp K W (vr K) (tSortSet K ta) (xSortSet fa) :=
  imp_bind (tb := fun (x : V) _ H1 (Q : VK) => ∃ (l : Addr) (ns : List Int), x = V.ref l ∧ SqL K H1 l (ns.map V.int) ∧ ns.length < 64 ∧
    ∀ (ms : List Int) (p : Addr), ms.Pairwise (· < ·) → (∀ k : Int, k ∈ ms ↔ k ∈ ns) → H1 p = none → Q (.ref p) (upd H1 p (.lst (ms.map V.int)))) ha fun φ S H env σ x v rl e hv Q p => by
    split at p
    · split at p
      · rename_i l _ ns hi
        split at p
        · rename_i hz
          obtain ⟨xs, h1, h2⟩ := Option.bind_eq_some_iff.mp hi
          obtain ⟨_, rfl⟩ := hv.ref_inv
          obtain ⟨ws, w1, w2⟩ := rl.rd h1
          rw [intsOf_inv h2] at w2
          rw [w2.ints_inv] at w1
          refine ⟨_, ns, rfl, w1, hz, fun ms q hs hm hq => ?_⟩
          rw [srt_uniq hs (sortU_srt (l := ns)) fun k => (hm k).trans sortU_mem.symm]
          exact p.new rl hq (or_lst hq (VRs.ints _))
        · exact p.elim
      · exact p.elim
    · exact p.elim
theorem xSortSet_wp {fa : Env → Sto → R D} {env : Env} {S : Sto} : xSortSet fa env S = (fa env S).bind fun x S1 => match x with
  | .ref l => match (rdL S1 l).bind intsOf with
    | some ns => if ns.length < 64 then allo (.lst ((sortU ns).map .int)) S1 else .bad
    | none => .bad
  | _ => .bad := rfl
end
end Mi

namespace Mi
open PySem PySem.Spec PyProof.Rows L2 Evl My
/-! ### range(i, j, -1) -/
def dwnD (i : Int) (n : Nat) : List D := (List.range n).map fun (k : Nat) => .int (i - (k : Int))
theorem dwnD_len {i : Int} {n : Nat} : (dwnD i n).length = n := by simp [dwnD]
theorem dwnD_get {i : Int} {n k : Nat} {x : D} (h : (dwnD i n)[k]? = some x) : k < n ∧ x = .int (i - (k : Int)) := by
  have hk : k < n := by
    have := (List.getElem?_eq_some_iff.mp h).1
    rwa [dwnD_len] at this
  refine ⟨hk, ?_⟩
  unfold dwnD at h
  rw [List.getElem?_map, List.getElem?_range hk] at h
  exact (Option.some.inj h).symm
open Classical in
noncomputable def iR3 (fa : Env → Sto → R (List D)) : Env → Sto → R Itx := fun env S => (fa env S).bind fun ds S1 => match ds with
  | [.int i, .int j, .int c] => if c = -1 ∧ RngOk i ∧ RngOk j then .ok ⟨dwnD i (i - j).toNat, fun _ => True⟩ S1 else .bad
  | _ => .bad
section
variable {K : PySem.W.Frag} {W : Wc K} {φ : Nat → Addr} {n : Nat} {H : Hp}
theorem VRs.three_inv {x y z : D} {vs : List V} (h : VRs K φ n H [x, y, z] vs) : ∃ u v w, vs = [u, v, w] ∧ VR K φ n H x u ∧ VR K φ n H y v ∧ VR K φ n H z w := by
  cases h with
  | cons h1 h =>
    obtain ⟨v, w, rfl, h2, h3⟩ := h.two_inv
    exact ⟨_, v, w, rfl, h1, h2, h3⟩
theorem itr_dwn {i : Int} {k : Nat} : itr K φ n H ⟨dwnD i k, fun _ => True⟩ (Itc i (-1) k) := fun φ1 S1 H1 f r1 _ => ⟨fun j x hx => by
    obtain ⟨hj, rfl⟩ := dwnD_get hx
    refine ⟨hj, fun v H2 y => ?_⟩
    obtain ⟨rfl, rfl⟩ := y
    refine ⟨Ex.refl _, ?_⟩
    rw [show i + (j : Int) * (-1) = i - (j : Int) by omega]
    exact VR.int _, by
    show k ≤ (dwnD i k).length
    rw [dwnD_len]
    exact Nat.le_refl _⟩
theorem imp_iR3 {ta : TA} {fa : Env → Sto → R (List D)} (ha : Imp K W (vrs K) ta fa) : Imp K W (itr K) (iRng3 ta) (iR3 fa) :=
  imp_bind (tb := fun (vs : List V) _ H (Q : It → Hp → Prop) => ∃ (i j c : Int) (n : Nat), vs = [.int i, .int j, .int c] ∧ RgC i j c n ∧ Q (Itc i c n) H) ha fun φ S H env σ x v rl e hv Q p => by
    split at p
    · rename_i i j c
      obtain ⟨u1, u2, u3, rfl, g1, g2, g3⟩ := hv.three_inv
      cases g1; cases g2; cases g3
      split at p
      · rename_i hb
        obtain ⟨rfl, hi, hj⟩ := hb
        exact ⟨i, j, -1, _, rfl, RgC.neg hi.1 hi.2 hj.1 hj.2, p.here rl itr_dwn⟩
      · exact p.elim
    · exact p.elim
end
end Mi

namespace Mi
open PySem PySem.Spec PyProof.Rows L2 Evl My
/-! ### lists of ints: equal or not, how many different ones, parts -/
theorem ints_sh (as : List Int) : SeqAt.shaped (.list (as.map PyData.int)) = true := by
  have : ∀ l : List Int, PyData.canLayAll0 (l.map PyData.int) = true ∧ PyData.depthAll (l.map PyData.int) = 0 := fun l => by
    induction l with
    | nil => simp [PyData.canLayAll0, PyData.depthAll]
    | cons i l ih => simp [PyData.canLayAll0, PyData.depthAll, PyData.canLay0, PyData.depth, ih]
  obtain ⟨h1, h2⟩ := this as
  unfold SeqAt.shaped
  rw [PyData.canLay0, PyData.depth, h1, h2]
  decide
theorem ints_eqv (as bs : List Int) : PyData.eqv (.list (as.map PyData.int)) (.list (bs.map PyData.int)) = decide (as = bs) := by
  have : ∀ as bs : List Int, PyData.eqvAll (as.map PyData.int) (bs.map PyData.int) = decide (as = bs) := fun as => by
    induction as with
    | nil => intro bs; cases bs <;> simp [PyData.eqvAll]
    | cons i l ih =>
      intro bs
      cases bs with
      | nil => simp [PyData.eqvAll]
      | cons j r =>
        rw [List.map_cons, List.map_cons, PyData.eqvAll, ih, Bool.eq_iff_iff]
        simp [PyData.eqv]
  rw [PyData.eqv, this]
theorem DDs.ints {S : Sto} : ∀ as : List Int, DDs S (as.map .int) (as.map PyData.int)
  | [] => .nil
  | i :: r => .cons (.int i) (DDs.ints r)
theorem oEqD_ints {S : Sto} {neg : Bool} {l m : Nat} {as bs : List Int} (h : rdL S l = some (as.map .int)) (g : rdL S m = some (bs.map .int)) : oEqD neg (.ref l) (.ref m) S = .ok (.bl (if neg = true then !decide (as = bs) else decide (as = bs))) S := by
  rw [oEqD_eq (.lst h (DDs.ints as)) (.lst g (DDs.ints bs)) (ints_sh _) (ints_sh _), ints_eqv]
theorem dedup_snoc {l : List Int} {x : Int} : dedupL (l ++ [x]) = if x ∈ dedupL l then dedupL l else dedupL l ++ [x] := by
  unfold dedupL
  rw [List.foldl_append]
  simp [step_dedup]
theorem dedup_mem {k : Int} : ∀ {l : List Int}, k ∈ dedupL l ↔ k ∈ l := fun {l} => by
  have : ∀ m : List Int, k ∈ dedupL m.reverse ↔ k ∈ m := fun m => by
    induction m with
    | nil => rfl
    | cons x r ih =>
      rw [List.reverse_cons, dedup_snoc]
      by_cases h : x ∈ dedupL r.reverse
      · rw [if_pos h, ih, List.mem_cons]
        constructor
        · exact .inr
        · rintro (rfl | h')
          · exact ih.mp h
          · exact h'
      · rw [if_neg h, List.mem_append, ih, List.mem_singleton, List.mem_cons, or_comm]
  have h := this l.reverse
  rwa [List.reverse_reverse, List.mem_reverse] at h
theorem dedup_nodup : ∀ {l : List Int}, (dedupL l).Nodup := fun {l} => by
  have : ∀ m : List Int, (dedupL m.reverse).Nodup := fun m => by
    induction m with
    | nil => exact List.nodup_nil
    | cons x r ih =>
      rw [List.reverse_cons, dedup_snoc]
      by_cases h : x ∈ dedupL r.reverse
      · rw [if_pos h]; exact ih
      · rw [if_neg h]
        exact List.nodup_append.mpr ⟨ih, by simp, fun a ha b hb => by
          have : b = x := by simpa using hb
          subst this
          intro e
          subst e
          exact h ha⟩
  have h := this l.reverse
  rwa [List.reverse_reverse] at h
/-- how many different ones -/
def cnt (l : List Int) : Nat := (dedupL l).length
theorem cnt_uniq {s l : List Int} (h : s.Nodup) (m : ∀ k, k ∈ s ↔ k ∈ l) : s.length = cnt l :=
  ((List.perm_ext_iff_of_nodup h dedup_nodup).mpr fun k => (m k).trans dedup_mem.symm).length_eq
theorem cnt_mono {l l' : List Int} (h : ∀ k, k ∈ l → k ∈ l') : cnt l ≤ cnt l' := by
  have : ∀ (a b : List Int), a.Nodup → (∀ k, k ∈ a → k ∈ b) → a.length ≤ b.length := fun a => by
    induction a with
    | nil => intro b _ _; simp
    | cons x r ih =>
      intro b hn hs
      obtain ⟨h1, h2⟩ := List.nodup_cons.mp hn
      have hx := hs x List.mem_cons_self
      have := ih (b.erase x) h2 fun k hk => (List.mem_erase_of_ne fun e => h1 (by rw [← e]; exact hk)).mpr (hs k (List.mem_cons_of_mem _ hk))
      rw [List.length_erase_of_mem hx] at this
      have := List.length_pos_of_mem hx
      rw [List.length_cons]
      omega
  exact this _ _ dedup_nodup fun k hk => dedup_mem.mpr (h k (dedup_mem.mp hk))
theorem cnt_congr {l l' : List Int} (h : ∀ k, k ∈ l ↔ k ∈ l') : cnt l = cnt l' := Nat.le_antisymm (cnt_mono fun k => (h k).mp) (cnt_mono fun k => (h k).mpr)
theorem cnt_snoc {l : List Int} {x : Int} : cnt (l ++ [x]) = if x ∈ l then cnt l else cnt l + 1 := by
  unfold cnt
  rw [dedup_snoc]
  by_cases h : x ∈ l
  · rw [if_pos h, if_pos (dedup_mem.mpr h)]
  · rw [if_neg h, if_neg (fun z => h (dedup_mem.mp z)), List.length_append]
    rfl
theorem cnt_nil : cnt [] = 0 := rfl
theorem cnt_le {l : List Int} : cnt l ≤ l.length := dedup_len l
/-- the part from a to b -/
def sl (ns : List Int) (a b : Nat) : List Int := (ns.drop a).take (b - a)
theorem sl_get {ns : List Int} {a b j : Nat} : (sl ns a b)[j]? = if j < b - a then ns[a + j]? else none := by
  unfold sl
  rw [List.getElem?_take, List.getElem?_drop]
theorem mem_sl {ns : List Int} {a b : Nat} {k : Int} : k ∈ sl ns a b ↔ ∃ i, a ≤ i ∧ i < b ∧ ns[i]? = some k := by
  rw [List.mem_iff_getElem?]
  constructor
  · rintro ⟨j, hj⟩
    rw [sl_get] at hj
    split at hj
    · exact ⟨a + j, by omega, by omega, hj⟩
    · cases hj
  · rintro ⟨i, h1, h2, h3⟩
    refine ⟨i - a, ?_⟩
    rw [sl_get, if_pos (by omega), show a + (i - a) = i by omega]
    exact h3
theorem sl_snoc {ns : List Int} {a i : Nat} {x : Int} (h : a ≤ i) (e : ns[i]? = some x) : sl ns a (i + 1) = sl ns a i ++ [x] := by
  unfold sl
  rw [show i + 1 - a = (i - a) + 1 by omega, List.take_succ, List.getElem?_drop, show a + (i - a) = i by omega, e]
  rfl
theorem sl_self {ns : List Int} {a : Nat} : sl ns a a = [] := by simp [sl]
theorem sl_len {ns : List Int} {a b : Nat} (hb : b ≤ ns.length) : (sl ns a b).length = b - a := by
  unfold sl
  rw [List.length_take, List.length_drop]
  omega
theorem cnt_sl_mono {ns : List Int} {a b a' b' : Nat} (h1 : a' ≤ a) (h2 : b ≤ b') : cnt (sl ns a b) ≤ cnt (sl ns a' b') := cnt_mono fun k hk => by
  obtain ⟨i, q1, q2, q3⟩ := mem_sl.mp hk
  exact mem_sl.mpr ⟨i, by omega, by omega, q3⟩
theorem cut_sl {ns : List Int} {a b : Nat} (ha : a ≤ b) (hb : b ≤ ns.length) : cutX (ns.map D.int) (some (a : Int)) (some (b : Int)) = (sl ns a b).map D.int := by
  unfold cutX sl
  rw [HT.sIx_nat, HT.sIx_nat, List.length_map, Nat.min_eq_left (by omega), Nat.min_eq_left (by omega), List.map_take, List.map_drop]
theorem cut_from {ns : List Int} {a : Nat} (ha : a ≤ ns.length) : cutX (ns.map D.int) (some (a : Int)) none = (ns.drop a).map D.int := by
  unfold cutX
  rw [HT.sIx_nat, HT.sIx_none, List.length_map, Nat.min_eq_left ha, List.map_drop, List.take_of_length_le (by simp)]
theorem atI_int {ns : List Int} {i : Int} {x : Int} (h0 : 0 ≤ i) (h : ns[i.toNat]? = some x) : atI (ns.map D.int) i = some (.int x) := atI_of h0 (by rw [List.getElem?_map, h]; rfl)
end Mi

namespace Mi
open PySem PySem.Spec PyProof.Rows L2 Evl My
/-! ### a list that the chunks tell -/
section
variable {As Bs : List Asn} {A : Asn} {l : Nat} {xs : List D} {S : Sto}
def Rd (As : List Asn) (l : Nat) (xs : List D) : Prop := ∀ S, Hs As S → rdL S l = some xs
theorem Rd.pt (i : Nat) (e : As[i]? = some (pt l (.lst xs)) := by rfl) : Rd As l xs := fun _ h => h.rp i e
theorem Rd.rl (i : Nat) (e : As[i]? = some (rl l xs) := by rfl) : Rd As l xs := fun _ h => h.rd i e
theorem Rd.cons (h : Rd As l xs) : Rd (A :: As) l xs := fun S q => h S q.drop
theorem Hs.left (h : Hs (As ++ Bs) S) : Hs As S := by
  have := h.swap
  clear h
  induction Bs with
  | nil => exact this
  | cons B Bs ih => exact ih this.drop
theorem Rd.app (h : Rd As l xs) : Rd (As ++ Bs) l xs := fun S q => h S q.left
/-- a condition that is told by a name -/
theorem Ok.name {α : Type} {r : R α} {P : α → Sto → Prop} (h : Ok r P) : ∃ a S', r = .ok a S' ∧ P a S' := h.ex
variable {env0 env : Env}
/-- a comprehension, by a word about the items so far -/
theorem wpe_compQ {K : Cn D} {ok : Sto → Prop} {fg : XG} {ft : Env → Sto → R Bool} {fe : Env → Sto → R D} {items : List D} (I : Nat → List D → Prop) (h : Hs As S) (start : I 0 []) (hok : ∀ Bs S', Hs (As ++ Bs) S' → ok S')
    (turn : ∀ i x acc Bs S', items[i]? = some x → I i acc → Hs (As ++ Bs) S' → wpe (K := ⟨fun e1 S1 => wpe (K := ⟨fun b S2 => if b = true then wpe (K := ⟨fun y S3 => I (i + 1) (acc ++ [y]) ∧ Hs (As ++ Bs) S3, noX⟩) (fe e1 S2) else I (i + 1) acc ∧ Hs (As ++ Bs) S2, noX⟩) (ft e1 S1), noX⟩) (fg x env0 S'))
    (hl : items.length ≤ 100000) (k : ∀ l S' acc, I items.length acc → acc.length ≤ items.length → Hs (pt l (.lst acc) :: As) S' → K.k (.ref l) S') : wpe (compX ok fg ft fe env0 S.length items (S ++ [.lst []])) := by
  generalize hm : S.length = l
  have h0 : Hs (Mi.pt l (.lst []) :: As) (S ++ [.lst []]) := by subst hm; exact h.new
  have sw : ∀ {acc : List D} {S : Sto}, Hs (Mi.pt l (.lst acc) :: As) S → Hs (As ++ [Mi.pt l (.lst acc)]) S := fun {acc S} h => Hs.swap (As := [Mi.pt l (.lst acc)]) (Bs := As) h
  have ws : ∀ {acc : List D} {S : Sto}, Hs (As ++ [Mi.pt l (.lst acc)]) S → Hs (Mi.pt l (.lst acc) :: As) S := fun {acc S} h => Hs.swap (As := As) (Bs := [Mi.pt l (.lst acc)]) h
  refine comp_go (fun i acc S => Hs (Mi.pt l (.lst acc) :: As) S ∧ I i acc ∧ acc.length ≤ i ∧ i ≤ items.length) (fun i acc S q => ⟨hok _ S (sw q.1), q.1.at0⟩) items 0 [] _ (fun i x acc S hx ⟨h, e, ha, hi⟩ => ?_) (fun acc S ⟨h, e, ha, _⟩ => k l S acc (by rw [Nat.zero_add] at e; exact e) (by omega) h) ⟨h0, start, Nat.le_refl _, Nat.zero_le _⟩
  have hlt := (List.getElem?_eq_some_iff.mp hx).1
  rw [Nat.zero_add] at e ha ⊢
  have t := turn i x acc _ S hx e (sw h)
  cases hg : fg x env0 S with
  | ok e1 S1 =>
    rw [hg] at t
    change wpe (K := ⟨fun b S2 => if b = true then wpe (K := ⟨fun y S3 => I (i + 1) (acc ++ [y]) ∧ Hs (As ++ [Mi.pt l (.lst acc)]) S3, noX⟩) (fe e1 S2) else I (i + 1) acc ∧ Hs (As ++ [Mi.pt l (.lst acc)]) S2, noX⟩) (ft e1 S1) at t
    show wpe (K := ⟨fun b S2 => if b = true then wpe (K := ⟨fun y S3 => at_ S3 l = some (.lst acc) ∧ acc.length < 100000 ∧ (Hs (Mi.pt l (.lst (acc ++ [y])) :: As) (S3.set l (.lst (acc ++ [y]))) ∧ I (i + 1) (acc ++ [y]) ∧ (acc ++ [y]).length ≤ i + 1 ∧ i + 1 ≤ items.length), noX⟩) (fe e1 S2) else (Hs (Mi.pt l (.lst acc) :: As) S2 ∧ I (i + 1) acc ∧ acc.length ≤ i + 1 ∧ i + 1 ≤ items.length), noX⟩) (ft e1 S1)
    cases ht : ft e1 S1 with
    | ok b S2 =>
      rw [ht] at t
      change (if b = true then wpe (K := ⟨fun y S3 => I (i + 1) (acc ++ [y]) ∧ Hs (As ++ [Mi.pt l (.lst acc)]) S3, noX⟩) (fe e1 S2) else I (i + 1) acc ∧ Hs (As ++ [Mi.pt l (.lst acc)]) S2) at t
      show (if b = true then _ else _)
      cases b with
      | false =>
        rw [if_neg (by simp)] at t ⊢
        exact ⟨ws t.2, t.1, by omega, by omega⟩
      | true =>
        rw [if_pos rfl] at t ⊢
        cases he : fe e1 S2 with
        | ok y S3 =>
          rw [he] at t
          obtain ⟨h1, h2⟩ : I (i + 1) (acc ++ [y]) ∧ Hs (As ++ [Mi.pt l (.lst acc)]) S3 := t
          exact ⟨(ws h2).at0, by omega, (ws h2).set, h1, by simp; omega, by omega⟩
        | exc c fs S1 => rw [he] at t; exact t.elim
        | bad => rw [he] at t; exact t.elim
    | exc c fs S1 => rw [ht] at t; exact t.elim
    | bad => rw [ht] at t; exact t.elim
  | exc c fs S1 => rw [hg] at t; exact t.elim
  | bad => rw [hg] at t; exact t.elim
/-- all that comes are ints -/
def AllInt (ys : List D) : Prop := ∃ xs : List Int, ys = xs.map .int
theorem AllInt.snoc {ys : List D} {i : Int} (h : AllInt ys) : AllInt (ys ++ [.int i]) := by
  obtain ⟨xs, rfl⟩ := h
  exact ⟨xs ++ [i], by simp⟩
theorem AllInt.nil : AllInt [] := ⟨[], rfl⟩
end
end Mi

namespace Law
open PySem PySem.Spec PyProof.Rows L2 Evl My
def top (i : Nat) : Stmt := PySem.Challenge.pw_lentpages_k24_phases.main.body.getD i (.Pass ⟨0, 0, 0, 0⟩)
abbrev s_working_set : Stmt := top 1
abbrev s_phases : Stmt := top 2
abbrev s_is_parting : Stmt := top 3
abbrev s_l_number : Stmt := top 5
abbrev s_l_is_whole : Stmt := top 6
abbrev s_l_same : Stmt := top 7
abbrev s_l_names : Stmt := top 8
abbrev s_l_trace : Stmt := top 9
abbrev s_l_different : Stmt := top 10
abbrev s_l_stretches : Stmt := top 11
abbrev s_l_fewest_stretches : Stmt := top 12
abbrev s_law : Stmt := top 13
def dd_working_set : He.DefD := ⟨("working_set", none), "working_set", "working_set", defArgs s_working_set, defBody s_working_set, defScope s_working_set, [], []⟩
def dd_phases : He.DefD := ⟨("phases", none), "phases", "phases", defArgs s_phases, defBody s_phases, defScope s_phases, [], []⟩
def dd_is_parting : He.DefD := ⟨("is_parting", none), "is_parting", "is_parting", defArgs s_is_parting, defBody s_is_parting, defScope s_is_parting, [], []⟩
def dd_l_number : He.DefD := ⟨("_law_number", none), "_law_number", "_law_number", defArgs s_l_number, defBody s_l_number, defScope s_l_number, [], []⟩
def dd_l_is_whole : He.DefD := ⟨("_law_is_whole", none), "_law_is_whole", "_law_is_whole", defArgs s_l_is_whole, defBody s_l_is_whole, defScope s_l_is_whole, [], []⟩
def dd_l_same : He.DefD := ⟨("_law_same", none), "_law_same", "_law_same", defArgs s_l_same, defBody s_l_same, defScope s_l_same, [], []⟩
def dd_l_names : He.DefD := ⟨("_law_names", none), "_law_names", "_law_names", defArgs s_l_names, defBody s_l_names, defScope s_l_names, [], []⟩
def dd_l_trace : He.DefD := ⟨("_law_trace", none), "_law_trace", "_law_trace", defArgs s_l_trace, defBody s_l_trace, defScope s_l_trace, [], []⟩
def dd_l_different : He.DefD := ⟨("_law_different", none), "_law_different", "_law_different", defArgs s_l_different, defBody s_l_different, defScope s_l_different, [], []⟩
def dd_l_stretches : He.DefD := ⟨("_law_stretches", none), "_law_stretches", "_law_stretches", defArgs s_l_stretches, defBody s_l_stretches, defScope s_l_stretches, [], []⟩
def dd_l_fewest_stretches : He.DefD := ⟨("_law_fewest_stretches", none), "_law_fewest_stretches", "_law_fewest_stretches", defArgs s_l_fewest_stretches, defBody s_l_fewest_stretches, defScope s_l_fewest_stretches, [], []⟩
def dd_law : He.DefD := ⟨("law", none), "law", "law", defArgs s_law, defBody s_law, defScope s_law, [], []⟩
def fns : List He.DefD := [dd_working_set, dd_phases, dd_is_parting, dd_l_number, dd_l_is_whole, dd_l_same, dd_l_names, dd_l_trace, dd_l_different, dd_l_stretches, dd_l_fewest_stretches, dd_law]
def fas : List He.Fa := [.free "len", .free "set", .free "range", .free "max", .free "enumerate", .free "zip", .free "sorted", .free "abs", .free "int", .free "isinstance", .free "bool", .free "str", .free "list", .free "tuple", .free "min", .glo "working_set", .glo "phases", .glo "is_parting", .glo "_law_number", .glo "_law_is_whole", .glo "_law_same", .glo "_law_names", .glo "_law_trace", .glo "_law_different", .glo "_law_stretches", .glo "_law_fewest_stretches", .glo "law"]
abbrev TX (K : PySem.W.Frag) (mg : Str → Option Value) : Prop := My.Tx fas fns K mg
section
variable {K : PySem.W.Frag} {mg : Str → Option Value}
theorem fr_len (T : TX K mg) : mg "len" = none := T.fre "len" (T.says.fact 0 rfl)
theorem fr_set (T : TX K mg) : mg "set" = none := T.fre "set" (T.says.fact 1 rfl)
theorem fr_range (T : TX K mg) : mg "range" = none := T.fre "range" (T.says.fact 2 rfl)
theorem fr_max (T : TX K mg) : mg "max" = none := T.fre "max" (T.says.fact 3 rfl)
theorem fr_enumerate (T : TX K mg) : mg "enumerate" = none := T.fre "enumerate" (T.says.fact 4 rfl)
theorem fr_zip (T : TX K mg) : mg "zip" = none := T.fre "zip" (T.says.fact 5 rfl)
theorem fr_sorted (T : TX K mg) : mg "sorted" = none := T.fre "sorted" (T.says.fact 6 rfl)
theorem fr_abs (T : TX K mg) : mg "abs" = none := T.fre "abs" (T.says.fact 7 rfl)
theorem fr_int (T : TX K mg) : mg "int" = none := T.fre "int" (T.says.fact 8 rfl)
theorem fr_isinstance (T : TX K mg) : mg "isinstance" = none := T.fre "isinstance" (T.says.fact 9 rfl)
theorem fr_bool (T : TX K mg) : mg "bool" = none := T.fre "bool" (T.says.fact 10 rfl)
theorem fr_str (T : TX K mg) : mg "str" = none := T.fre "str" (T.says.fact 11 rfl)
theorem fr_list (T : TX K mg) : mg "list" = none := T.fre "list" (T.says.fact 12 rfl)
theorem fr_tuple (T : TX K mg) : mg "tuple" = none := T.fre "tuple" (T.says.fact 13 rfl)
theorem fr_min (T : TX K mg) : mg "min" = none := T.fre "min" (T.says.fact 14 rfl)
theorem gl_working_set (T : TX K mg) : mg "working_set" = some (.ref (He.ga K "working_set")) := T.glo "working_set" (T.says.fact 15 rfl)
theorem gl_phases (T : TX K mg) : mg "phases" = some (.ref (He.ga K "phases")) := T.glo "phases" (T.says.fact 16 rfl)
theorem gl_is_parting (T : TX K mg) : mg "is_parting" = some (.ref (He.ga K "is_parting")) := T.glo "is_parting" (T.says.fact 17 rfl)
theorem gl_l_number (T : TX K mg) : mg "_law_number" = some (.ref (He.ga K "_law_number")) := T.glo "_law_number" (T.says.fact 18 rfl)
theorem gl_l_is_whole (T : TX K mg) : mg "_law_is_whole" = some (.ref (He.ga K "_law_is_whole")) := T.glo "_law_is_whole" (T.says.fact 19 rfl)
theorem gl_l_same (T : TX K mg) : mg "_law_same" = some (.ref (He.ga K "_law_same")) := T.glo "_law_same" (T.says.fact 20 rfl)
theorem gl_l_names (T : TX K mg) : mg "_law_names" = some (.ref (He.ga K "_law_names")) := T.glo "_law_names" (T.says.fact 21 rfl)
theorem gl_l_trace (T : TX K mg) : mg "_law_trace" = some (.ref (He.ga K "_law_trace")) := T.glo "_law_trace" (T.says.fact 22 rfl)
theorem gl_l_different (T : TX K mg) : mg "_law_different" = some (.ref (He.ga K "_law_different")) := T.glo "_law_different" (T.says.fact 23 rfl)
theorem gl_l_stretches (T : TX K mg) : mg "_law_stretches" = some (.ref (He.ga K "_law_stretches")) := T.glo "_law_stretches" (T.says.fact 24 rfl)
theorem gl_l_fewest_stretches (T : TX K mg) : mg "_law_fewest_stretches" = some (.ref (He.ga K "_law_fewest_stretches")) := T.glo "_law_fewest_stretches" (T.says.fact 25 rfl)
theorem gl_law (T : TX K mg) : mg "law" = some (.ref (He.ga K "law")) := T.glo "law" (T.says.fact 26 rfl)
theorem fd_working_set (T : TX K mg) : ∃ fd, FunD K "working_set" "working_set" (defArgs s_working_set) (defBody s_working_set) (defScope s_working_set) [] [] (He.ga K "working_set") fd := T.says.def_ 0 (d := dd_working_set) rfl
theorem fd_phases (T : TX K mg) : ∃ fd, FunD K "phases" "phases" (defArgs s_phases) (defBody s_phases) (defScope s_phases) [] [] (He.ga K "phases") fd := T.says.def_ 1 (d := dd_phases) rfl
theorem fd_is_parting (T : TX K mg) : ∃ fd, FunD K "is_parting" "is_parting" (defArgs s_is_parting) (defBody s_is_parting) (defScope s_is_parting) [] [] (He.ga K "is_parting") fd := T.says.def_ 2 (d := dd_is_parting) rfl
theorem fd_l_number (T : TX K mg) : ∃ fd, FunD K "_law_number" "_law_number" (defArgs s_l_number) (defBody s_l_number) (defScope s_l_number) [] [] (He.ga K "_law_number") fd := T.says.def_ 3 (d := dd_l_number) rfl
theorem fd_l_is_whole (T : TX K mg) : ∃ fd, FunD K "_law_is_whole" "_law_is_whole" (defArgs s_l_is_whole) (defBody s_l_is_whole) (defScope s_l_is_whole) [] [] (He.ga K "_law_is_whole") fd := T.says.def_ 4 (d := dd_l_is_whole) rfl
theorem fd_l_same (T : TX K mg) : ∃ fd, FunD K "_law_same" "_law_same" (defArgs s_l_same) (defBody s_l_same) (defScope s_l_same) [] [] (He.ga K "_law_same") fd := T.says.def_ 5 (d := dd_l_same) rfl
theorem fd_l_names (T : TX K mg) : ∃ fd, FunD K "_law_names" "_law_names" (defArgs s_l_names) (defBody s_l_names) (defScope s_l_names) [] [] (He.ga K "_law_names") fd := T.says.def_ 6 (d := dd_l_names) rfl
theorem fd_l_trace (T : TX K mg) : ∃ fd, FunD K "_law_trace" "_law_trace" (defArgs s_l_trace) (defBody s_l_trace) (defScope s_l_trace) [] [] (He.ga K "_law_trace") fd := T.says.def_ 7 (d := dd_l_trace) rfl
theorem fd_l_different (T : TX K mg) : ∃ fd, FunD K "_law_different" "_law_different" (defArgs s_l_different) (defBody s_l_different) (defScope s_l_different) [] [] (He.ga K "_law_different") fd := T.says.def_ 8 (d := dd_l_different) rfl
theorem fd_l_stretches (T : TX K mg) : ∃ fd, FunD K "_law_stretches" "_law_stretches" (defArgs s_l_stretches) (defBody s_l_stretches) (defScope s_l_stretches) [] [] (He.ga K "_law_stretches") fd := T.says.def_ 9 (d := dd_l_stretches) rfl
theorem fd_l_fewest_stretches (T : TX K mg) : ∃ fd, FunD K "_law_fewest_stretches" "_law_fewest_stretches" (defArgs s_l_fewest_stretches) (defBody s_l_fewest_stretches) (defScope s_l_fewest_stretches) [] [] (He.ga K "_law_fewest_stretches") fd := T.says.def_ 10 (d := dd_l_fewest_stretches) rfl
theorem fd_law (T : TX K mg) : ∃ fd, FunD K "law" "law" (defArgs s_law) (defBody s_law) (defScope s_law) [] [] (He.ga K "law") fd := T.says.def_ 11 (d := dd_law) rfl
end
/-! ### _law_number -/
def lnIt : Nat → Int → Int
  | 0, r => r
  | n + 1, r => lnIt n r / 1000
theorem lnIt_zero {n : Nat} {r : Int} (h : lnIt n r = 0) : ∀ m, n ≤ m → lnIt m r = 0 := fun m l => by
  induction l with
  | refl => exact h
  | step _ ih =>
    show lnIt _ r / 1000 = 0
    rw [ih]
    rfl
theorem lnIt_nn {r : Int} (h : 0 ≤ r) : ∀ n, 0 ≤ lnIt n r
  | 0 => h
  | n + 1 => by
    have := lnIt_nn h n
    show 0 ≤ lnIt n r / 1000
    omega
def lnAbs (i : Int) : Int := if i < 0 then -i else i
def lnCell (ns : List Int) (a : Int) : Int := if ns.length = 0 then 0 else lnAbs (ns.getD (a % (ns.length : Int)).toNat 0)
def lnTurn (ns : List Int) (a : Int) : Int := if ns.length = 0 then a else a / (ns.length : Int)
def lnEnd (m p sz : Int) : Int :=
  let m1 := (m + 7919 * p + 13) % 2147483647
  let m2 := (m1 * (m1 + 48271)) % 2147483629
  let m3 := (m2 * (m2 + 69621) + 31 * p) % 2147483647
  (m3 / 9) % sz
@[irreducible] def lawNum (ns : List Int) (a k sz : Int) : Int :=
  if 10 ^ 18 ≤ lnCell ns a ∧ 0 < lnIt (k + 16 * lnTurn ns a).toNat (lnCell ns a / 10 ^ 18) then (lnIt (k + 16 * lnTurn ns a).toNat (lnCell ns a / 10 ^ 18) % 1000) % sz
  else lnEnd (lnCell ns a) (k + 16 * lnTurn ns a) sz
theorem lawNum_nn (ns : List Int) (a k sz : Int) (h : 0 < sz) : 0 ≤ lawNum ns a k sz := by
  unfold lawNum lnEnd
  split <;> exact Int.emod_nonneg _ (by omega)
theorem lawNum_lt (ns : List Int) (a k sz : Int) (h : 0 < sz) : lawNum ns a k sz < sz := by
  unfold lawNum lnEnd
  split <;> exact Int.emod_lt_of_pos _ h
def NumOk (a k sz : Int) : Prop := -1000000 ≤ a ∧ a ≤ 1000000 ∧ -1000000 ≤ k ∧ k ≤ 1000000 ∧ 0 < sz
def spNum (K : PySem.W.Frag) : Sp := fun vs H Q _ => ∃ (s : Addr) (ns : List Int) (a k sz : Int), vs = [.ref s, .int a, .int k, .int sz] ∧ SqL K H s (ns.map V.int) ∧ ns.length ≤ 63 ∧ NumOk a k sz ∧ RetV (.int (lawNum ns a k sz)) H Q
theorem sv_num {K : PySem.W.Frag} {H : Hp} {s : Addr} {ns : List Int} {a k sz : Int} (h : SqL K H s (ns.map V.int)) (hl : ns.length ≤ 63) (ok : NumOk a k sz) : SpV (spNum K) [.ref s, .int a, .int k, .int sz] H (.int (lawNum ns a k sz)) :=
  fun H1 e Q q E => ⟨s, ns, a, k, sz, rfl, ex_l e h, hl, ok, q⟩
section
variable {P : Program} {w : World} {K : PySem.W.Frag} {mg : Str → Option Value} {base : Heap}
theorem ev_cellAt {ns : List Int} {s : Addr} {σ : L2.St} {H : Hp} {ta tb : TE} {i : Int} (ha : Ev ta σ H (.ref s)) (hb : Ev tb σ H (.int i)) (h : SqL K H s (ns.map V.int)) (h0 : 0 ≤ i) (h1 : i < (ns.length : Int)) : Ev (tOp (rIxL K) ta tb) σ H (.int (ns.getD i.toNat 0)) := by
  have e : ((i.toNat : Nat) : Int) = i := Int.toNat_of_nonneg h0
  have l : i.toNat < ns.length := by omega
  refine ev_op ha hb (rv_ixL h ?_)
  rw [← e]
  refine atI_nat ?_
  rw [Int.toNat_natCast, List.getElem?_map, List.getElem?_eq_getElem l, List.getD_eq_getElem?_getD, List.getElem?_eq_getElem l]
  rfl
theorem sc_l_number : FnScope ["_law_script", "_law_at", "_law_k", "_law_size", "_law_cell", "_law_turn", "_law_pick", "_law_rest", "_law_step", "_law_mixed"] ["_law_script", "_law_at", "_law_k", "_law_size"] (defScope s_l_number) := ⟨rfl, rfl, rfl, by decide +kernel, rfl, by decide +kernel, by decide +kernel⟩
theorem fn_l_number (T : TX K mg) : ∃ fd, FunD K "_law_number" "_law_number" (defArgs s_l_number) (defBody s_l_number) (defScope s_l_number) [] [] (He.ga K "_law_number") fd ∧ FnOk P w K mg base CX0 (1) (He.ga K "_law_number") fd ["_law_script", "_law_at", "_law_k", "_law_size"] (spNum K) := by
  obtain ⟨fd, F⟩ := fd_l_number T
  refine ⟨fd, F, My.FunD.ok0 F sc_l_number (fun vs H Q E h => ?_) (fun cdv A outer s0 H vs Q E hr h => ?_)⟩
  · obtain ⟨s, ns, a, k, sz, rfl, hS, hl, ok, hQ⟩ := h
    rfl
  obtain ⟨s, ns, a, k, sz, rfl, hS, hl, ok, hQ⟩ := h
  have hu := hu_of hr
  refine ⟨_, (pss_cons (ps_set (i := 4) sc_l_number.nd rfl (Or.inl rfl) pe_int)
      (pss_cons (ps_set (i := 5) sc_l_number.nd rfl (Or.inl rfl) (pv 1))
      (pss_cut (ps_if (pt_cmpR op_gt (pe_callB (lenQ K) (by rfl) (fr_len T) PySem.boot_len (pa_cons (pv 0) pa_nil)) pe_int (nomark _)) (pss_cons (ps_set (i := 4) sc_l_number.nd rfl (Or.inl rfl) (pe_callB call_abs (by rfl) (fr_abs T) (by decide +kernel) (pa_cons (pe_ix (ixL K) (pv 0) (pe_op op_mod (pe_callTy call_int1 (by rfl) (fr_int T) (by decide +kernel) (pa_cons (pv 1) pa_nil)) (pe_callB (lenQ K) (by rfl) (fr_len T) PySem.boot_len (pa_cons (pv 0) pa_nil))) (fun _ _ => rfl)) pa_nil)))
      (pss_one (ps_set (i := 5) sc_l_number.nd rfl (Or.inl rfl) (pe_op op_fdiv (pv 1) (pe_callB (lenQ K) (by rfl) (fr_len T) PySem.boot_len (pa_cons (pv 0) pa_nil)))))) pss_nil)
      (pss_cons (ps_set (i := 6) sc_l_number.nd rfl (Or.inl rfl) (pe_op op_add (pv 2) (pe_op op_mul pe_int (pv 5))))
      (pss_cut (ps_if (pt_cmpR op_ge (pv 4) (pe_op op_pow pe_int pe_int) (nomark _)) (pss_cons (ps_set (i := 7) sc_l_number.nd rfl (Or.inl rfl) (pe_op op_fdivW (pv 4) (pe_op op_pow pe_int pe_int)))
      (pss_cut (ps_for PassesOwn.never rfl (pi_range1 rfl (fr_range T) (pa_cons (pv 6) pa_nil)) (pg_name (i := 8) sc_l_number.nd rfl (Or.inl rfl)) (pss_cons (ps_if (pt_cmpR op_eq (pv 7) pe_int (nomark _)) (pss_one ps_break) pss_nil)
      (pss_one (ps_set (i := 7) sc_l_number.nd rfl (Or.inl rfl) (pe_op op_fdiv (pv 7) pe_int)))))
      (pss_one (ps_if (pt_cmpR op_gt (pv 7) pe_int (nomark _)) (pss_one (ps_ret (pe_op op_mod (pe_callTy call_int1 (by rfl) (fr_int T) (by decide +kernel) (pa_cons (pe_op op_mod (pe_callTy call_int1 (by rfl) (fr_int T) (by decide +kernel) (pa_cons (pv 7) pa_nil)) pe_int) pa_nil)) (pv 3)))) pss_nil)))) pss_nil)
      (pss_cons (ps_set (i := 9) sc_l_number.nd rfl (Or.inl rfl) (pe_op op_mod (pe_callTy call_int1 (by rfl) (fr_int T) (by decide +kernel) (pa_cons (pe_op op_add (pe_op op_add (pv 4) (pe_op op_mul pe_int (pv 6))) pe_int) pa_nil)) pe_int))
      (pss_cons (ps_set (i := 9) sc_l_number.nd rfl (Or.inl rfl) (pe_op op_mod (pe_callTy call_int1 (by rfl) (fr_int T) (by decide +kernel) (pa_cons (pe_op op_mul (pv 9) (pe_op op_add (pv 9) pe_int)) pa_nil)) pe_int))
      (pss_cons (ps_set (i := 9) sc_l_number.nd rfl (Or.inl rfl) (pe_op op_mod (pe_callTy call_int1 (by rfl) (fr_int T) (by decide +kernel) (pa_cons (pe_op op_add (pe_op op_mul (pv 9) (pe_op op_add (pv 9) pe_int)) (pe_op op_mul pe_int (pv 6))) pa_nil)) pe_int))
      (pss_one (ps_ret (pe_op op_mod (pe_callTy call_int1 (by rfl) (fr_int T) (by decide +kernel) (pa_cons (pe_op op_fdiv (pv 9) pe_int) pa_nil)) (pv 3)))))))))))), ?_⟩
  unfold NumOk at ok
  have hL : ((ns.map V.int).length : Int) = (ns.length : Int) := by rw [List.length_map]
  refine q_asg ev_c fun H1 e1 => ?_
  refine q_asg (ev_var rfl) fun H2 e2 => ?_
  have E2 := e1.trans e2
  -- if len(script) > 0
  refine q_cut (M := fun σ' H' => Ex H H' ∧ σ' = [some (.ref s), some (.int a), some (.int k), some (.int sz), some (.int (lnCell ns a)), some (.int (lnTurn ns a)), none, none, none, none])
    (s_if (et_test (ev_op (ev_cb (ea_cons (ev_var rfl) ea_nil) (rc_lenL (ex_l E2 hS))) ev_c rv_I0)) (fun hb H3 e3 => ?_) (fun hb H3 e3 => ?_)) (fun σ4 H4 hM => ?_)
  · have hp : (0 : Int) < (ns.length : Int) := by
      have := of_decide_eq_true hb
      rw [hL] at this
      exact this
    have E3 := E2.trans e3
    have hS3 := ex_l E3 hS
    have em := Int.emod_nonneg a (show (ns.length : Int) ≠ 0 by omega)
    have el := Int.emod_lt_of_pos a hp
    have nz : ¬ ns.length = 0 := by omega
    refine q_asg (ev_cb (ea_cons (ev_cellAt (ns := ns) (i := a % (ns.length : Int)) (ev_var rfl) (ev_is (ev_op (ev_cb (ea_cons (ev_var rfl) ea_nil) rc_int) (ev_cb (ea_cons (ev_var rfl) ea_nil) (rc_lenL hS3)) (rv_I (by rw [hL]; exact hp))) (by rw [hL])) hS3 em el) ea_nil) rc_abs) fun H4 e4 => ?_
    have hS4 := ex_l e4 hS3
    refine s_asg (ev_op (ev_var rfl) (ev_cb (ea_cons (ev_var rfl) ea_nil) (rc_lenL hS4)) (rv_I (by rw [hL]; exact ⟨hp, by omega⟩))) fun H5 e5 => ?_
    refine ⟨(E3.trans e4).trans e5, ?_⟩
    unfold lnCell lnTurn lnAbs
    rw [if_neg nz, if_neg nz, hL]
    rfl
  · have hp : ns.length = 0 := by
      have := of_decide_eq_false hb
      rw [hL] at this
      omega
    refine ⟨E2.trans e3, ?_⟩
    unfold lnCell lnTurn
    rw [if_pos hp, if_pos hp]
    rfl
  obtain ⟨E4, rfl⟩ := hM
  have hturn : -1000000 ≤ lnTurn ns a ∧ lnTurn ns a ≤ 1000000 := by
    unfold lnTurn
    split
    · omega
    · have hp : (0 : Int) < (ns.length : Int) := by omega
      refine ⟨?_, ?_⟩
      · rw [Int.le_ediv_iff_mul_le hp]
        omega
      · have h2 : a / (ns.length : Int) < 1000000 + 1 := by
          rw [Int.ediv_lt_iff_lt_mul hp]
          omega
        omega
  have hcell : 0 ≤ lnCell ns a := by
    unfold lnCell lnAbs
    split
    · exact Int.le_refl _
    · split <;> omega
  have hnum : lawNum ns a k sz = if 10 ^ 18 ≤ lnCell ns a ∧ 0 < lnIt (k + 16 * lnTurn ns a).toNat (lnCell ns a / 10 ^ 18) then (lnIt (k + 16 * lnTurn ns a).toNat (lnCell ns a / 10 ^ 18) % 1000) % sz
      else lnEnd (lnCell ns a) (k + 16 * lnTurn ns a) sz := by unfold lawNum; rfl
  rw [hnum] at hQ
  clear hnum
  generalize lnCell ns a = c at *
  generalize lnTurn ns a = tn at *
  refine q_asg (ev_op (ev_var rfl) (ev_op ev_c (ev_var rfl) (rv_I (Or.inl (by decide)))) rv_I0) fun H5 e5 => ?_
  have E5 := E4.trans e5
  have d18 : CPow 10 18 := by unfold CPow; decide
  have n18 : ((10 : Int) ^ (18 : Int).toNat) = 10 ^ 18 := rfl
  generalize hp : k + 16 * tn = p at *
  refine q_cut (M := fun σ' H' => Ex H H' ∧ (∃ o1 o2, σ' = [some (.ref s), some (.int a), some (.int k), some (.int sz), some (.int c), some (.int tn), some (.int p), o1, o2, none]) ∧ ¬ (10 ^ 18 ≤ c ∧ 0 < lnIt p.toNat (c / 10 ^ 18)))
    (s_if (et_test (ev_op (ev_var rfl) (ev_op ev_c ev_c (rv_I d18)) rv_I0)) (fun hb H6 e6 => ?_) (fun hb H6 e6 => ?_)) (fun σ7 H7 hM => ?_)
  · have hb' : (10 : Int) ^ 18 ≤ c := of_decide_eq_true hb
    have dw : CDivW c (10 ^ 18) := wide_div (b := 60) (by decide) (by decide) (by decide) (by decide)
    refine q_asg (ev_op (ev_var rfl) (ev_op ev_c ev_c (rv_I d18)) (rv_I dw)) fun H7 e7 => ?_
    have E7 := (E5.trans e6).trans e7
    refine q_forR1' (n := p) (ea_cons (ev_var rfl) ea_nil) (by omega) (fun i σ' H' => Ex H H' ∧ ∃ o, σ' = [some (.ref s), some (.int a), some (.int k), some (.int sz), some (.int c), some (.int tn), some (.int p), some (.int (lnIt i (c / 10 ^ 18))), o, none])
      (fun σ' H' => Ex H H' ∧ ∃ o, σ' = [some (.ref s), some (.int a), some (.int k), some (.int sz), some (.int c), some (.int tn), some (.int p), some (.int (lnIt p.toNat (c / 10 ^ 18))), o, none]) ?_ ?_ ?_ ?_
    · exact fun H8 e8 => ⟨E7.trans e8, _, rfl⟩
    · rintro i σ' H' hi ⟨E8, o, rfl⟩
      refine q_when (et_test (ev_op (ev_var rfl) ev_c (rv_eq rfl))) (fun hb H9 e9 => ?_) (fun hb H9 e9 => ?_)
      · refine ⟨E8.trans e9, some (.int (i : Int)), ?_⟩
        have hz : lnIt i (c / 10 ^ 18) = 0 := by
          have := of_decide_eq_true hb
          injection this
        rw [hz, lnIt_zero hz p.toNat (by omega)]
        rfl
      · exact s_asg (ev_op (ev_var rfl) ev_c (rv_I (by unfold CDiv; decide))) fun H10 e10 => ⟨(E8.trans e9).trans e10, _, rfl⟩
    · rintro σ' H' ⟨E8, o, rfl⟩
      exact ⟨E8, _, rfl⟩
    · rintro σ' H' ⟨E8, o, rfl⟩
      refine s_when (et_test (ev_op (ev_var rfl) ev_c rv_I0)) (fun hb H9 e9 => ?_) (fun hb H9 e9 => ?_)
      · have hr0 : (0 : Int) < lnIt p.toNat (c / 10 ^ 18) := of_decide_eq_true hb
        rw [if_pos ⟨hb', hr0⟩] at hQ
        refine s_ret (ev_op (ev_cb (ea_cons (ev_op (ev_cb (ea_cons (ev_var rfl) ea_nil) rc_int) ev_c (rv_I (by decide))) ea_nil) rc_int) (ev_var rfl) (rv_I ok.2.2.2.2)) fun H10 e10 => ?_
        exact hQ H10 ((E8.trans e9).trans e10)
      · have hr0 : ¬ (0 : Int) < lnIt p.toNat (c / 10 ^ 18) := of_decide_eq_false hb
        exact ⟨E8.trans e9, ⟨_, _, rfl⟩, fun z => hr0 z.2⟩
  · have hb' : ¬ (10 : Int) ^ 18 ≤ c := of_decide_eq_false hb
    exact ⟨E5.trans e6, ⟨_, _, rfl⟩, fun z => hb' z.1⟩
  obtain ⟨E7, ⟨o1, o2, rfl⟩, hn⟩ := hM
  rw [if_neg hn] at hQ
  unfold lnEnd at hQ
  dsimp only at hQ
  have a1 := Int.emod_nonneg (c + 7919 * p + 13) (show (2147483647 : Int) ≠ 0 by decide)
  have b1 := Int.emod_lt_of_pos (c + 7919 * p + 13) (show (0 : Int) < 2147483647 by decide)
  refine q_asg (ev_op (ev_cb (ea_cons (ev_op (ev_op (ev_var rfl) (ev_op ev_c (ev_var rfl) (rv_I (Or.inl (by decide)))) rv_I0) ev_c rv_I0) ea_nil) rc_int) ev_c (rv_I (by decide))) fun H8 e8 => ?_
  generalize (c + 7919 * p + 13) % 2147483647 = m1 at *
  have a2 := Int.emod_nonneg (m1 * (m1 + 48271)) (show (2147483629 : Int) ≠ 0 by decide)
  have b2 := Int.emod_lt_of_pos (m1 * (m1 + 48271)) (show (0 : Int) < 2147483629 by decide)
  refine q_asg (ev_op (ev_cb (ea_cons (ev_op (ev_var rfl) (ev_op (ev_var rfl) ev_c rv_I0) (rv_I (Or.inl (by constructor <;> omega)))) ea_nil) rc_int) ev_c (rv_I (by decide))) fun H9 e9 => ?_
  generalize (m1 * (m1 + 48271)) % 2147483629 = m2 at *
  refine q_asg (ev_op (ev_cb (ea_cons (ev_op (ev_op (ev_var rfl) (ev_op (ev_var rfl) ev_c rv_I0) (rv_I (Or.inl (by constructor <;> omega)))) (ev_op ev_c (ev_var rfl) (rv_I (Or.inl (by decide)))) rv_I0) ea_nil) rc_int) ev_c (rv_I (by decide))) fun H10 e10 => ?_
  refine s_ret (ev_op (ev_cb (ea_cons (ev_op (ev_var rfl) ev_c (rv_I (by unfold CDiv; decide))) ea_nil) rc_int) (ev_var rfl) (rv_I ok.2.2.2.2)) fun H11 e11 => ?_
  exact hQ H11 (((E7.trans e8).trans e9).trans (e10.trans e11))
theorem ok_l_number (T : TX K mg) : DefOk P w K mg base (1) "_law_number" ["_law_script", "_law_at", "_law_k", "_law_size"] [] (spNum K) := by
  obtain ⟨fd, F, h⟩ := fn_l_number (P := P) (w := w) (base := base) T
  exact DefOk.of F (gl_l_number T) (F.bindsN fun _ _ _ _ _ _ us hl => match us, hl with | [_, _, _, _], _ => rfl) h
/-! ### _law_is_whole, _law_same -/
def isInt (d : PyData) : Bool := isB "int" (tyN d) && !isB "bool" (tyN d)
def spWhole (K : PySem.W.Frag) : Sp := fun vs H Q _ => ∃ (v : V) (d : PyData), vs = [v] ∧ Dp K H v d ∧ RetV (.bl (isInt d)) H Q
theorem sv_whole {K : PySem.W.Frag} {H : Hp} {v : V} {d : PyData} (h : Dp K H v d) : SpV (spWhole K) [v] H (.bl (isInt d)) := fun H1 e Q q E => ⟨v, d, rfl, dp_ex e h, q⟩
theorem sc_l_is_whole : FnScope ["_law_told"] ["_law_told"] (defScope s_l_is_whole) := ⟨rfl, rfl, rfl, by decide +kernel, rfl, by decide +kernel, by decide +kernel⟩
theorem fn_l_is_whole (T : TX K mg) : ∃ fd, FunD K "_law_is_whole" "_law_is_whole" (defArgs s_l_is_whole) (defBody s_l_is_whole) (defScope s_l_is_whole) [] [] (He.ga K "_law_is_whole") fd ∧ FnOk P w K mg base CX0 (1) (He.ga K "_law_is_whole") fd ["_law_told"] (spWhole K) := by
  obtain ⟨fd, F⟩ := fd_l_is_whole T
  refine ⟨fd, F, My.FunD.ok0 F sc_l_is_whole (fun vs H Q E h => ?_) (fun cdv A outer s0 H vs Q E hr h => ?_)⟩
  · obtain ⟨v, d, rfl, hd, hQ⟩ := h
    rfl
  obtain ⟨v, d, rfl, hd, hQ⟩ := h
  have hu := hu_of hr
  refine ⟨_, (pss_one (ps_ret (pe_and (pe_callB (isiK K) (by rfl) (fr_isinstance T) (by decide +kernel) (pa_cons (pv 0) (pa_cons (pe_bltn (v := .ty "int") (by rfl) (fr_int T) (by decide +kernel) rfl) pa_nil))) (pe_one (pe_not (pe_callB (isiK K) (by rfl) (fr_isinstance T) (by decide +kernel) (pa_cons (pv 0) (pa_cons (pe_bltn (v := .ty "bool") (by rfl) (fr_bool T) (by decide +kernel) rfl) pa_nil)))))))), ?_⟩
  exact s_ret (ev_andV (ev_isiD (ev_var rfl) hd rfl) fun _ => ev_notV (ev_isiD (ev_var rfl) hd rfl)) hQ
theorem ok_l_is_whole (T : TX K mg) : DefOk P w K mg base (1) "_law_is_whole" ["_law_told"] [] (spWhole K) := by
  obtain ⟨fd, F, h⟩ := fn_l_is_whole (P := P) (w := w) (base := base) T
  exact DefOk.of F (gl_l_is_whole T) (F.bindsN fun _ _ _ _ _ _ us hl => match us, hl with | [_], _ => rfl) h
/-- _law_same: equal through and through, told of data nested at most n deep -/
def spSame (K : PySem.W.Frag) (n : Nat) : Sp := fun vs H Q _ => ∃ (v u : V) (d e : PyData), vs = [v, u] ∧ Dp K H v d ∧ Dp K H u e ∧ Dn n d ∧ Dn n e ∧ ∀ b : Bool, (b = true ↔ d = e) → RetV (.bl b) H Q
def spIn (K : PySem.W.Frag) : Nat → Sp
  | 0 => fun _ _ _ _ => False
  | n + 1 => spSame K n
theorem sc_l_same : FnScope ["_law_told", "_law_due", "_law_k"] ["_law_told", "_law_due"] (defScope s_l_same) := ⟨rfl, rfl, rfl, by decide +kernel, rfl, by decide +kernel, by decide +kernel⟩
theorem body_same {n : Nat} (T : TX K mg) {base : Heap} {f : Addr} {cdv : Value} {A : Around} {outer : List Env} {s0 : Shared} {H : Hp} {E : XK} {Q : VK} {v u : V} {d e : PyData}
    (hr : Room (n + 1) (A.deeper (envOfC "_law_same" (defScope s_l_same) s0.heap.objs.size f cdv))) (hd : Dp K H v d) (he : Dp K H u e) (hn : Dn n d) (hm : Dn n e) (hQ : ∀ b : Bool, (b = true ↔ d = e) → RetV (.bl b) H Q)
    (rec : DefOk P w K mg base (n + 1) "_law_same" ["_law_told", "_law_due"] [] (spIn K n)) :
    ∃ t, PSs (cxOf CX0 P w K mg base ["_law_told", "_law_due", "_law_k"] "_law_same" (defScope s_l_same) f cdv A outer s0 H E).nox (defBody s_l_same) t ∧ t { nx := fun _ H' => Q .non H', rt := Q } (start ["_law_told", "_law_due", "_law_k"] [v, u]) H := by
  refine ⟨_, (pss_cons (ps_if (pt_val (pe_callB (isiTK K) (by rfl) (fr_isinstance T) (by decide +kernel) (pa_cons (pv 1) (pa_cons (pe_tup (pa_cons (pe_bltn (v := .ty "list") (by rfl) (fr_list T) (by decide +kernel) rfl) (pa_cons (pe_bltn (v := .ty "tuple") (by rfl) (fr_tuple T) (by decide +kernel) rfl) pa_nil))) pa_nil)))) (pss_cons (ps_if (PW.pt (pw_or (pt_not (pt_val (pe_callB (isiTK K) (by rfl) (fr_isinstance T) (by decide +kernel) (pa_cons (pv 0) (pa_cons (pe_tup (pa_cons (pe_bltn (v := .ty "list") (by rfl) (fr_list T) (by decide +kernel) rfl) (pa_cons (pe_bltn (v := .ty "tuple") (by rfl) (fr_tuple T) (by decide +kernel) rfl) pa_nil))) pa_nil))))) (pw_or1 (pt_cmpR op_ne (pe_callB (isiK K) (by rfl) (fr_isinstance T) (by decide +kernel) (pa_cons (pv 0) (pa_cons (pe_bltn (v := .ty "list") (by rfl) (fr_list T) (by decide +kernel) rfl) pa_nil))) (pe_callB (isiK K) (by rfl) (fr_isinstance T) (by decide +kernel) (pa_cons (pv 1) (pa_cons (pe_bltn (v := .ty "list") (by rfl) (fr_list T) (by decide +kernel) rfl) pa_nil))) (nomark _))))) (pss_one (ps_ret pe_bl)) pss_nil)
      (pss_cons (ps_if (pt_cmpR op_ne (pe_callB (lenQ K) (by rfl) (fr_len T) PySem.boot_len (pa_cons (pv 0) pa_nil)) (pe_callB (lenQ K) (by rfl) (fr_len T) PySem.boot_len (pa_cons (pv 1) pa_nil)) (nomark _)) (pss_one (ps_ret pe_bl)) pss_nil)
      (pss_one (ps_ret (pe_cmpR op_eq (pe_callB (lenQ K) (by rfl) (fr_len T) PySem.boot_len (pa_cons (pe_lc (own := [("_law_k", 2)]) rfl sc_l_same.nd (pi_range1 rfl (fr_range T) (pa_cons (pe_callB (lenQ K) (by rfl) (fr_len T) PySem.boot_len (pa_cons (pv 1) pa_nil)) pa_nil)) (blkOk_by (own := [("_law_k", 2)]) (N := ["_law_told", "_law_due", "_law_k"]) (sc := defScope s_l_same) (by decide +kernel)) (fun _ _ _ _ _ => (pg_name (i := 2) sc_l_same.nd rfl (Or.inl rfl))) (fun _ _ _ _ _ => (pts_one (pt_not (pt_val (pe_callN rec hr (pa_cons (pe_ix (ixQ K) (pv 0) (pv 2) (fun _ _ => rfl)) (pa_cons (pe_ix (ixQ K) (pv 1) (pv 2) (fun _ _ => rfl)) pa_nil)) (hk := Nat.le_refl _)))))) (fun _ _ _ _ _ => (pv 2))) pa_nil)) pe_int (nomark _)))))) pss_nil)
      (pss_cons (ps_if (pt_val (pe_callB (isiK K) (by rfl) (fr_isinstance T) (by decide +kernel) (pa_cons (pv 1) (pa_cons (pe_bltn (v := .ty "bool") (by rfl) (fr_bool T) (by decide +kernel) rfl) pa_nil)))) (pss_one (ps_ret (pe_and (pe_callB (isiK K) (by rfl) (fr_isinstance T) (by decide +kernel) (pa_cons (pv 0) (pa_cons (pe_bltn (v := .ty "bool") (by rfl) (fr_bool T) (by decide +kernel) rfl) pa_nil))) (pe_one (pe_cmpR op_eq (pv 0) (pv 1) (nomark _)))))) pss_nil)
      (pss_cons (ps_if (pt_val (pe_callB (isiK K) (by rfl) (fr_isinstance T) (by decide +kernel) (pa_cons (pv 1) (pa_cons (pe_bltn (v := .ty "int") (by rfl) (fr_int T) (by decide +kernel) rfl) pa_nil)))) (pss_one (ps_ret (pe_and (pe_callN (ok_l_is_whole (P := P) (w := w) (base := base) T) hr (pa_cons (pv 0) pa_nil) (hk := by omega)) (pe_one (pe_cmpR op_eq (pv 0) (pv 1) (nomark _)))))) pss_nil)
      (pss_cons (ps_if (pt_val (pe_callB (isiK K) (by rfl) (fr_isinstance T) (by decide +kernel) (pa_cons (pv 1) (pa_cons (pe_bltn (v := .ty "str") (by rfl) (fr_str T) (by decide +kernel) rfl) pa_nil)))) (pss_one (ps_ret (pe_and (pe_callB (isiK K) (by rfl) (fr_isinstance T) (by decide +kernel) (pa_cons (pv 0) (pa_cons (pe_bltn (v := .ty "str") (by rfl) (fr_str T) (by decide +kernel) rfl) pa_nil))) (pe_one (pe_cmpR op_eq (pv 0) (pv 1) (nomark _)))))) pss_nil)
      (pss_one (ps_ret (pe_and (pe_cmp (pc_isN (pv 0))) (pe_one (pe_cmp (pc_isN (pv 1))))))))))), ?_⟩
  have skip2 : ∀ {tz : TS} {D : Ends} {H1 : Hp} {tu : TS}, isB "list" (tyN e) = false → isB "tuple" (tyN e) = false → Ex H H1 → (∀ H2, Ex H H2 → tz D [some v, some u, none] H2) →
      tSeq (tIfS (tB (tCB (rIsiT K) (tCons (tVar 1) (tCons (tTup (tCons (tC (.ty "list")) (tCons (tC (.ty "tuple")) tNil))) tNil)))) tu tNext) tz D [some v, some u, none] H1 := fun {tz D H1 tu} h1 h2 e1 k =>
    q_when (b := false) (et_B (ev_is (ev_isiD2 (ev_var rfl) (dp_ex e1 he) (by rfl) (by rfl)) (by rw [h1, h2]; rfl))) (fun h => nomatch h) fun _ H2 e2 => k H2 (e1.trans e2)
  have skip1 : ∀ {tz : TS} {D : Ends} {H1 : Hp} {tu : TS} {c : String}, isB c (tyN e) = false → askd c = true → Ex H H1 → (∀ H2, Ex H H2 → tz D [some v, some u, none] H2) →
      tSeq (tIfS (tB (tCB (rIsi K) (tCons (tVar 1) (tCons (tC (.ty c)) tNil)))) tu tNext) tz D [some v, some u, none] H1 := fun {tz D H1 tu c} h1 h2 e1 k =>
    q_when (b := false) (et_B (ev_is (ev_isiD (ev_var rfl) (dp_ex e1 he) h2) (by rw [h1]))) (fun h => nomatch h) fun _ H2 e2 => k H2 (e1.trans e2)
  have take1 : ∀ {tz : TS} {D : Ends} {H1 : Hp} {tu : TS} {c : String}, isB c (tyN e) = true → askd c = true → Ex H H1 → (∀ H2, Ex H H2 → tu { D with nx := tz D } [some v, some u, none] H2) →
      tSeq (tIfS (tB (tCB (rIsi K) (tCons (tVar 1) (tCons (tC (.ty c)) tNil)))) tu tNext) tz D [some v, some u, none] H1 := fun {tz D H1 tu c} h1 h2 e1 k =>
    q_when (b := true) (et_B (ev_is (ev_isiD (ev_var rfl) (dp_ex e1 he) h2) (by rw [h1]))) (fun _ H2 e2 => k H2 (e1.trans e2)) (fun h => nomatch h)
  by_cases hsq : ∃ (b : Bool) (es : List PyData), e = seqD b es
  · obtain ⟨b, es, rfl⟩ := hsq
    obtain ⟨a, us, rfl, hs, hu'⟩ := dp_seq he
    obtain ⟨m, rfl, hlen, hmm⟩ := dn_seq hm
    refine q_when (b := true) (et_B (ev_is (ev_isiD2 (ev_var rfl) he (by rfl) (by rfl)) (by cases b <;> simp [seqD, tyN, isB_tab]))) (fun _ H1 e1 => ?_) (fun h => nomatch h)
    refine q_when (et_or (et_not (et_B (ev_isiD2 (ev_var rfl) (dp_ex e1 hd) (by rfl) (by rfl)))) fun _ => et_test (ev_op (ev_isiD (ev_var rfl) (dp_ex e1 hd) (by rfl)) (ev_isiD (ev_var rfl) (dp_ex e1 he) (by rfl)) (rv_ne rfl))) (fun hb H2 e2 => ?_) (fun hb H2 e2 => ?_)
    · refine s_ret ev_c fun H3 e3 => hQ false ?_ H3 (e1.trans (e2.trans e3))
      refine ⟨(fun z => nomatch z), fun z => ?_⟩
      subst z
      cases b <;> simp [seqD, tyN, isB_tab] at hb
    have hd1 : ∃ ds, d = seqD b ds := by
      cases b <;> cases hd <;> simp [seqD, tyN, isB_tab] at hb ⊢
    obtain ⟨ds, rfl⟩ := hd1
    obtain ⟨a2, vs, rfl, hs2, hv'⟩ := dp_seq hd
    obtain ⟨m', hm', hlen2, hmm2⟩ := dn_seq hn
    obtain rfl : m = m' := by omega
    have E2 := e1.trans e2
    have lu := dpa_len hu'
    have lv := dpa_len hv'
    refine q_when (et_test (ev_op (ev_cb (ea_cons (ev_var rfl) ea_nil) (rc_lenB (hs2.ex E2))) (ev_cb (ea_cons (ev_var rfl) ea_nil) (rc_lenB (hs.ex E2))) (rv_ne rfl))) (fun hz H3 e3 => ?_) (fun hz H3 e3 => ?_)
    · refine s_ret ev_c fun H4 e4 => hQ false ?_ H4 (E2.trans (e3.trans e4))
      refine ⟨(fun z => nomatch z), fun z => ?_⟩
      rw [seqD_inj] at z
      subst z
      rw [lu, lv] at hz
      simp at hz
    have ll : ds.length = es.length := by
      rw [lu, lv] at hz
      simp at hz
      omega
    classical
    have E3 := E2.trans e3
    have hs3 := hs.ex E3
    have hs23 := hs2.ex E3
    refine s_ret (ev_op (ev_lenN' (el_lcR1 (n := (us.length : Int)) (fun i => !decide (ds[i]? = es[i]?)) (fun i => .int (i : Int)) (ea_cons (ev_cb (ea_cons (ev_var rfl) ea_nil) (rc_lenB hs3)) ea_nil) (by omega) (fun _ => rfl) (fun i H4 e4 hi => ?_) (fun i H4 e4 hi _ => ev_var rfl))) ev_c (rv_eq rfl)) fun H5 e5 => hQ _ ?_ H5 (E3.trans e5)
    · have hi1 : i < es.length := by omega
      have hi2 : i < ds.length := by omega
      obtain ⟨x1, hx1, hx2⟩ := dpa_at hu' hi1
      obtain ⟨y1, hy1, hy2⟩ := dpa_at hv' hi2
      refine et_not (et_B (ev_call (ea_cons (ev_op (ev_var rfl) (ev_var rfl) (rv_ixB (hs23.ex e4) (atI_nat hy1))) (ea_cons (ev_op (ev_var rfl) (ev_var rfl) (rv_ixB (hs3.ex e4) (atI_nat hx1))) ea_nil)) ?_))
      intro H6 e6 Q' q' E'
      have E6 := (E3.trans e4).trans e6
      refine ⟨y1, x1, ds[i], es[i], rfl, dp_ex E6 hy2, dp_ex E6 hx2, hmm2 _ (List.getElem_mem _), hmm _ (List.getElem_mem _), fun b' hb' => ?_⟩
      have eb : b' = decide (ds[i]? = es[i]?) := by
        rw [List.getElem?_eq_getElem hi1, List.getElem?_eq_getElem hi2, Bool.eq_iff_iff, hb', decide_eq_true_iff]
        simp
      rw [eb]
      exact q'
    · rw [seqD_inj, decide_eq_true_iff]
      have e1' : (V.int (((given (us.length : Int).toNat (fun i => !decide (ds[i]? = es[i]?)) (fun i => .int (i : Int))).length : Nat) : Int) = V.int 0) ↔ (given (us.length : Int).toNat (fun i => !decide (ds[i]? = es[i]?)) (fun i => .int (i : Int))).length = 0 := by
        constructor
        · intro h
          injection h with h
          omega
        · intro h
          rw [h]
          rfl
      rw [e1', given_none]
      constructor
      · intro h
        refine List.ext_getElem? fun i => ?_
        by_cases hi : i < es.length
        · have := h i (by omega)
          simpa using this
        · rw [List.getElem?_eq_none (by omega), List.getElem?_eq_none (by omega)]
      · intro h i hi
        rw [h]
        simp
  cases e with
  | none =>
    cases he with
    | non =>
    refine skip2 (by simp [tyN, isB_tab]) (by simp [tyN, isB_tab]) (Ex.refl H) fun H1 e1 => ?_
    refine skip1 (by simp [tyN, isB_tab]) (by rfl) e1 fun H2 e2 => ?_
    refine skip1 (by simp [tyN, isB_tab]) (by rfl) e2 fun H3 e3 => ?_
    refine skip1 (by simp [tyN, isB_tab]) (by rfl) e3 fun H4 e4 => ?_
    refine s_ret (ev_andV (ev_isN (ev_var rfl)) fun _ => ev_isN (ev_var rfl)) fun H5 e5 => ?_
    refine hQ _ ?_ H5 (e4.trans e5)
    cases hd <;> simp
  | bool b =>
    cases he with
    | bl =>
    refine skip2 (by simp [tyN, isB_tab]) (by simp [tyN, isB_tab]) (Ex.refl H) fun H1 e1 => ?_
    refine take1 (by simp [tyN, isB_tab]) (by rfl) e1 fun H2 e2 => ?_
    refine s_ret (ev_andV (ev_isiD (ev_var rfl) (dp_ex e2 hd) (by rfl)) fun hc => ev_op (ev_var rfl) (ev_var rfl) (rv_eq (by cases hd <;> first | rfl | (simp [tyN, isB_tab] at hc)))) fun H5 e5 => hQ _ ?_ H5 (e2.trans e5)
    cases hd <;> simp [tyN, isB_tab]
  | int b =>
    cases he with
    | int =>
    refine skip2 (by simp [tyN, isB_tab]) (by simp [tyN, isB_tab]) (Ex.refl H) fun H1 e1 => ?_
    refine skip1 (by simp [tyN, isB_tab]) (by rfl) e1 fun H2 e2 => ?_
    refine take1 (by simp [tyN, isB_tab]) (by rfl) e2 fun H3 e3 => ?_
    refine s_ret (ev_andV (ev_call (ea_cons (ev_var rfl) ea_nil) (sv_whole (dp_ex e3 hd))) fun hc => ev_op (ev_var rfl) (ev_var rfl) (rv_eq (by cases hd <;> first | rfl | (simp [isInt, tyN, isB_tab] at hc)))) fun H5 e5 => hQ _ ?_ H5 (e3.trans e5)
    cases hd <;> simp [isInt, tyN, isB_tab]
  | str b =>
    cases he with
    | str =>
    refine skip2 (by simp [tyN, isB_tab]) (by simp [tyN, isB_tab]) (Ex.refl H) fun H1 e1 => ?_
    refine skip1 (by simp [tyN, isB_tab]) (by rfl) e1 fun H2 e2 => ?_
    refine skip1 (by simp [tyN, isB_tab]) (by rfl) e2 fun H3 e3 => ?_
    refine take1 (by simp [tyN, isB_tab]) (by rfl) e3 fun H4 e4 => ?_
    refine s_ret (ev_andV (ev_isiD (ev_var rfl) (dp_ex e4 hd) (by rfl)) fun hc => ev_op (ev_var rfl) (ev_var rfl) (rv_eq (by cases hd <;> first | rfl | (simp [tyN, isB_tab] at hc)))) fun H5 e5 => hQ _ ?_ H5 (e4.trans e5)
    cases hd <;> simp [tyN, isB_tab]
  | list es => exact absurd ⟨true, es, rfl⟩ hsq
  | tuple es => exact absurd ⟨false, es, rfl⟩ hsq
  | dict es => cases he
theorem fn_l_same (T : TX K mg) {base : Heap} : ∀ n : Nat, ∃ fd, FunD K "_law_same" "_law_same" (defArgs s_l_same) (defBody s_l_same) (defScope s_l_same) [] [] (He.ga K "_law_same") fd ∧ FnOk P w K mg base CX0 (n + 2) (He.ga K "_law_same") fd ["_law_told", "_law_due"] (spSame K n) := fun n => by
  obtain ⟨fd, F⟩ := fd_l_same T
  have b : Binds K fd ["_law_told", "_law_due"] [] := F.bindsN fun _ _ _ _ _ _ us hl => match us, hl with | [_, _], _ => rfl
  refine ⟨fd, F, ?_⟩
  induction n with
  | zero =>
    refine My.FunD.ok0 F sc_l_same (fun vs H Q E h => ?_) (fun cdv A outer s0 H vs Q E hr h => ?_)
    · obtain ⟨_, _, _, _, rfl, _⟩ := h
      rfl
    obtain ⟨v, u, d, e, rfl, hd, he, hn, hm, hQ⟩ := h
    exact body_same T hr hd he hn hm hQ (DefOk.of F (gl_l_same T) b ⟨fun _ _ _ _ h => h.elim, fun _ _ _ _ _ _ _ _ _ _ _ _ _ h => h.elim⟩)
  | succ n ih =>
    refine My.FunD.ok0 F sc_l_same (fun vs H Q E h => ?_) (fun cdv A outer s0 H vs Q E hr h => ?_)
    · obtain ⟨_, _, _, _, rfl, _⟩ := h
      rfl
    obtain ⟨v, u, d, e, rfl, hd, he, hn, hm, hQ⟩ := h
    exact body_same T hr hd he hn hm hQ (DefOk.of F (gl_l_same T) b ih)
theorem ok_l_same (T : TX K mg) {base : Heap} (n : Nat) : DefOk P w K mg base (n + 2) "_law_same" ["_law_told", "_law_due"] [] (spSame K n) := by
  obtain ⟨fd, F, h⟩ := fn_l_same (P := P) (w := w) T (base := base) n
  exact DefOk.of F (gl_l_same T) (F.bindsN fun _ _ _ _ _ _ us hl => match us, hl with | [_, _], _ => rfl) h
theorem sv_same {K : PySem.W.Frag} {H : Hp} {v u : V} {d e : PyData} {n : Nat} {b : Bool} (hd : Dp K H v d) (he : Dp K H u e) (hn : Dn n d) (hm : Dn n e) (hb : b = true ↔ d = e) : SpV (spSame K n) [v, u] H (.bl b) := fun H1 x Q q E =>
  ⟨v, u, d, e, rfl, dp_ex x hd, dp_ex x he, hn, hm, fun b' h' => by
    have : b' = b := by rw [Bool.eq_iff_iff, h', hb]
    rw [this]
    exact q⟩
end

/-! ### the common defs, as functions of a store -/
section
open Mi
noncomputable def fNumber : List D → Sto → R D := fun ds S => match ds with
  | [.ref l, .int a, .int k, .int sz] => match (rdL S l).bind intsOf with
    | some ns => open Classical in if ns.length ≤ 63 ∧ NumOk a k sz then .ok (.int (lawNum ns a k sz)) S else .bad
    | none => .bad
  | _ => .bad
theorem fNumber_eq {S : Sto} {l : Nat} {ns : List Int} {a k sz : Int} (h : rdL S l = some (ns.map D.int)) (hl : ns.length ≤ 63) (ok : NumOk a k sz) : fNumber [.ref l, .int a, .int k, .int sz] S = .ok (.int (lawNum ns a k sz)) S := by
  simp [fNumber, h, intsOf_map, hl, ok]
noncomputable def fWhole : List D → Sto → R D := fun ds S => match ds with
  | [x] => match dataOf S x with
    | some p => .ok (.bl (isInt p)) S
    | none => .bad
  | _ => .bad
theorem fWhole_eq {S : Sto} {x : D} {p : PyData} (h : DD S x p) : fWhole [x] S = .ok (.bl (isInt p)) S := by simp [fWhole, dataOf_eq h]
theorem fWhole_int {S : Sto} {i : Int} : fWhole [.int i] S = .ok (.bl true) S := by
  rw [fWhole_eq (.int i)]
  simp [isInt, tyN, isB_tab]
open Classical in
noncomputable def fSame (n : Nat) : List D → Sto → R D := fun ds S => match ds with
  | [x, y] => match dataOf S x, dataOf S y with
    | some p, some q => if Dn n p ∧ Dn n q then .ok (.bl (decide (p = q))) S else .bad
    | _, _ => .bad
  | _ => .bad
open Classical in
theorem fSame_eq {S : Sto} {n : Nat} {x y : D} {p q : PyData} (hx : DD S x p) (hy : DD S y q) (h1 : Dn n p) (h2 : Dn n q) : fSame n [x, y] S = .ok (.bl (decide (p = q))) S := by simp [fSame, dataOf_eq hx, dataOf_eq hy, h1, h2]
theorem fSame_refl {S : Sto} {n : Nat} {x y : D} {p : PyData} (hx : DD S x p) (hy : DD S y p) (h1 : Dn n p) : fSame n [x, y] S = .ok (.bl true) S := by simp [fSame, dataOf_eq hx, dataOf_eq hy, h1]
theorem defok_imp {P : Program} {w : World} {K : PySem.W.Frag} {mg : Str → Option Value} {base : Heap} {k : Nat} {x : Str} {ps : List Str} {dvs : List V} {sp sp' : Sp} (h : DefOk P w K mg base k x ps dvs sp) (i : ∀ vs H Q E, sp' vs H Q E → sp vs H Q E) : DefOk P w K mg base k x ps dvs sp' := by
  obtain ⟨f, fd, ds, h1, h2, h3, h4, h5⟩ := h.ex
  exact ⟨f, fd, ds, h1, h2, h3, h4, h5.imp i⟩
variable {P : Program} {w : World} {K : PySem.W.Frag} {mg : Str → Option Value} {base : Heap}
theorem okm_l_number (T : TX K mg) : DefOk P w K mg base 1 "_law_number" ["_law_script", "_law_at", "_law_k", "_law_size"] [] (spF K fNumber) := by
  refine defok_imp (ok_l_number (P := P) (w := w) (base := base) T) fun vs H Q E ⟨φ, S, ds, r, hv, p⟩ => ?_
  unfold fNumber at p
  split at p
  · split at p
    · rename_i l a k sz _ ns e
      obtain ⟨xs, h1, h2⟩ := Option.bind_eq_some_iff.mp e
      cases hv with
      | cons q1 hv =>
        cases hv with
        | cons q2 hv =>
          obtain ⟨v3, v4, rfl, q3, q4⟩ := hv.two_inv
          obtain ⟨_, rfl⟩ := q1.ref_inv
          cases q2; cases q3; cases q4
          obtain ⟨ws, w1, w2⟩ := r.rd h1
          rw [intsOf_inv h2] at w2
          rw [w2.ints_inv] at w1
          split at p
          · rename_i ok
            exact ⟨_, ns, a, k, sz, rfl, w1, ok.1, ok.2, fun H' e' => p.ex r e' (VR.int _)⟩
          · exact p.elim
    · exact p.elim
  · exact p.elim
theorem okm_l_is_whole (T : TX K mg) : DefOk P w K mg base 1 "_law_is_whole" ["_law_told"] [] (spF K fWhole) := by
  refine defok_imp (ok_l_is_whole (P := P) (w := w) (base := base) T) fun vs H Q E ⟨φ, S, ds, r, hv, p⟩ => ?_
  unfold fWhole at p
  split at p
  · split at p
    · rename_i x _ d e
      obtain ⟨v, rfl, hz⟩ := hv.one_inv
      exact ⟨v, d, rfl, (dataOf_some e).dp r hz, fun H' e' => p.ex r e' (VR.bl _)⟩
    · exact p.elim
  · exact p.elim
open Classical in
theorem okm_l_same (T : TX K mg) (n : Nat) : DefOk P w K mg base (n + 2) "_law_same" ["_law_told", "_law_due"] [] (spF K (fSame n)) := by
  refine defok_imp (ok_l_same (P := P) (w := w) (base := base) T n) fun vs H Q E ⟨φ, S, ds, r, hv, p⟩ => ?_
  unfold fSame at p
  split at p
  · split at p
    · rename_i x y _ _ d e h1 h2
      obtain ⟨v, u, rfl, hx, hy⟩ := hv.two_inv
      split at p
      · rename_i hd
        refine ⟨v, u, d, e, rfl, (dataOf_some h1).dp r hx, (dataOf_some h2).dp r hy, hd.1, hd.2, fun b hb H' e' => ?_⟩
        have : b = decide (d = e) := by
          rw [Bool.eq_iff_iff, hb, decide_eq_true_iff]
        rw [this]
        exact p.ex r e' (VR.bl _)
      · exact p.elim
    · exact p.elim
  · exact p.elim
end

section
open Mi
theorem num_ok {S : Sto} {l0 : Nat} {ns : List Int} {a k sz : Int} (h : rdL S l0 = some (ns.map .int)) (hl : ns.length ≤ 63) (ok : NumOk a k sz) : Ok (fNumber [.ref l0, .int a, .int k, .int sz] S) fun v S' => S' = S ∧ ∃ q : Int, v = .int q ∧ 0 ≤ q ∧ q < sz := by
  refine Ok.of ⟨.int (lawNum ns a k sz), S, fNumber_eq h hl ok, rfl, _, rfl, lawNum_nn _ _ _ _ ?_, lawNum_lt _ _ _ _ ?_⟩ <;> (unfold NumOk at ok; omega)
theorem same_ints {S : Sto} {l m : Nat} {as : List Int} (h : rdL S l = some (as.map .int)) (g : rdL S m = some (as.map .int)) (hz : as.length ≤ 40000) : fSame 3 [.ref l, .ref m] S = .ok (.bl true) S :=
  fSame_refl (.lst h (DDs.ints as)) (.lst g (DDs.ints as)) ((dn_ints hz).le (by decide))
end

section
open Mi
variable {P : Program} {w : World} {K : PySem.W.Frag} {mg : Str → Option Value} {base : Heap}
theorem sc_working_set : FnScope ["trace", "window", "end"] ["trace", "window"] (defScope s_working_set) := ⟨rfl, rfl, rfl, by decide +kernel, rfl, by decide +kernel, by decide +kernel⟩
noncomputable def f_working_set_c1 : Mi.Env → Mi.Sto → Mi.R Mi.D := (xLc (iR2 (xCons (xC (.int 1)) (xCons (xOp (oI fun i j => .int (i + j)) (xCB bLen (xCons (xVar 0) xNil)) (xC (.int 1))) xNil))) (gNameX 2) xYes (xCB bLenSet (xCons (xCB bSet (xCons (xSl oSlL (xVar 0) (xPart (xCB (bInt2 fun i j => .int (if j > i then j else i)) (xCons (xC (.int 0)) (xCons (xOp (oI fun i j => .int (i - j)) (xVar 2) (xVar 1)) xNil)))) (xPart (xVar 2))) xNil)) xNil)) [2])
@[irreducible] noncomputable def f_working_set : List Mi.D → Mi.Sto → Mi.R Mi.D := Mi.defX 2 1 (xRet f_working_set_c1)
theorem f_working_set_eq : f_working_set = Mi.defX 2 1 (xRet f_working_set_c1) := by with_unfolding_all rfl
theorem fn_working_set (T : TX K mg) : ∃ fd, FunD K "working_set" "working_set" (defArgs s_working_set) (defBody s_working_set) (defScope s_working_set) [] [] (He.ga K "working_set") fd ∧ FnOk P w K mg base CX0 (1) (He.ga K "working_set") fd ["trace", "window"] (Mi.spF K f_working_set) := by
  rw [f_working_set_eq]
  obtain ⟨fd, F⟩ := fd_working_set T
  refine ⟨fd, F, My.FunD.ok0 F sc_working_set (Mi.spF_len rfl) (fun cdv A outer s0 H vs Q E hr h => ?_)⟩
  have hu := hu_of hr
  exact ⟨_, (pss_one (ps_ret (pe_lc (own := [("end", 2)]) rfl sc_working_set.nd (pi_range2 rfl (fr_range T) (pa_cons pe_int (pa_cons (pe_op op_add (pe_callB (lenQ K) (by rfl) (fr_len T) PySem.boot_len (pa_cons (pv 0) pa_nil)) pe_int) pa_nil))) (blkOk_by (own := [("end", 2)]) (N := ["trace", "window", "end"]) (sc := defScope s_working_set) (by decide +kernel)) (fun _ _ _ _ _ => (pg_name (i := 2) sc_working_set.nd rfl (Or.inl rfl))) (fun _ _ _ _ _ => pts_nil) (fun _ _ _ _ _ => (pe_callB cr_setLen (by rfl) (fr_len T) PySem.boot_len (pa_cons (pe_callTy (cr_setI K rfl) (by rfl) (fr_set T) (by decide +kernel) (pa_cons (pe_slice (slL K) (pv 0) (po_some (pe_callB (call_max2 rfl) (by rfl) (fr_max T) (by decide +kernel) (pa_cons pe_int (pa_cons (pe_op op_sub (pv 2) (pv 1)) pa_nil)))) (po_some (pv 2))) pa_nil)) pa_nil)))))),
    Mi.body_of (K := K) (E := E) (m := 2) (k := 1) (N := ["trace", "window", "end"]) rfl h (imp_ret (imp_lc (imp_iR2 (imp_cons imp_int (imp_cons (imp_op opi_add (imp_cb cbi_len (imp_cons imp_var imp_nil)) imp_int) imp_nil))) (impg_name) imp_yes (imp_cb cbi_lenSet (imp_cons (imp_cb cbi_set (imp_cons (imp_sl sli_L imp_var (imp_part (imp_cb cbi_max2 (imp_cons imp_int (imp_cons (imp_op opi_sub imp_var imp_var) imp_nil)))) (imp_part imp_var)) imp_nil)) imp_nil)) (by decide)))⟩
theorem ok_working_set (T : TX K mg) : DefOk P w K mg base (1) "working_set" ["trace", "window"] [] (Mi.spF K f_working_set) := by
  obtain ⟨fd, F, h⟩ := fn_working_set (P := P) (w := w) (base := base) T
  exact DefOk.of F (gl_working_set T) (F.bindsN fun _ _ _ _ _ _ us hl => match us, hl with | [_, _], _ => rfl) h
theorem sc_is_parting : FnScope ["trace", "frames", "starts", "ends", "start", "end"] ["trace", "frames", "starts"] (defScope s_is_parting) := ⟨rfl, rfl, rfl, by decide +kernel, rfl, by decide +kernel, by decide +kernel⟩
noncomputable def f_is_parting_t1 : Mi.Env → Mi.Sto → Mi.R Bool := (xOr (xB (xOp (oEqD false) (xVar 0) (xLst xNil))) (xB (xOp (oEqD false) (xVar 2) (xLst xNil))))
noncomputable def f_is_parting_t2 : Mi.Env → Mi.Sto → Mi.R Bool := (xOr (xB (xOp oNeS (xOp oIxL (xVar 2) (xC (.int 0))) (xC (.int 0)))) (xB (xOp (oEqD true) (xVar 3) (xSortSet (xVar 3)))))
noncomputable def f_is_parting_t3 : Mi.Env → Mi.Sto → Mi.R Bool := (xAnd (xB (xOp (oI fun i j => .bl (decide (i < j))) (xVar 5) (xCB bLen (xCons (xVar 0) xNil)))) (xB (xOp (oI fun i j => .bl (decide (i ≤ j))) (xCB bLenSet (xCons (xCB bSet (xCons (xSl oSlL (xVar 0) (xPart (xVar 4)) (xPart (xOp (oI fun i j => .int (i + j)) (xVar 5) (xC (.int 1))))) xNil)) xNil)) (xVar 1))))
noncomputable def f_is_parting_b1 : Mi.Env → Mi.Sto → Mi.RS := (xSeq (xIfS (xB (xOp (oI fun i j => .bl (decide (j < i))) (xCB bLenSet (xCons (xCB bSet (xCons (xSl oSlL (xVar 0) (xPart (xVar 4)) (xPart (xVar 5))) xNil)) xNil)) (xVar 1))) (xRet (xC (.bl false))) xNext)
      (xIfS f_is_parting_t3 (xRet (xC (.bl false))) xNext))
noncomputable def f_is_parting_l1 : Mi.Env → Mi.Sto → Mi.RS := (xFor (iZ (xCons (xVar 2) (xCons (xVar 3) xNil))) (gTupX 2 (gConsX (gNameX 4) (gConsX (gNameX 5) gNilX))) f_is_parting_b1)
@[irreducible] noncomputable def f_is_parting : List Mi.D → Mi.Sto → Mi.R Mi.D := Mi.defX 3 3 (xSeq (xIfS f_is_parting_t1 (xRet (xAndV (xOp (oEqD false) (xVar 0) (xLst xNil)) (xOp (oEqD false) (xVar 2) (xLst xNil)))) xNext)
      (xSeq (xAsg (xOp oCat (xSl oSlL (xVar 2) (xPart (xC (.int 1))) xNoPart) (xLst (xCons (xCB bLen (xCons (xVar 0) xNil)) xNil))) (gNameX 3))
      (xSeq (xIfS f_is_parting_t2 (xRet (xC (.bl false))) xNext)
      (xSeq f_is_parting_l1
      (xRet (xC (.bl true)))))))
theorem f_is_parting_eq : f_is_parting = Mi.defX 3 3 (xSeq (xIfS f_is_parting_t1 (xRet (xAndV (xOp (oEqD false) (xVar 0) (xLst xNil)) (xOp (oEqD false) (xVar 2) (xLst xNil)))) xNext)
      (xSeq (xAsg (xOp oCat (xSl oSlL (xVar 2) (xPart (xC (.int 1))) xNoPart) (xLst (xCons (xCB bLen (xCons (xVar 0) xNil)) xNil))) (gNameX 3))
      (xSeq (xIfS f_is_parting_t2 (xRet (xC (.bl false))) xNext)
      (xSeq f_is_parting_l1
      (xRet (xC (.bl true))))))) := by with_unfolding_all rfl
theorem fn_is_parting (T : TX K mg) : ∃ fd, FunD K "is_parting" "is_parting" (defArgs s_is_parting) (defBody s_is_parting) (defScope s_is_parting) [] [] (He.ga K "is_parting") fd ∧ FnOk P w K mg base CX0 (1) (He.ga K "is_parting") fd ["trace", "frames", "starts"] (Mi.spF K f_is_parting) := by
  rw [f_is_parting_eq]
  obtain ⟨fd, F⟩ := fd_is_parting T
  refine ⟨fd, F, My.FunD.ok0 F sc_is_parting (Mi.spF_len rfl) (fun cdv A outer s0 H vs Q E hr h => ?_)⟩
  have hu := hu_of hr
  exact ⟨_, (pss_cons (ps_if (PW.pt (pw_or (pt_cmpR (eqD K hr.units) (pv 0) (pe_lst pa_nil) (nomark _)) (pw_or1 (pt_cmpR (eqD K hr.units) (pv 2) (pe_lst pa_nil) (nomark _))))) (pss_one (ps_ret (pe_and (pe_cmpR (eqD K hr.units) (pv 0) (pe_lst pa_nil) (nomark _)) (pe_one (pe_cmpR (eqD K hr.units) (pv 2) (pe_lst pa_nil) (nomark _)))))) pss_nil)
      (pss_cons (ps_set (i := 3) sc_is_parting.nd rfl (Or.inl rfl) (pe_op op_cat (pe_slice (slL K) (pv 2) (po_some pe_int) po_none) (pe_lst (pa_cons (pe_callB (lenQ K) (by rfl) (fr_len T) PySem.boot_len (pa_cons (pv 0) pa_nil)) pa_nil))))
      (pss_cons (ps_if (PW.pt (pw_or (pt_cmpR op_ne (pe_ix (ixL K) (pv 2) pe_int (fun _ _ => rfl)) pe_int (nomark _)) (pw_or1 (pt_cmpR (neD K hr.units) (pv 3) (pe_sortSet K rfl (fr_sorted T) (fr_set T) (pv 3)) (nomark _))))) (pss_one (ps_ret pe_bl)) pss_nil)
      (pss_cons (ps_for PassesOwn.never rfl (pi_zip (by rfl) (fr_zip T) (pa_cons (pv 2) (pa_cons (pv 3) pa_nil))) (pg_tupK (n := 2) K rfl (pgs_cons (pg_name (i := 4) sc_is_parting.nd rfl (Or.inl rfl)) (pgs_cons (pg_name (i := 5) sc_is_parting.nd rfl (Or.inl rfl)) pgs_nil))) (pss_cons (ps_if (pt_cmpR op_gt (pe_callB cr_setLen (by rfl) (fr_len T) PySem.boot_len (pa_cons (pe_callTy (cr_setI K rfl) (by rfl) (fr_set T) (by decide +kernel) (pa_cons (pe_slice (slL K) (pv 0) (po_some (pv 4)) (po_some (pv 5))) pa_nil)) pa_nil)) (pv 1) (nomark _)) (pss_one (ps_ret pe_bl)) pss_nil)
      (pss_one (ps_if (PW.pt (pw_and (pt_cmpR op_lt (pv 5) (pe_callB (lenQ K) (by rfl) (fr_len T) PySem.boot_len (pa_cons (pv 0) pa_nil)) (nomark _)) (pw_and1 (pt_cmpR op_le (pe_callB cr_setLen (by rfl) (fr_len T) PySem.boot_len (pa_cons (pe_callTy (cr_setI K rfl) (by rfl) (fr_set T) (by decide +kernel) (pa_cons (pe_slice (slL K) (pv 0) (po_some (pv 4)) (po_some (pe_op op_add (pv 5) pe_int))) pa_nil)) pa_nil)) (pv 1) (nomark _))))) (pss_one (ps_ret pe_bl)) pss_nil))))
      (pss_one (ps_ret pe_bl)))))),
    Mi.body_of (K := K) (E := E) (m := 3) (k := 3) (N := ["trace", "frames", "starts", "ends", "start", "end"]) rfl h (imp_seq (imp_ifS (imp_or (imp_test (imp_op opi_eqD imp_var (imp_lst imp_nil))) (imp_test (imp_op opi_eqD imp_var (imp_lst imp_nil)))) (imp_ret (imp_andV (imp_op opi_eqD imp_var (imp_lst imp_nil)) (imp_op opi_eqD imp_var (imp_lst imp_nil)))) imp_next) (imp_seq (imp_asg (imp_op opi_cat (imp_sl sli_L imp_var (imp_part imp_int) imp_noPart) (imp_lst (imp_cons (imp_cb cbi_len (imp_cons imp_var imp_nil)) imp_nil))) impg_name) (imp_seq (imp_ifS (imp_or (imp_test (imp_op opi_neS (imp_op opi_ixL imp_var imp_int) imp_int)) (imp_test (imp_op opi_neD imp_var (imp_sortSet imp_var)))) (imp_ret imp_bl) imp_next) (imp_seq (imp_for (imp_iZ (imp_cons imp_var (imp_cons imp_var imp_nil))) (impg_tup (impgs_cons (impg_name) (impgs_cons (impg_name) impgs_nil))) (imp_seq (imp_ifS (imp_test (imp_op opi_gt (imp_cb cbi_lenSet (imp_cons (imp_cb cbi_set (imp_cons (imp_sl sli_L imp_var (imp_part imp_var) (imp_part imp_var)) imp_nil)) imp_nil)) imp_var)) (imp_ret imp_bl) imp_next) (imp_ifS (imp_and (imp_test (imp_op opi_lt imp_var (imp_cb cbi_len (imp_cons imp_var imp_nil)))) (imp_test (imp_op opi_le (imp_cb cbi_lenSet (imp_cons (imp_cb cbi_set (imp_cons (imp_sl sli_L imp_var (imp_part imp_var) (imp_part (imp_op opi_add imp_var imp_int))) imp_nil)) imp_nil)) imp_var))) (imp_ret imp_bl) imp_next))) (imp_ret imp_bl)))))⟩
theorem ok_is_parting (T : TX K mg) : DefOk P w K mg base (1) "is_parting" ["trace", "frames", "starts"] [] (Mi.spF K f_is_parting) := by
  obtain ⟨fd, F, h⟩ := fn_is_parting (P := P) (w := w) (base := base) T
  exact DefOk.of F (gl_is_parting T) (F.bindsN fun _ _ _ _ _ _ us hl => match us, hl with | [_, _, _], _ => rfl) h
theorem sc_phases : FnScope ["trace", "frames", "starts", "pages", "position", "page"] ["trace", "frames"] (defScope s_phases) := ⟨rfl, rfl, rfl, by decide +kernel, rfl, by decide +kernel, by decide +kernel⟩
noncomputable def f_phases_t1 : Mi.Env → Mi.Sto → Mi.R Bool := (xOr (xB (xOp (oEqD false) (xVar 2) (xLst xNil))) (xB (xOp oEqS (xCB bLen (xCons (xVar 3) xNil)) (xVar 1))))
noncomputable def f_phases_b1 : Mi.Env → Mi.Sto → Mi.RS := (xSeq (xIfS (xB (xOp (oIn false) (xVar 5) (xVar 3))) xCont xNext)
      (xSeq (xIfS f_phases_t1 (xSeq (xDrop (xBM (mL gAppend) (xVar 2) (xCons (xVar 4) xNil)))
      (xAsg (xLst xNil) (gNameX 3))) xNext)
      (xDrop (xBM (mL gAppend) (xVar 3) (xCons (xVar 5) xNil)))))
noncomputable def f_phases_l1 : Mi.Env → Mi.Sto → Mi.RS := (xFor (iE (xCons (xVar 0) xNil)) (gTupX 2 (gConsX (gNameX 4) (gConsX (gNameX 5) gNilX))) f_phases_b1)
@[irreducible] noncomputable def f_phases : List Mi.D → Mi.Sto → Mi.R Mi.D := Mi.defX 2 4 (xSeq (xAsg (xLst xNil) (gNameX 2))
      (xSeq (xAsg (xLst xNil) (gNameX 3))
      (xSeq f_phases_l1
      (xSeq (xAssert (xB (xCall f_is_parting (xCons (xVar 0) (xCons (xVar 1) (xCons (xVar 2) xNil))))))
      (xRet (xVar 2))))))
theorem f_phases_eq : f_phases = Mi.defX 2 4 (xSeq (xAsg (xLst xNil) (gNameX 2))
      (xSeq (xAsg (xLst xNil) (gNameX 3))
      (xSeq f_phases_l1
      (xSeq (xAssert (xB (xCall f_is_parting (xCons (xVar 0) (xCons (xVar 1) (xCons (xVar 2) xNil))))))
      (xRet (xVar 2)))))) := by with_unfolding_all rfl
theorem fn_phases (T : TX K mg) : ∃ fd, FunD K "phases" "phases" (defArgs s_phases) (defBody s_phases) (defScope s_phases) [] [] (He.ga K "phases") fd ∧ FnOk P w K mg base CX0 (2) (He.ga K "phases") fd ["trace", "frames"] (Mi.spF K f_phases) := by
  rw [f_phases_eq]
  obtain ⟨fd, F⟩ := fd_phases T
  refine ⟨fd, F, My.FunD.ok0 F sc_phases (Mi.spF_len rfl) (fun cdv A outer s0 H vs Q E hr h => ?_)⟩
  have hu := hu_of hr
  exact ⟨_, (pss_cons (ps_set (i := 2) sc_phases.nd rfl (Or.inl rfl) (pe_lst pa_nil))
      (pss_cons (ps_set (i := 3) sc_phases.nd rfl (Or.inl rfl) (pe_lst pa_nil))
      (pss_cons (ps_for PassesOwn.never rfl (pi_enum (by rfl) (fr_enumerate T) (pa_cons (pv 0) pa_nil)) (pg_tupK (n := 2) K rfl (pgs_cons (pg_name (i := 4) sc_phases.nd rfl (Or.inl rfl)) (pgs_cons (pg_name (i := 5) sc_phases.nd rfl (Or.inl rfl)) pgs_nil))) (pss_cons (ps_if (pt_cmpR (inQ K) (pv 5) (pv 3) rfl) (pss_one ps_continue) pss_nil)
      (pss_cons (ps_if (PW.pt (pw_or (pt_cmpR (eqD K hr.units) (pv 2) (pe_lst pa_nil) (nomark _)) (pw_or1 (pt_cmpR op_eq (pe_callB (lenQ K) (by rfl) (fr_len T) PySem.boot_len (pa_cons (pv 3) pa_nil)) (pv 1) (nomark _))))) (pss_cons (ps_expr (pe_bm PySem.F.plainAttrs_list PySem.F.slot_list_append PySem.F.type_list_append mt_append (pv 2) (pa_cons (pv 4) pa_nil)))
      (pss_one (ps_set (i := 3) sc_phases.nd rfl (Or.inl rfl) (pe_lst pa_nil)))) pss_nil)
      (pss_one (ps_expr (pe_bm PySem.F.plainAttrs_list PySem.F.slot_list_append PySem.F.type_list_append mt_append (pv 3) (pa_cons (pv 5) pa_nil)))))))
      (pss_cons (ps_assert (pt_val (pe_callN (ok_is_parting (P := P) (w := w) (base := base) T) hr (pa_cons (pv 0) (pa_cons (pv 1) (pa_cons (pv 2) pa_nil))))))
      (pss_one (ps_ret (pv 2))))))),
    Mi.body_of (K := K) (E := E) (m := 2) (k := 4) (N := ["trace", "frames", "starts", "pages", "position", "page"]) rfl h (imp_seq (imp_asg (imp_lst imp_nil) impg_name) (imp_seq (imp_asg (imp_lst imp_nil) impg_name) (imp_seq (imp_for (imp_iE (imp_cons imp_var imp_nil)) (impg_tup (impgs_cons (impg_name) (impgs_cons (impg_name) impgs_nil))) (imp_seq (imp_ifS (imp_test (imp_op opi_in imp_var imp_var)) imp_cont imp_next) (imp_seq (imp_ifS (imp_or (imp_test (imp_op opi_eqD imp_var (imp_lst imp_nil))) (imp_test (imp_op opi_eqS (imp_cb cbi_len (imp_cons imp_var imp_nil)) imp_var))) (imp_seq (imp_drop (imp_bm mti_append imp_var (imp_cons imp_var imp_nil))) (imp_asg (imp_lst imp_nil) impg_name)) imp_next) (imp_drop (imp_bm mti_append imp_var (imp_cons imp_var imp_nil)))))) (imp_seq (imp_assert (imp_tB (imp_call (imp_cons imp_var (imp_cons imp_var (imp_cons imp_var imp_nil)))))) (imp_ret imp_var)))))⟩
theorem ok_phases (T : TX K mg) : DefOk P w K mg base (2) "phases" ["trace", "frames"] [] (Mi.spF K f_phases) := by
  obtain ⟨fd, F, h⟩ := fn_phases (P := P) (w := w) (base := base) T
  exact DefOk.of F (gl_phases T) (F.bindsN fun _ _ _ _ _ _ us hl => match us, hl with | [_, _], _ => rfl) h
theorem sc_l_names : FnScope ["_law_script", "_law_most", "_law_many", "_law_turn", "_law_wide", "_law_low", "_law_k"] ["_law_script", "_law_most"] (defScope s_l_names) := ⟨rfl, rfl, rfl, by decide +kernel, rfl, by decide +kernel, by decide +kernel⟩
noncomputable def f_l_names_c1 : Mi.Env → Mi.Sto → Mi.R Mi.D := (xLc (iR1 (xCons (xVar 2) xNil)) (gNameX 6) xYes (xOp (oI fun i j => .int (i - j)) (xOp (oIC CMul fun i j => .int (i * j)) (xVar 4) (xOp (oIC (fun _ j => 0 < j) fun i j => .int (i % j)) (xCB bInt (xCons (xOp (oIC CMul fun i j => .int (i * j)) (xVar 3) (xOp (oI fun i j => .int (i + j)) (xVar 6) (xC (.int 1)))) xNil)) (xC (.int 11)))) (xVar 5)) [6])
@[irreducible] noncomputable def f_l_names : List Mi.D → Mi.Sto → Mi.R Mi.D := Mi.defX 2 5 (xSeq (xAsg (xOp (oI fun i j => .int (i + j)) (xC (.int 1)) (xCall fNumber (xCons (xVar 0) (xCons (xC (.int 0)) (xCons (xC (.int 7)) (xCons (xVar 1) xNil)))))) (gNameX 2))
      (xSeq (xAsg (xOp (oI fun i j => .int (i + j)) (xC (.int 1)) (xCall fNumber (xCons (xVar 0) (xCons (xC (.int 0)) (xCons (xC (.int 6)) (xCons (xC (.int 10)) xNil)))))) (gNameX 3))
      (xSeq (xAsg (xOp oIxL (xLst (xCons (xC (.int 1)) (xCons (xC (.int 7)) (xCons (xC (.int 1000003)) (xCons (xUn oNeg (xC (.int 5))) xNil))))) (xCall fNumber (xCons (xVar 0) (xCons (xC (.int 0)) (xCons (xC (.int 8)) (xCons (xC (.int 4)) xNil)))))) (gNameX 4))
      (xSeq (xAsg (xOp oIxL (xLst (xCons (xC (.int 0)) (xCons (xC (.int 4)) (xCons (xC (.int 1000000000)) xNil)))) (xCall fNumber (xCons (xVar 0) (xCons (xC (.int 0)) (xCons (xC (.int 9)) (xCons (xC (.int 3)) xNil)))))) (gNameX 5))
      (xRet f_l_names_c1)))))
theorem f_l_names_eq : f_l_names = Mi.defX 2 5 (xSeq (xAsg (xOp (oI fun i j => .int (i + j)) (xC (.int 1)) (xCall fNumber (xCons (xVar 0) (xCons (xC (.int 0)) (xCons (xC (.int 7)) (xCons (xVar 1) xNil)))))) (gNameX 2))
      (xSeq (xAsg (xOp (oI fun i j => .int (i + j)) (xC (.int 1)) (xCall fNumber (xCons (xVar 0) (xCons (xC (.int 0)) (xCons (xC (.int 6)) (xCons (xC (.int 10)) xNil)))))) (gNameX 3))
      (xSeq (xAsg (xOp oIxL (xLst (xCons (xC (.int 1)) (xCons (xC (.int 7)) (xCons (xC (.int 1000003)) (xCons (xUn oNeg (xC (.int 5))) xNil))))) (xCall fNumber (xCons (xVar 0) (xCons (xC (.int 0)) (xCons (xC (.int 8)) (xCons (xC (.int 4)) xNil)))))) (gNameX 4))
      (xSeq (xAsg (xOp oIxL (xLst (xCons (xC (.int 0)) (xCons (xC (.int 4)) (xCons (xC (.int 1000000000)) xNil)))) (xCall fNumber (xCons (xVar 0) (xCons (xC (.int 0)) (xCons (xC (.int 9)) (xCons (xC (.int 3)) xNil)))))) (gNameX 5))
      (xRet f_l_names_c1))))) := by with_unfolding_all rfl
theorem fn_l_names (T : TX K mg) : ∃ fd, FunD K "_law_names" "_law_names" (defArgs s_l_names) (defBody s_l_names) (defScope s_l_names) [] [] (He.ga K "_law_names") fd ∧ FnOk P w K mg base CX0 (2) (He.ga K "_law_names") fd ["_law_script", "_law_most"] (Mi.spF K f_l_names) := by
  rw [f_l_names_eq]
  obtain ⟨fd, F⟩ := fd_l_names T
  refine ⟨fd, F, My.FunD.ok0 F sc_l_names (Mi.spF_len rfl) (fun cdv A outer s0 H vs Q E hr h => ?_)⟩
  have hu := hu_of hr
  exact ⟨_, (pss_cons (ps_set (i := 2) sc_l_names.nd rfl (Or.inl rfl) (pe_op op_add pe_int (pe_callN (okm_l_number (P := P) (w := w) (base := base) T) hr (pa_cons (pv 0) (pa_cons pe_int (pa_cons pe_int (pa_cons (pv 1) pa_nil)))))))
      (pss_cons (ps_set (i := 3) sc_l_names.nd rfl (Or.inr rfl) (pe_op op_add pe_int (pe_callN (okm_l_number (P := P) (w := w) (base := base) T) hr (pa_cons (pv 0) (pa_cons pe_int (pa_cons pe_int (pa_cons pe_int pa_nil)))))))
      (pss_cons (ps_set (i := 4) sc_l_names.nd rfl (Or.inr rfl) (pe_ix (ixL K) (pe_lst (pa_cons pe_int (pa_cons pe_int (pa_cons pe_int (pa_cons (pe_un un_neg pe_int) pa_nil))))) (pe_callN (okm_l_number (P := P) (w := w) (base := base) T) hr (pa_cons (pv 0) (pa_cons pe_int (pa_cons pe_int (pa_cons pe_int pa_nil))))) (fun _ _ => rfl)))
      (pss_cons (ps_set (i := 5) sc_l_names.nd rfl (Or.inr rfl) (pe_ix (ixL K) (pe_lst (pa_cons pe_int (pa_cons pe_int (pa_cons pe_int pa_nil)))) (pe_callN (okm_l_number (P := P) (w := w) (base := base) T) hr (pa_cons (pv 0) (pa_cons pe_int (pa_cons pe_int (pa_cons pe_int pa_nil))))) (fun _ _ => rfl)))
      (pss_one (ps_ret (pe_lc (own := [("_law_k", 6)]) rfl sc_l_names.nd (pi_range1 rfl (fr_range T) (pa_cons (pv 2) pa_nil)) (blkOk_by (own := [("_law_k", 6)]) (N := ["_law_script", "_law_most", "_law_many", "_law_turn", "_law_wide", "_law_low", "_law_k"]) (sc := defScope s_l_names) (by decide +kernel)) (fun _ _ _ _ _ => (pg_name (i := 6) sc_l_names.nd rfl (Or.inl rfl))) (fun _ _ _ _ _ => pts_nil) (fun _ _ _ _ _ => (pe_op op_sub (pe_op op_mul (pv 4) (pe_op op_mod (pe_callTy call_int1 (by rfl) (fr_int T) (by decide +kernel) (pa_cons (pe_op op_mul (pv 3) (pe_op op_add (pv 6) pe_int)) pa_nil)) pe_int)) (pv 5)))))))))),
    Mi.body_of (K := K) (E := E) (m := 2) (k := 5) (N := ["_law_script", "_law_most", "_law_many", "_law_turn", "_law_wide", "_law_low", "_law_k"]) rfl h (imp_seq (imp_asg (imp_op opi_add imp_int (imp_call (imp_cons imp_var (imp_cons imp_int (imp_cons imp_int (imp_cons imp_var imp_nil)))))) impg_name) (imp_seq (imp_asg (imp_op opi_add imp_int (imp_call (imp_cons imp_var (imp_cons imp_int (imp_cons imp_int (imp_cons imp_int imp_nil)))))) impg_name) (imp_seq (imp_asg (imp_op opi_ixL (imp_lst (imp_cons imp_int (imp_cons imp_int (imp_cons imp_int (imp_cons (imp_un uni_neg imp_int) imp_nil))))) (imp_call (imp_cons imp_var (imp_cons imp_int (imp_cons imp_int (imp_cons imp_int imp_nil)))))) impg_name) (imp_seq (imp_asg (imp_op opi_ixL (imp_lst (imp_cons imp_int (imp_cons imp_int (imp_cons imp_int imp_nil)))) (imp_call (imp_cons imp_var (imp_cons imp_int (imp_cons imp_int (imp_cons imp_int imp_nil)))))) impg_name) (imp_ret (imp_lc (imp_iR1 (imp_cons imp_var imp_nil)) (impg_name) imp_yes (imp_op opi_sub (imp_op opi_mul imp_var (imp_op opi_mod (imp_cb cbi_int (imp_cons (imp_op opi_mul imp_var (imp_op opi_add imp_var imp_int)) imp_nil)) imp_int)) imp_var) (by decide)))))))⟩
theorem ok_l_names (T : TX K mg) : DefOk P w K mg base (2) "_law_names" ["_law_script", "_law_most"] [] (Mi.spF K f_l_names) := by
  obtain ⟨fd, F, h⟩ := fn_l_names (P := P) (w := w) (base := base) T
  exact DefOk.of F (gl_l_names T) (F.bindsN fun _ _ _ _ _ _ us hl => match us, hl with | [_, _], _ => rfl) h
theorem sc_l_trace : FnScope ["_law_script", "_law_names_here", "_law_trace_here", "_law_at", "_law_kind", "_law_name"] ["_law_script", "_law_names_here"] (defScope s_l_trace) := ⟨rfl, rfl, rfl, by decide +kernel, rfl, by decide +kernel, by decide +kernel⟩
noncomputable def f_l_trace_t1 : Mi.Env → Mi.Sto → Mi.R Bool := (xAnd (xB (xOp oEqS (xVar 4) (xC (.int 5)))) (xB (xOp (oI fun i j => .bl (decide (j < i))) (xCB bLen (xCons (xVar 2) xNil)) (xC (.int 0)))))
noncomputable def f_l_trace_b1 : Mi.Env → Mi.Sto → Mi.RS := (xSeq (xAsg (xCall fNumber (xCons (xVar 0) (xCons (xVar 3) (xCons (xC (.int 1)) (xCons (xC (.int 6)) xNil))))) (gNameX 4))
      (xSeq (xAsg (xOp oIxL (xVar 1) (xCall fNumber (xCons (xVar 0) (xCons (xVar 3) (xCons (xC (.int 0)) (xCons (xCB bLen (xCons (xVar 1) xNil)) xNil)))))) (gNameX 5))
      (xSeq (xIfS (xB (xOp oEqS (xVar 4) (xC (.int 4)))) (xAsg (xOp oIxL (xVar 1) (xOp (oIC (fun _ j => 0 < j) fun i j => .int (i % j)) (xCB bInt (xCons (xVar 3) xNil)) (xCB bLen (xCons (xVar 1) xNil)))) (gNameX 5)) xNext)
      (xSeq (xIfS f_l_trace_t1 (xAsg (xOp oIxL (xVar 2) (xCall fNumber (xCons (xVar 0) (xCons (xVar 3) (xCons (xC (.int 2)) (xCons (xCB bLen (xCons (xVar 2) xNil)) xNil)))))) (gNameX 5)) xNext)
      (xDrop (xBM (mL gAppend) (xVar 2) (xCons (xVar 5) xNil)))))))
noncomputable def f_l_trace_l1 : Mi.Env → Mi.Sto → Mi.RS := (xFor (iR2 (xCons (xC (.int 1)) (xCons (xOp (oI fun i j => .int (i + j)) (xC (.int 1)) (xCall fNumber (xCons (xVar 0) (xCons (xC (.int 0)) (xCons (xC (.int 0)) (xCons (xC (.int 51)) xNil)))))) xNil))) (gNameX 3) f_l_trace_b1)
@[irreducible] noncomputable def f_l_trace : List Mi.D → Mi.Sto → Mi.R Mi.D := Mi.defX 2 4 (xSeq (xAsg (xLst xNil) (gNameX 2))
      (xSeq f_l_trace_l1
      (xRet (xVar 2))))
theorem f_l_trace_eq : f_l_trace = Mi.defX 2 4 (xSeq (xAsg (xLst xNil) (gNameX 2))
      (xSeq f_l_trace_l1
      (xRet (xVar 2)))) := by with_unfolding_all rfl
theorem fn_l_trace (T : TX K mg) : ∃ fd, FunD K "_law_trace" "_law_trace" (defArgs s_l_trace) (defBody s_l_trace) (defScope s_l_trace) [] [] (He.ga K "_law_trace") fd ∧ FnOk P w K mg base CX0 (2) (He.ga K "_law_trace") fd ["_law_script", "_law_names_here"] (Mi.spF K f_l_trace) := by
  rw [f_l_trace_eq]
  obtain ⟨fd, F⟩ := fd_l_trace T
  refine ⟨fd, F, My.FunD.ok0 F sc_l_trace (Mi.spF_len rfl) (fun cdv A outer s0 H vs Q E hr h => ?_)⟩
  have hu := hu_of hr
  exact ⟨_, (pss_cons (ps_set (i := 2) sc_l_trace.nd rfl (Or.inl rfl) (pe_lst pa_nil))
      (pss_cons (ps_for PassesOwn.never rfl (pi_range2 rfl (fr_range T) (pa_cons pe_int (pa_cons (pe_op op_add pe_int (pe_callN (okm_l_number (P := P) (w := w) (base := base) T) hr (pa_cons (pv 0) (pa_cons pe_int (pa_cons pe_int (pa_cons pe_int pa_nil)))))) pa_nil))) (pg_name (i := 3) sc_l_trace.nd rfl (Or.inl rfl)) (pss_cons (ps_set (i := 4) sc_l_trace.nd rfl (Or.inl rfl) (pe_callN (okm_l_number (P := P) (w := w) (base := base) T) hr (pa_cons (pv 0) (pa_cons (pv 3) (pa_cons pe_int (pa_cons pe_int pa_nil))))))
      (pss_cons (ps_set (i := 5) sc_l_trace.nd rfl (Or.inl rfl) (pe_ix (ixL K) (pv 1) (pe_callN (okm_l_number (P := P) (w := w) (base := base) T) hr (pa_cons (pv 0) (pa_cons (pv 3) (pa_cons pe_int (pa_cons (pe_callB (lenQ K) (by rfl) (fr_len T) PySem.boot_len (pa_cons (pv 1) pa_nil)) pa_nil))))) (fun _ _ => rfl)))
      (pss_cons (ps_if (pt_cmpR op_eq (pv 4) pe_int (nomark _)) (pss_one (ps_set (i := 5) sc_l_trace.nd rfl (Or.inl rfl) (pe_ix (ixL K) (pv 1) (pe_op op_mod (pe_callTy call_int1 (by rfl) (fr_int T) (by decide +kernel) (pa_cons (pv 3) pa_nil)) (pe_callB (lenQ K) (by rfl) (fr_len T) PySem.boot_len (pa_cons (pv 1) pa_nil))) (fun _ _ => rfl)))) pss_nil)
      (pss_cons (ps_if (PW.pt (pw_and (pt_cmpR op_eq (pv 4) pe_int (nomark _)) (pw_and1 (pt_cmpR op_gt (pe_callB (lenQ K) (by rfl) (fr_len T) PySem.boot_len (pa_cons (pv 2) pa_nil)) pe_int (nomark _))))) (pss_one (ps_set (i := 5) sc_l_trace.nd rfl (Or.inl rfl) (pe_ix (ixL K) (pv 2) (pe_callN (okm_l_number (P := P) (w := w) (base := base) T) hr (pa_cons (pv 0) (pa_cons (pv 3) (pa_cons pe_int (pa_cons (pe_callB (lenQ K) (by rfl) (fr_len T) PySem.boot_len (pa_cons (pv 2) pa_nil)) pa_nil))))) (fun _ _ => rfl)))) pss_nil)
      (pss_one (ps_expr (pe_bm PySem.F.plainAttrs_list PySem.F.slot_list_append PySem.F.type_list_append mt_append (pv 2) (pa_cons (pv 5) pa_nil)))))))))
      (pss_one (ps_ret (pv 2))))),
    Mi.body_of (K := K) (E := E) (m := 2) (k := 4) (N := ["_law_script", "_law_names_here", "_law_trace_here", "_law_at", "_law_kind", "_law_name"]) rfl h (imp_seq (imp_asg (imp_lst imp_nil) impg_name) (imp_seq (imp_for (imp_iR2 (imp_cons imp_int (imp_cons (imp_op opi_add imp_int (imp_call (imp_cons imp_var (imp_cons imp_int (imp_cons imp_int (imp_cons imp_int imp_nil)))))) imp_nil))) (impg_name) (imp_seq (imp_asg (imp_call (imp_cons imp_var (imp_cons imp_var (imp_cons imp_int (imp_cons imp_int imp_nil))))) impg_name) (imp_seq (imp_asg (imp_op opi_ixL imp_var (imp_call (imp_cons imp_var (imp_cons imp_var (imp_cons imp_int (imp_cons (imp_cb cbi_len (imp_cons imp_var imp_nil)) imp_nil)))))) impg_name) (imp_seq (imp_ifS (imp_test (imp_op opi_eqS imp_var imp_int)) (imp_asg (imp_op opi_ixL imp_var (imp_op opi_mod (imp_cb cbi_int (imp_cons imp_var imp_nil)) (imp_cb cbi_len (imp_cons imp_var imp_nil)))) impg_name) imp_next) (imp_seq (imp_ifS (imp_and (imp_test (imp_op opi_eqS imp_var imp_int)) (imp_test (imp_op opi_gt (imp_cb cbi_len (imp_cons imp_var imp_nil)) imp_int))) (imp_asg (imp_op opi_ixL imp_var (imp_call (imp_cons imp_var (imp_cons imp_var (imp_cons imp_int (imp_cons (imp_cb cbi_len (imp_cons imp_var imp_nil)) imp_nil)))))) impg_name) imp_next) (imp_drop (imp_bm mti_append imp_var (imp_cons imp_var imp_nil)))))))) (imp_ret imp_var)))⟩
theorem ok_l_trace (T : TX K mg) : DefOk P w K mg base (2) "_law_trace" ["_law_script", "_law_names_here"] [] (Mi.spF K f_l_trace) := by
  obtain ⟨fd, F, h⟩ := fn_l_trace (P := P) (w := w) (base := base) T
  exact DefOk.of F (gl_l_trace T) (F.bindsN fun _ _ _ _ _ _ us hl => match us, hl with | [_, _], _ => rfl) h
theorem sc_l_different : FnScope ["_law_row", "_law_seen", "_law_one"] ["_law_row"] (defScope s_l_different) := ⟨rfl, rfl, rfl, by decide +kernel, rfl, by decide +kernel, by decide +kernel⟩
noncomputable def f_l_different_b1 : Mi.Env → Mi.Sto → Mi.RS := (xIfS (xB (xOp (oIn true) (xVar 2) (xVar 1))) (xDrop (xBM (mL gAppend) (xVar 1) (xCons (xVar 2) xNil))) xNext)
noncomputable def f_l_different_l1 : Mi.Env → Mi.Sto → Mi.RS := (xFor (iL (xVar 0)) (gNameX 2) f_l_different_b1)
@[irreducible] noncomputable def f_l_different : List Mi.D → Mi.Sto → Mi.R Mi.D := Mi.defX 1 2 (xSeq (xAsg (xLst xNil) (gNameX 1))
      (xSeq f_l_different_l1
      (xRet (xCB bLen (xCons (xVar 1) xNil)))))
theorem f_l_different_eq : f_l_different = Mi.defX 1 2 (xSeq (xAsg (xLst xNil) (gNameX 1))
      (xSeq f_l_different_l1
      (xRet (xCB bLen (xCons (xVar 1) xNil))))) := by with_unfolding_all rfl
theorem fn_l_different (T : TX K mg) : ∃ fd, FunD K "_law_different" "_law_different" (defArgs s_l_different) (defBody s_l_different) (defScope s_l_different) [] [] (He.ga K "_law_different") fd ∧ FnOk P w K mg base CX0 (1) (He.ga K "_law_different") fd ["_law_row"] (Mi.spF K f_l_different) := by
  rw [f_l_different_eq]
  obtain ⟨fd, F⟩ := fd_l_different T
  refine ⟨fd, F, My.FunD.ok0 F sc_l_different (Mi.spF_len rfl) (fun cdv A outer s0 H vs Q E hr h => ?_)⟩
  have hu := hu_of hr
  exact ⟨_, (pss_cons (ps_set (i := 1) sc_l_different.nd rfl (Or.inl rfl) (pe_lst pa_nil))
      (pss_cons (ps_for PassesOwn.never rfl (pi_list (pv 0)) (pg_name (i := 2) sc_l_different.nd rfl (Or.inl rfl)) (pss_one (ps_if (pt_cmpR (niQ K) (pv 2) (pv 1) rfl) (pss_one (ps_expr (pe_bm PySem.F.plainAttrs_list PySem.F.slot_list_append PySem.F.type_list_append mt_append (pv 1) (pa_cons (pv 2) pa_nil)))) pss_nil)))
      (pss_one (ps_ret (pe_callB (lenQ K) (by rfl) (fr_len T) PySem.boot_len (pa_cons (pv 1) pa_nil)))))),
    Mi.body_of (K := K) (E := E) (m := 1) (k := 2) (N := ["_law_row", "_law_seen", "_law_one"]) rfl h (imp_seq (imp_asg (imp_lst imp_nil) impg_name) (imp_seq (imp_for (imp_iL imp_var) (impg_name) (imp_ifS (imp_test (imp_op opi_in imp_var imp_var)) (imp_drop (imp_bm mti_append imp_var (imp_cons imp_var imp_nil))) imp_next)) (imp_ret (imp_cb cbi_len (imp_cons imp_var imp_nil)))))⟩
theorem ok_l_different (T : TX K mg) : DefOk P w K mg base (1) "_law_different" ["_law_row"] [] (Mi.spF K f_l_different) := by
  obtain ⟨fd, F, h⟩ := fn_l_different (P := P) (w := w) (base := base) T
  exact DefOk.of F (gl_l_different T) (F.bindsN fun _ _ _ _ _ _ us hl => match us, hl with | [_], _ => rfl) h
theorem sc_l_stretches : FnScope ["_law_trace_here", "_law_many", "_law_found", "_law_at"] ["_law_trace_here", "_law_many"] (defScope s_l_stretches) := ⟨rfl, rfl, rfl, by decide +kernel, rfl, by decide +kernel, by decide +kernel⟩
noncomputable def f_l_stretches_t1 : Mi.Env → Mi.Sto → Mi.R Bool := (xOr (xB (xOp oEqS (xCB bLen (xCons (xVar 2) xNil)) (xC (.int 0)))) (xB (xOp (oI fun i j => .bl (decide (j < i))) (xCall f_l_different (xCons (xSl oSlL (xVar 0) (xPart (xOp oIxL (xVar 2) (xOp (oI fun i j => .int (i - j)) (xCB bLen (xCons (xVar 2) xNil)) (xC (.int 1))))) (xPart (xOp (oI fun i j => .int (i + j)) (xVar 3) (xC (.int 1))))) xNil)) (xVar 1))))
noncomputable def f_l_stretches_b1 : Mi.Env → Mi.Sto → Mi.RS := (xIfS f_l_stretches_t1 (xDrop (xBM (mL gAppend) (xVar 2) (xCons (xVar 3) xNil))) xNext)
noncomputable def f_l_stretches_l1 : Mi.Env → Mi.Sto → Mi.RS := (xFor (iR1 (xCons (xCB bLen (xCons (xVar 0) xNil)) xNil)) (gNameX 3) f_l_stretches_b1)
@[irreducible] noncomputable def f_l_stretches : List Mi.D → Mi.Sto → Mi.R Mi.D := Mi.defX 2 2 (xSeq (xAsg (xLst xNil) (gNameX 2))
      (xSeq f_l_stretches_l1
      (xRet (xVar 2))))
theorem f_l_stretches_eq : f_l_stretches = Mi.defX 2 2 (xSeq (xAsg (xLst xNil) (gNameX 2))
      (xSeq f_l_stretches_l1
      (xRet (xVar 2)))) := by with_unfolding_all rfl
theorem fn_l_stretches (T : TX K mg) : ∃ fd, FunD K "_law_stretches" "_law_stretches" (defArgs s_l_stretches) (defBody s_l_stretches) (defScope s_l_stretches) [] [] (He.ga K "_law_stretches") fd ∧ FnOk P w K mg base CX0 (2) (He.ga K "_law_stretches") fd ["_law_trace_here", "_law_many"] (Mi.spF K f_l_stretches) := by
  rw [f_l_stretches_eq]
  obtain ⟨fd, F⟩ := fd_l_stretches T
  refine ⟨fd, F, My.FunD.ok0 F sc_l_stretches (Mi.spF_len rfl) (fun cdv A outer s0 H vs Q E hr h => ?_)⟩
  have hu := hu_of hr
  exact ⟨_, (pss_cons (ps_set (i := 2) sc_l_stretches.nd rfl (Or.inl rfl) (pe_lst pa_nil))
      (pss_cons (ps_for PassesOwn.never rfl (pi_range1 rfl (fr_range T) (pa_cons (pe_callB (lenQ K) (by rfl) (fr_len T) PySem.boot_len (pa_cons (pv 0) pa_nil)) pa_nil)) (pg_name (i := 3) sc_l_stretches.nd rfl (Or.inl rfl)) (pss_one (ps_if (PW.pt (pw_or (pt_cmpR op_eq (pe_callB (lenQ K) (by rfl) (fr_len T) PySem.boot_len (pa_cons (pv 2) pa_nil)) pe_int (nomark _)) (pw_or1 (pt_cmpR op_gt (pe_callN (ok_l_different (P := P) (w := w) (base := base) T) hr (pa_cons (pe_slice (slL K) (pv 0) (po_some (pe_ix (ixL K) (pv 2) (pe_op op_sub (pe_callB (lenQ K) (by rfl) (fr_len T) PySem.boot_len (pa_cons (pv 2) pa_nil)) pe_int) (fun _ _ => rfl))) (po_some (pe_op op_add (pv 3) pe_int))) pa_nil)) (pv 1) (nomark _))))) (pss_one (ps_expr (pe_bm PySem.F.plainAttrs_list PySem.F.slot_list_append PySem.F.type_list_append mt_append (pv 2) (pa_cons (pv 3) pa_nil)))) pss_nil)))
      (pss_one (ps_ret (pv 2))))),
    Mi.body_of (K := K) (E := E) (m := 2) (k := 2) (N := ["_law_trace_here", "_law_many", "_law_found", "_law_at"]) rfl h (imp_seq (imp_asg (imp_lst imp_nil) impg_name) (imp_seq (imp_for (imp_iR1 (imp_cons (imp_cb cbi_len (imp_cons imp_var imp_nil)) imp_nil)) (impg_name) (imp_ifS (imp_or (imp_test (imp_op opi_eqS (imp_cb cbi_len (imp_cons imp_var imp_nil)) imp_int)) (imp_test (imp_op opi_gt (imp_call (imp_cons (imp_sl sli_L imp_var (imp_part (imp_op opi_ixL imp_var (imp_op opi_sub (imp_cb cbi_len (imp_cons imp_var imp_nil)) imp_int))) (imp_part (imp_op opi_add imp_var imp_int))) imp_nil)) imp_var))) (imp_drop (imp_bm mti_append imp_var (imp_cons imp_var imp_nil))) imp_next)) (imp_ret imp_var)))⟩
theorem ok_l_stretches (T : TX K mg) : DefOk P w K mg base (2) "_law_stretches" ["_law_trace_here", "_law_many"] [] (Mi.spF K f_l_stretches) := by
  obtain ⟨fd, F, h⟩ := fn_l_stretches (P := P) (w := w) (base := base) T
  exact DefOk.of F (gl_l_stretches T) (F.bindsN fun _ _ _ _ _ _ us hl => match us, hl with | [_, _], _ => rfl) h
theorem sc_l_fewest_stretches : FnScope ["_law_trace_here", "_law_many", "_law_best", "_law_t", "_law_seen", "_law_low", "_law_b"] ["_law_trace_here", "_law_many"] (defScope s_l_fewest_stretches) := ⟨rfl, rfl, rfl, by decide +kernel, rfl, by decide +kernel, by decide +kernel⟩
noncomputable def f_l_fewest_stretches_b1 : Mi.Env → Mi.Sto → Mi.RS := (xSeq (xIfS (xB (xOp (oIn true) (xOp oIxL (xVar 0) (xVar 6)) (xVar 4))) (xDrop (xBM (mL gAppend) (xVar 4) (xCons (xOp oIxL (xVar 0) (xVar 6)) xNil))) xNext)
      (xSeq (xIfS (xB (xOp (oI fun i j => .bl (decide (j < i))) (xCB bLen (xCons (xVar 4) xNil)) (xVar 1))) xBreak xNext)
      (xAsg (xCB (bInt2 fun i j => .int (if j < i then j else i)) (xCons (xVar 5) (xCons (xOp (oI fun i j => .int (i + j)) (xOp oIxL (xVar 2) (xVar 6)) (xC (.int 1))) xNil))) (gNameX 5))))
noncomputable def f_l_fewest_stretches_l1 : Mi.Env → Mi.Sto → Mi.RS := (xFor (iR3 (xCons (xOp (oI fun i j => .int (i - j)) (xVar 3) (xC (.int 1))) (xCons (xUn oNeg (xC (.int 1))) (xCons (xUn oNeg (xC (.int 1))) xNil)))) (gNameX 6) f_l_fewest_stretches_b1)
noncomputable def f_l_fewest_stretches_b2 : Mi.Env → Mi.Sto → Mi.RS := (xSeq (xAsg (xLst xNil) (gNameX 4))
      (xSeq (xAsg (xVar 3) (gNameX 5))
      (xSeq f_l_fewest_stretches_l1
      (xDrop (xBM (mL gAppend) (xVar 2) (xCons (xVar 5) xNil))))))
noncomputable def f_l_fewest_stretches_l2 : Mi.Env → Mi.Sto → Mi.RS := (xFor (iR2 (xCons (xC (.int 1)) (xCons (xOp (oI fun i j => .int (i + j)) (xCB bLen (xCons (xVar 0) xNil)) (xC (.int 1))) xNil))) (gNameX 3) f_l_fewest_stretches_b2)
@[irreducible] noncomputable def f_l_fewest_stretches : List Mi.D → Mi.Sto → Mi.R Mi.D := Mi.defX 2 5 (xSeq (xAsg (xLst (xCons (xC (.int 0)) xNil)) (gNameX 2))
      (xSeq f_l_fewest_stretches_l2
      (xRet (xOp oIxL (xVar 2) (xCB bLen (xCons (xVar 0) xNil))))))
theorem f_l_fewest_stretches_eq : f_l_fewest_stretches = Mi.defX 2 5 (xSeq (xAsg (xLst (xCons (xC (.int 0)) xNil)) (gNameX 2))
      (xSeq f_l_fewest_stretches_l2
      (xRet (xOp oIxL (xVar 2) (xCB bLen (xCons (xVar 0) xNil)))))) := by with_unfolding_all rfl
theorem fn_l_fewest_stretches (T : TX K mg) : ∃ fd, FunD K "_law_fewest_stretches" "_law_fewest_stretches" (defArgs s_l_fewest_stretches) (defBody s_l_fewest_stretches) (defScope s_l_fewest_stretches) [] [] (He.ga K "_law_fewest_stretches") fd ∧ FnOk P w K mg base CX0 (1) (He.ga K "_law_fewest_stretches") fd ["_law_trace_here", "_law_many"] (Mi.spF K f_l_fewest_stretches) := by
  rw [f_l_fewest_stretches_eq]
  obtain ⟨fd, F⟩ := fd_l_fewest_stretches T
  refine ⟨fd, F, My.FunD.ok0 F sc_l_fewest_stretches (Mi.spF_len rfl) (fun cdv A outer s0 H vs Q E hr h => ?_)⟩
  have hu := hu_of hr
  exact ⟨_, (pss_cons (ps_set (i := 2) sc_l_fewest_stretches.nd rfl (Or.inl rfl) (pe_lst (pa_cons pe_int pa_nil)))
      (pss_cons (ps_for PassesOwn.never rfl (pi_range2 rfl (fr_range T) (pa_cons pe_int (pa_cons (pe_op op_add (pe_callB (lenQ K) (by rfl) (fr_len T) PySem.boot_len (pa_cons (pv 0) pa_nil)) pe_int) pa_nil))) (pg_name (i := 3) sc_l_fewest_stretches.nd rfl (Or.inl rfl)) (pss_cons (ps_set (i := 4) sc_l_fewest_stretches.nd rfl (Or.inl rfl) (pe_lst pa_nil))
      (pss_cons (ps_set (i := 5) sc_l_fewest_stretches.nd rfl (Or.inl rfl) (pv 3))
      (pss_cons (ps_for PassesOwn.never rfl (pi_range3 rfl (fr_range T) (pa_cons (pe_op op_sub (pv 3) pe_int) (pa_cons (pe_un un_neg pe_int) (pa_cons (pe_un un_neg pe_int) pa_nil)))) (pg_name (i := 6) sc_l_fewest_stretches.nd rfl (Or.inl rfl)) (pss_cons (ps_if (pt_cmpR (niQ K) (pe_ix (ixL K) (pv 0) (pv 6) (fun _ _ => rfl)) (pv 4) rfl) (pss_one (ps_expr (pe_bm PySem.F.plainAttrs_list PySem.F.slot_list_append PySem.F.type_list_append mt_append (pv 4) (pa_cons (pe_ix (ixL K) (pv 0) (pv 6) (fun _ _ => rfl)) pa_nil)))) pss_nil)
      (pss_cons (ps_if (pt_cmpR op_gt (pe_callB (lenQ K) (by rfl) (fr_len T) PySem.boot_len (pa_cons (pv 4) pa_nil)) (pv 1) (nomark _)) (pss_one ps_break) pss_nil)
      (pss_one (ps_set (i := 5) sc_l_fewest_stretches.nd rfl (Or.inl rfl) (pe_callB (call_min2 rfl) (by rfl) (fr_min T) (by decide +kernel) (pa_cons (pv 5) (pa_cons (pe_op op_add (pe_ix (ixL K) (pv 2) (pv 6) (fun _ _ => rfl)) pe_int) pa_nil))))))))
      (pss_one (ps_expr (pe_bm PySem.F.plainAttrs_list PySem.F.slot_list_append PySem.F.type_list_append mt_append (pv 2) (pa_cons (pv 5) pa_nil))))))))
      (pss_one (ps_ret (pe_ix (ixL K) (pv 2) (pe_callB (lenQ K) (by rfl) (fr_len T) PySem.boot_len (pa_cons (pv 0) pa_nil)) (fun _ _ => rfl)))))),
    Mi.body_of (K := K) (E := E) (m := 2) (k := 5) (N := ["_law_trace_here", "_law_many", "_law_best", "_law_t", "_law_seen", "_law_low", "_law_b"]) rfl h (imp_seq (imp_asg (imp_lst (imp_cons imp_int imp_nil)) impg_name) (imp_seq (imp_for (imp_iR2 (imp_cons imp_int (imp_cons (imp_op opi_add (imp_cb cbi_len (imp_cons imp_var imp_nil)) imp_int) imp_nil))) (impg_name) (imp_seq (imp_asg (imp_lst imp_nil) impg_name) (imp_seq (imp_asg imp_var impg_name) (imp_seq (imp_for (imp_iR3 (imp_cons (imp_op opi_sub imp_var imp_int) (imp_cons (imp_un uni_neg imp_int) (imp_cons (imp_un uni_neg imp_int) imp_nil)))) (impg_name) (imp_seq (imp_ifS (imp_test (imp_op opi_in (imp_op opi_ixL imp_var imp_var) imp_var)) (imp_drop (imp_bm mti_append imp_var (imp_cons (imp_op opi_ixL imp_var imp_var) imp_nil))) imp_next) (imp_seq (imp_ifS (imp_test (imp_op opi_gt (imp_cb cbi_len (imp_cons imp_var imp_nil)) imp_var)) imp_break imp_next) (imp_asg (imp_cb cbi_min2 (imp_cons imp_var (imp_cons (imp_op opi_add (imp_op opi_ixL imp_var imp_var) imp_int) imp_nil))) impg_name)))) (imp_drop (imp_bm mti_append imp_var (imp_cons imp_var imp_nil))))))) (imp_ret (imp_op opi_ixL imp_var (imp_cb cbi_len (imp_cons imp_var imp_nil))))))⟩
theorem ok_l_fewest_stretches (T : TX K mg) : DefOk P w K mg base (1) "_law_fewest_stretches" ["_law_trace_here", "_law_many"] [] (Mi.spF K f_l_fewest_stretches) := by
  obtain ⟨fd, F, h⟩ := fn_l_fewest_stretches (P := P) (w := w) (base := base) T
  exact DefOk.of F (gl_l_fewest_stretches T) (F.bindsN fun _ _ _ _ _ _ us hl => match us, hl with | [_, _], _ => rfl) h
theorem sc_law : FnScope ["_law_script", "_law_trace_here", "_law_many", "_law_wide", "_law_due", "_law_at", "_law_size", "_law_handed", "_law_told"] ["_law_script"] (defScope s_law) := ⟨rfl, rfl, rfl, by decide +kernel, rfl, by decide +kernel, by decide +kernel⟩
noncomputable def f_law_c1 : Mi.Env → Mi.Sto → Mi.R Mi.D := (xLc (iR1 (xCons (xCB bLen (xCons (xVar 1) xNil)) xNil)) (gNameX 5) xYes (xCall f_l_different (xCons (xSl oSlL (xVar 1) (xPart (xCB (bInt2 fun i j => .int (if j > i then j else i)) (xCons (xC (.int 0)) (xCons (xOp (oI fun i j => .int (i + j)) (xOp (oI fun i j => .int (i - j)) (xVar 5) (xVar 3)) (xC (.int 1))) xNil)))) (xPart (xOp (oI fun i j => .int (i + j)) (xVar 5) (xC (.int 1))))) xNil)) [5])
noncomputable def f_law_t1 : Mi.Env → Mi.Sto → Mi.R Bool := (xOr (xNot (xB (xCall (fSame 3) (xCons (xVar 8) (xCons (xVar 4) xNil))))) (xB (xOp (oEqD true) (xVar 7) (xVar 1))))
noncomputable def f_law_t2 : Mi.Env → Mi.Sto → Mi.R Bool := (xOr (xNot (xB (xCall (fSame 3) (xCons (xVar 8) (xCons (xCall f_l_stretches (xCons (xVar 1) (xCons (xVar 6) xNil))) xNil))))) (xB (xOp (oEqD true) (xVar 7) (xVar 1))))
noncomputable def f_law_b1 : Mi.Env → Mi.Sto → Mi.RS := (xSeq (xAsg (xCB bList (xCons (xVar 1) xNil)) (gNameX 7))
      (xSeq (xAsg (xCall f_working_set (xCons (xVar 7) (xCons (xVar 3) xNil))) (gNameX 8))
      (xSeq (xIfS f_law_t1 (xRet (xC (.bl false))) xNext)
      (xSeq (xDrop (xBM (mL gAppend) (xVar 8) (xCons (xVar 6) xNil)))
      (xSeq (xAsg (xCall f_phases (xCons (xVar 7) (xCons (xVar 6) xNil))) (gNameX 8))
      (xSeq (xIfS f_law_t2 (xRet (xC (.bl false))) xNext)
      (xSeq (xIfS (xB (xOp oNeS (xCB bLen (xCons (xVar 8) xNil)) (xCall f_l_fewest_stretches (xCons (xVar 1) (xCons (xVar 6) xNil))))) (xRet (xC (.bl false))) xNext)
      (xDrop (xBM (mL gAppend) (xVar 8) (xCons (xVar 6) xNil))))))))))
noncomputable def f_law_l1 : Mi.Env → Mi.Sto → Mi.RS := (xFor (iL (xLst (xCons (xVar 2) (xCons (xOp (oI fun i j => .int (i + j)) (xVar 2) (xC (.int 2))) (xCons (xVar 2) xNil))))) (gNameX 6) f_law_b1)
@[irreducible] noncomputable def f_law : List Mi.D → Mi.Sto → Mi.R Mi.D := Mi.defX 1 8 (xSeq (xAsg (xCall f_l_trace (xCons (xVar 0) (xCons (xCall f_l_names (xCons (xVar 0) (xCons (xC (.int 9)) xNil))) xNil))) (gNameX 1))
      (xSeq (xAsg (xOp (oI fun i j => .int (i + j)) (xC (.int 1)) (xCall fNumber (xCons (xVar 0) (xCons (xC (.int 0)) (xCons (xC (.int 1)) (xCons (xC (.int 6)) xNil)))))) (gNameX 2))
      (xSeq (xAsg (xOp (oI fun i j => .int (i + j)) (xC (.int 1)) (xCall fNumber (xCons (xVar 0) (xCons (xC (.int 0)) (xCons (xC (.int 2)) (xCons (xC (.int 60)) xNil)))))) (gNameX 3))
      (xSeq (xAsg f_law_c1 (gNameX 4))
      (xSeq f_law_l1
      (xRet (xC (.bl true))))))))
theorem f_law_eq : f_law = Mi.defX 1 8 (xSeq (xAsg (xCall f_l_trace (xCons (xVar 0) (xCons (xCall f_l_names (xCons (xVar 0) (xCons (xC (.int 9)) xNil))) xNil))) (gNameX 1))
      (xSeq (xAsg (xOp (oI fun i j => .int (i + j)) (xC (.int 1)) (xCall fNumber (xCons (xVar 0) (xCons (xC (.int 0)) (xCons (xC (.int 1)) (xCons (xC (.int 6)) xNil)))))) (gNameX 2))
      (xSeq (xAsg (xOp (oI fun i j => .int (i + j)) (xC (.int 1)) (xCall fNumber (xCons (xVar 0) (xCons (xC (.int 0)) (xCons (xC (.int 2)) (xCons (xC (.int 60)) xNil)))))) (gNameX 3))
      (xSeq (xAsg f_law_c1 (gNameX 4))
      (xSeq f_law_l1
      (xRet (xC (.bl true)))))))) := by with_unfolding_all rfl
theorem fn_law (T : TX K mg) : ∃ fd, FunD K "law" "law" (defArgs s_law) (defBody s_law) (defScope s_law) [] [] (He.ga K "law") fd ∧ FnOk P w K mg base CX0 (6) (He.ga K "law") fd ["_law_script"] (Mi.spF K f_law) := by
  rw [f_law_eq]
  obtain ⟨fd, F⟩ := fd_law T
  refine ⟨fd, F, My.FunD.ok0 F sc_law (Mi.spF_len rfl) (fun cdv A outer s0 H vs Q E hr h => ?_)⟩
  have hu := hu_of hr
  exact ⟨_, (pss_cons (ps_set (i := 1) sc_law.nd rfl (Or.inr rfl) (pe_callN (ok_l_trace (P := P) (w := w) (base := base) T) hr (pa_cons (pv 0) (pa_cons (pe_callN (ok_l_names (P := P) (w := w) (base := base) T) hr (pa_cons (pv 0) (pa_cons pe_int pa_nil))) pa_nil))))
      (pss_cons (ps_set (i := 2) sc_law.nd rfl (Or.inl rfl) (pe_op op_add pe_int (pe_callN (okm_l_number (P := P) (w := w) (base := base) T) hr (pa_cons (pv 0) (pa_cons pe_int (pa_cons pe_int (pa_cons pe_int pa_nil)))))))
      (pss_cons (ps_set (i := 3) sc_law.nd rfl (Or.inr rfl) (pe_op op_add pe_int (pe_callN (okm_l_number (P := P) (w := w) (base := base) T) hr (pa_cons (pv 0) (pa_cons pe_int (pa_cons pe_int (pa_cons pe_int pa_nil)))))))
      (pss_cons (ps_setLc (i := 4) (own := [("_law_at", 5)]) rfl sc_law.nd rfl rfl (sw_true rfl rfl rfl (by decide +kernel)) (pi_range1 rfl (fr_range T) (pa_cons (pe_callB (lenQ K) (by rfl) (fr_len T) PySem.boot_len (pa_cons (pv 1) pa_nil)) pa_nil)) (blkOk_by (own := [("_law_at", 5)]) (N := ["_law_script", "_law_trace_here", "_law_many", "_law_wide", "_law_due", "_law_at", "_law_size", "_law_handed", "_law_told"]) (sc := defScope s_law) (by decide +kernel)) (fun _ _ _ _ _ => (pg_name (i := 5) sc_law.nd rfl (Or.inl rfl))) (fun _ _ _ _ _ => pts_nil) (fun _ _ _ _ _ => (pe_callN (ok_l_different (P := P) (w := w) (base := base) T) hr (pa_cons (pe_slice (slL K) (pv 1) (po_some (pe_callB (call_max2 rfl) (by rfl) (fr_max T) (by decide +kernel) (pa_cons pe_int (pa_cons (pe_op op_add (pe_op op_sub (pv 5) (pv 3)) pe_int) pa_nil)))) (po_some (pe_op op_add (pv 5) pe_int))) pa_nil))))
      (pss_cons (ps_for PassesOwn.never rfl (pi_list (pe_lst (pa_cons (pv 2) (pa_cons (pe_op op_add (pv 2) pe_int) (pa_cons (pv 2) pa_nil))))) (pg_name (i := 6) sc_law.nd rfl (Or.inl rfl)) (pss_cons (ps_set (i := 7) sc_law.nd rfl (Or.inl rfl) (pe_callTy (listQ K) (by rfl) (fr_list T) (by decide +kernel) (pa_cons (pv 1) pa_nil)))
      (pss_cons (ps_set (i := 8) sc_law.nd rfl (Or.inl rfl) (pe_callN (ok_working_set (P := P) (w := w) (base := base) T) hr (pa_cons (pv 7) (pa_cons (pv 3) pa_nil))))
      (pss_cons (ps_if (PW.pt (pw_or (pt_not (pt_val (pe_callN (okm_l_same (P := P) (w := w) (base := base) T 3) hr (pa_cons (pv 8) (pa_cons (pv 4) pa_nil))))) (pw_or1 (pt_cmpR (neD K hr.units) (pv 7) (pv 1) (nomark _))))) (pss_one (ps_ret pe_bl)) pss_nil)
      (pss_cons (ps_expr (pe_bm PySem.F.plainAttrs_list PySem.F.slot_list_append PySem.F.type_list_append mt_append (pv 8) (pa_cons (pv 6) pa_nil)))
      (pss_cons (ps_set (i := 8) sc_law.nd rfl (Or.inl rfl) (pe_callN (ok_phases (P := P) (w := w) (base := base) T) hr (pa_cons (pv 7) (pa_cons (pv 6) pa_nil))))
      (pss_cons (ps_if (PW.pt (pw_or (pt_not (pt_val (pe_callN (okm_l_same (P := P) (w := w) (base := base) T 3) hr (pa_cons (pv 8) (pa_cons (pe_callN (ok_l_stretches (P := P) (w := w) (base := base) T) hr (pa_cons (pv 1) (pa_cons (pv 6) pa_nil))) pa_nil))))) (pw_or1 (pt_cmpR (neD K hr.units) (pv 7) (pv 1) (nomark _))))) (pss_one (ps_ret pe_bl)) pss_nil)
      (pss_cons (ps_if (pt_cmpR op_ne (pe_callB (lenQ K) (by rfl) (fr_len T) PySem.boot_len (pa_cons (pv 8) pa_nil)) (pe_callN (ok_l_fewest_stretches (P := P) (w := w) (base := base) T) hr (pa_cons (pv 1) (pa_cons (pv 6) pa_nil))) (nomark _)) (pss_one (ps_ret pe_bl)) pss_nil)
      (pss_one (ps_expr (pe_bm PySem.F.plainAttrs_list PySem.F.slot_list_append PySem.F.type_list_append mt_append (pv 8) (pa_cons (pv 6) pa_nil))))))))))))
      (pss_one (ps_ret pe_bl))))))),
    Mi.body_of (K := K) (E := E) (m := 1) (k := 8) (N := ["_law_script", "_law_trace_here", "_law_many", "_law_wide", "_law_due", "_law_at", "_law_size", "_law_handed", "_law_told"]) rfl h (imp_seq (imp_asg (imp_call (imp_cons imp_var (imp_cons (imp_call (imp_cons imp_var (imp_cons imp_int imp_nil))) imp_nil))) impg_name) (imp_seq (imp_asg (imp_op opi_add imp_int (imp_call (imp_cons imp_var (imp_cons imp_int (imp_cons imp_int (imp_cons imp_int imp_nil)))))) impg_name) (imp_seq (imp_asg (imp_op opi_add imp_int (imp_call (imp_cons imp_var (imp_cons imp_int (imp_cons imp_int (imp_cons imp_int imp_nil)))))) impg_name) (imp_seq (imp_asg (imp_lc (imp_iR1 (imp_cons (imp_cb cbi_len (imp_cons imp_var imp_nil)) imp_nil)) (impg_name) imp_yes (imp_call (imp_cons (imp_sl sli_L imp_var (imp_part (imp_cb cbi_max2 (imp_cons imp_int (imp_cons (imp_op opi_add (imp_op opi_sub imp_var imp_var) imp_int) imp_nil)))) (imp_part (imp_op opi_add imp_var imp_int))) imp_nil)) (by decide)) impg_name) (imp_seq (imp_for (imp_iL (imp_lst (imp_cons imp_var (imp_cons (imp_op opi_add imp_var imp_int) (imp_cons imp_var imp_nil))))) (impg_name) (imp_seq (imp_asg (imp_cb cbi_list (imp_cons imp_var imp_nil)) impg_name) (imp_seq (imp_asg (imp_call (imp_cons imp_var (imp_cons imp_var imp_nil))) impg_name) (imp_seq (imp_ifS (imp_or (imp_not (imp_tB (imp_call (imp_cons imp_var (imp_cons imp_var imp_nil))))) (imp_test (imp_op opi_neD imp_var imp_var))) (imp_ret imp_bl) imp_next) (imp_seq (imp_drop (imp_bm mti_append imp_var (imp_cons imp_var imp_nil))) (imp_seq (imp_asg (imp_call (imp_cons imp_var (imp_cons imp_var imp_nil))) impg_name) (imp_seq (imp_ifS (imp_or (imp_not (imp_tB (imp_call (imp_cons imp_var (imp_cons (imp_call (imp_cons imp_var (imp_cons imp_var imp_nil))) imp_nil))))) (imp_test (imp_op opi_neD imp_var imp_var))) (imp_ret imp_bl) imp_next) (imp_seq (imp_ifS (imp_test (imp_op opi_neS (imp_cb cbi_len (imp_cons imp_var imp_nil)) (imp_call (imp_cons imp_var (imp_cons imp_var imp_nil))))) (imp_ret imp_bl) imp_next) (imp_drop (imp_bm mti_append imp_var (imp_cons imp_var imp_nil))))))))))) (imp_ret imp_bl))))))⟩
theorem ok_law (T : TX K mg) : DefOk P w K mg base (6) "law" ["_law_script"] [] (Mi.spF K f_law) := by
  obtain ⟨fd, F, h⟩ := fn_law (P := P) (w := w) (base := base) T
  exact DefOk.of F (gl_law T) (F.bindsN fun _ _ _ _ _ _ us hl => match us, hl with | [_], _ => rfl) h
end

section
open Mi
/-! ### the greedy parting -/
section
variable (ns : List Int) (m : Nat)
def Gr : Nat → List Nat
  | 0 => []
  | i + 1 => match (Gr i).getLast? with
    | none => [i]
    | some b => if m < cnt (sl ns b (i + 1)) then Gr i ++ [i] else Gr i
end
section
variable {ns : List Int} {m : Nat}
theorem cnt_one {i : Nat} : cnt (sl ns i (i + 1)) ≤ 1 := by
  refine Nat.le_trans cnt_le ?_
  unfold sl
  rw [List.length_take]
  omega
structure Lst (ns : List Int) (m t b : Nat) : Prop where
  e : Gr ns m t = Gr ns m (b + 1)
  e1 : Gr ns m (b + 1) = Gr ns m b ++ [b]
  lt : b < t
  le : cnt (sl ns b t) ≤ m
  gt : ∀ s, (Gr ns m b).getLast? = some s → m < cnt (sl ns s (b + 1))
theorem Lst.get {t b : Nat} (h : Lst ns m t b) : (Gr ns m t).getLast? = some b := by rw [h.e, h.e1]; simp
theorem gr_lst (hm : 1 ≤ m) : ∀ {t : Nat}, 1 ≤ t → ∃ b, Lst ns m t b
  | 1, _ => ⟨0, rfl, rfl, by decide, Nat.le_trans cnt_one hm, fun s h => by cases h⟩
  | t + 2, _ => by
    obtain ⟨b, h⟩ := gr_lst hm (t := t + 1) (by omega)
    have hg := h.get
    by_cases hc : m < cnt (sl ns b (t + 1 + 1))
    · have e : Gr ns m (t + 1 + 1) = Gr ns m (t + 1) ++ [t + 1] := by
        rw [Gr, hg]
        simp only [if_pos hc]
      refine ⟨t + 1, rfl, e, by omega, Nat.le_trans cnt_one hm, fun s hs => ?_⟩
      rw [hg] at hs
      cases hs
      exact hc
    · have e : Gr ns m (t + 1 + 1) = Gr ns m (t + 1) := by
        rw [Gr, hg]
        simp only [if_neg hc]
      exact ⟨b, e.trans h.e, h.e1, by have := h.lt; omega, Nat.le_of_not_lt hc, h.gt⟩
def Bn (ns : List Int) (m t : Nat) : Nat := (Gr ns m t).length
theorem bn_step {t : Nat} : Bn ns m t ≤ Bn ns m (t + 1) := by
  unfold Bn
  rw [Gr]
  split
  · rename_i h
    rw [List.getLast?_eq_none_iff.mp h]
    simp
  · split <;> simp
theorem bn_mono {t u : Nat} (h : t ≤ u) : Bn ns m t ≤ Bn ns m u := by
  induction h with
  | refl => exact Nat.le_refl _
  | step _ ih => exact Nat.le_trans ih bn_step
theorem Lst.bn {t b : Nat} (h : Lst ns m t b) : Bn ns m t = Bn ns m b + 1 := by
  unfold Bn
  rw [h.e, h.e1]
  simp
theorem bn_le (hm : 1 ≤ m) : ∀ t : Nat, Bn ns m t ≤ t := fun t => by
  induction t using Nat.strongRecOn with
  | _ t ih =>
    cases t with
    | zero => exact Nat.le_refl _
    | succ t =>
      obtain ⟨b, h⟩ := gr_lst hm (ns := ns) (t := t + 1) (by omega)
      rw [h.bn]
      have := ih b h.lt
      have := h.lt
      omega
/-- no parting has fewer -/
theorem bn_opt (hm : 1 ≤ m) {b t : Nat} (hb : b < t) (hc : cnt (sl ns b t) ≤ m) : Bn ns m t ≤ Bn ns m b + 1 := by
  obtain ⟨b0, h⟩ := gr_lst hm (ns := ns) (t := t) (by omega)
  rw [h.bn]
  by_cases h1 : b0 ≤ b
  · have := bn_mono (ns := ns) (m := m) h1
    omega
  · obtain ⟨s, h2⟩ := gr_lst hm (ns := ns) (t := b0) (by omega)
    have e := h2.bn
    have e1 : Bn ns m (s + 1) = Bn ns m s + 1 := by unfold Bn; rw [h2.e1]; simp
    have g := h.gt s h2.get
    by_cases h3 : s < b
    · have := bn_mono (ns := ns) (m := m) (show s + 1 ≤ b by omega)
      omega
    · have := cnt_sl_mono (ns := ns) (show b ≤ s by omega) (show b0 + 1 ≤ t by have := h.lt; omega)
      omega
/-- the parts, one by one -/
theorem gr_parts (hm : 1 ≤ m) : ∀ t : Nat, ∀ k s, (Gr ns m t)[k]? = some s → s < t ∧ (∀ e, (Gr ns m t)[k + 1]? = some e → s < e ∧ cnt (sl ns s e) ≤ m ∧ m < cnt (sl ns s (e + 1))) ∧ ((Gr ns m t)[k + 1]? = none → cnt (sl ns s t) ≤ m) := fun t => by
  induction t using Nat.strongRecOn with
  | _ t ih =>
    intro k s hk
    cases t with
    | zero => simp [Gr] at hk
    | succ t =>
      obtain ⟨b, h⟩ := gr_lst hm (ns := ns) (t := t + 1) (by omega)
      have lt := h.lt
      have eq : Gr ns m (t + 1) = Gr ns m b ++ [b] := by rw [h.e, h.e1]
      rw [eq] at hk ⊢
      by_cases hz : k < (Gr ns m b).length
      · rw [List.getElem?_append_left hz] at hk
        obtain ⟨i1, i2, i3⟩ := ih b lt k s hk
        refine ⟨by omega, fun e he => ?_, fun hn => ?_⟩
        · by_cases hz2 : k + 1 < (Gr ns m b).length
          · rw [List.getElem?_append_left hz2] at he
            exact i2 e he
          · rw [List.getElem?_append_right (by omega), show k + 1 - (Gr ns m b).length = 0 by omega] at he
            obtain rfl : b = e := by simpa using he
            refine ⟨i1, i3 (List.getElem?_eq_none (by omega)), h.gt s ?_⟩
            rw [List.getLast?_eq_getElem?, show (Gr ns m b).length - 1 = k by omega]
            exact hk
        · rw [List.getElem?_eq_none_iff, List.length_append, List.length_singleton] at hn
          omega
      · rw [List.getElem?_append_right (by omega)] at hk
        have hk0 : k - (Gr ns m b).length = 0 := by
          have := (List.getElem?_eq_some_iff.mp hk).1
          simpa using this
        rw [hk0] at hk
        obtain rfl : b = s := by simpa using hk
        refine ⟨lt, fun e he => ?_, fun _ => h.le⟩
        rw [List.getElem?_eq_none (by rw [List.length_append, List.length_singleton]; omega)] at he
        cases he
theorem gr_zero (hm : 1 ≤ m) : ∀ {t : Nat}, 1 ≤ t → (Gr ns m t)[0]? = some 0 := fun {t} => by
  induction t using Nat.strongRecOn with
  | _ t ih =>
    intro ht
    obtain ⟨b, h⟩ := gr_lst hm (ns := ns) ht
    rw [h.e, h.e1]
    by_cases hb : b = 0
    · subst hb
      rfl
    · have := ih b h.lt (by omega)
      rw [List.getElem?_append_left (List.getElem?_eq_some_iff.mp this).1]
      exact this
theorem gr_srt (hm : 1 ≤ m) {t : Nat} : (Gr ns m t).Pairwise (· < ·) := by
  induction t using Nat.strongRecOn with
  | _ t ih =>
    cases t with
    | zero => exact .nil
    | succ t =>
      obtain ⟨b, h⟩ := gr_lst hm (ns := ns) (t := t + 1) (by omega)
      rw [h.e, h.e1]
      refine List.pairwise_append.mpr ⟨ih b h.lt, List.pairwise_singleton _ _, fun x hx y hy => ?_⟩
      obtain ⟨k, hk⟩ := List.mem_iff_getElem?.mp hx
      obtain rfl : y = b := by simpa using hy
      exact (gr_parts hm _ k x hk).1
end
end

section
open Mi
section
variable {As : List Asn} {S : Sto} {l : Nat} {ls : List Int}
theorem memI_eq {s : List Int} {x : Int} : memI s x = decide (x ∈ s) := by
  rw [Bool.eq_iff_iff, memI_iff, decide_eq_true_iff]
theorem dif_ok (h : Hs As S) (hr : Rd As l (ls.map .int)) (hz : ls.length ≤ 1000) : Ok (f_l_different [.ref l] S) fun v S' => v = .int (cnt ls : Nat) ∧ Hs As S' := by
  rw [f_l_different_eq]
  refine Ok.def rfl ?_
  simp (decide := true) [wpe_ret, wpe_exc, wpe_bind, wps_nx, wps_ret, wps_bk, wps_ct, wps_exc, wps_bindS, wps_seq, wps_xSeq, wps_toS, wpe_nox, defQ_ret, defQ_exc, wps_if, cn_k, cn_x, cx_n, cx_q, wpe_lst, wpe_dnew, wps_xSetF, wps_xAugF, wps_xDPut, gSub_eq, wpe_xMake, wps_xFor, wps_xForE, wpe_xLc, loopQ_ct, loopQ_bk, loopQ_ret, loopQ_exc, wpe_iteBad, wps_iteBad, oIC_wp, bList_wp, bListT_wp, oSlL_wp, oCat_wp, bListD_wp, mkRg_wp, bSet_wp, xSortSet_wp, cDiv_lit, cMul_litL, cMul_litR, rngOk_lit, rngOk_m1, -bList_tup, iR3, xLRg1, xLRg2, xErrF, xIsE, xRaise, RS.unset, RS.noexc, xNext, xAsg, gNameX, gConsX, gNilX, gTupX, xVar, xC, xOp, xUn, oI_int, oNeg_int, xB, asB_bl, xRet, xRetN, xDrop, xBreak, xCont, xCons, xNil, xTup, xCB, xCall, xCallX, xAnd, xOr, xNot, xAndV, xOrV, xNotV, xIf, xYes, xTru, truD, xIsN, xNotN, nonD, xFld, xMeth, xMethX, xBM, xDGet, xDIn, xPart, xNoPart, xSl, nox_ok, toS_ok, finX, iR1, iR2, iL, iT, iE, iZ, xAug, xAssert, str_beq, insX, putFX, putX, valX, keyD_int, keyD_str, List.lookup, oInSet, xDisp, xPCons, xPNil, keysX, mergeX, rdL_app_ge, rdL_app_self, rdL_zero, rdL_succ, at_app_ge, at_app_self, at_zero, at_succ]
  refine wpe_allo h ?_
  intro s S h
  simp (decide := true) [wpe_ret, wpe_exc, wpe_bind, wps_nx, wps_ret, wps_bk, wps_ct, wps_exc, wps_bindS, wps_seq, wps_xSeq, wps_toS, wpe_nox, defQ_ret, defQ_exc, wps_if, cn_k, cn_x, cx_n, cx_q, wpe_lst, wpe_dnew, wps_xSetF, wps_xAugF, wps_xDPut, gSub_eq, wpe_xMake, wps_xFor, wps_xForE, wpe_xLc, loopQ_ct, loopQ_bk, loopQ_ret, loopQ_exc, wpe_iteBad, wps_iteBad, oIC_wp, bList_wp, bListT_wp, oSlL_wp, oCat_wp, bListD_wp, mkRg_wp, bSet_wp, xSortSet_wp, cDiv_lit, cMul_litL, cMul_litR, rngOk_lit, rngOk_m1, -bList_tup, iR3, xLRg1, xLRg2, xErrF, xIsE, xRaise, RS.unset, RS.noexc, xNext, xAsg, gNameX, gConsX, gNilX, gTupX, xVar, xC, xOp, xUn, oI_int, oNeg_int, xB, asB_bl, xRet, xRetN, xDrop, xBreak, xCont, xCons, xNil, xTup, xCB, xCall, xCallX, xAnd, xOr, xNot, xAndV, xOrV, xNotV, xIf, xYes, xTru, truD, xIsN, xNotN, nonD, xFld, xMeth, xMethX, xBM, xDGet, xDIn, xPart, xNoPart, xSl, nox_ok, toS_ok, finX, iR1, iR2, iL, iT, iE, iZ, xAug, xAssert, str_beq, insX, putFX, putX, valX, keyD_int, keyD_str, List.lookup, oInSet, xDisp, xPCons, xPNil, keysX, mergeX, rdL_app_ge, rdL_app_self, rdL_zero, rdL_succ, at_app_ge, at_app_self, at_zero, at_succ, f_l_different_l1, hr _ h.drop]
  refine wps_loop (fun i env S => ∃ o, env = [some (.ref l), some (.ref s), o] ∧ Hs (pt s (.lst ((dedupL (ls.take i)).map .int)) :: As) S ∧ i ≤ ls.length) ⟨_, rfl, h, Nat.zero_le _⟩ (fun _ _ _ ⟨_, _, h, _⟩ => hr _ h.drop) ?_ ?_
  · rintro i x env S hx ⟨o, rfl, h, hi⟩
    obtain ⟨k, hk, rfl⟩ : ∃ k, ls[i]? = some k ∧ x = .int k := by
      rw [List.getElem?_map] at hx
      obtain ⟨k, hk, e⟩ := Option.map_eq_some_iff.mp hx
      exact ⟨k, hk, e.symm⟩
    have hlt := (List.getElem?_eq_some_iff.mp hk).1
    have e : ls.take (i + 1) = ls.take i ++ [k] := by rw [List.take_succ, hk]; rfl
    have hc : (dedupL (ls.take i)).length ≤ i := Nat.le_trans (dedup_len _) (by rw [List.length_take]; omega)
    by_cases hn : k ∈ dedupL (ls.take i)
    · simp (decide := true) [wpe_ret, wpe_exc, wpe_bind, wps_nx, wps_ret, wps_bk, wps_ct, wps_exc, wps_bindS, wps_seq, wps_xSeq, wps_toS, wpe_nox, defQ_ret, defQ_exc, wps_if, cn_k, cn_x, cx_n, cx_q, wpe_lst, wpe_dnew, wps_xSetF, wps_xAugF, wps_xDPut, gSub_eq, wpe_xMake, wps_xFor, wps_xForE, wpe_xLc, loopQ_ct, loopQ_bk, loopQ_ret, loopQ_exc, wpe_iteBad, wps_iteBad, oIC_wp, bList_wp, bListT_wp, oSlL_wp, oCat_wp, bListD_wp, mkRg_wp, bSet_wp, xSortSet_wp, cDiv_lit, cMul_litL, cMul_litR, rngOk_lit, rngOk_m1, -bList_tup, iR3, xLRg1, xLRg2, xErrF, xIsE, xRaise, RS.unset, RS.noexc, xNext, xAsg, gNameX, gConsX, gNilX, gTupX, xVar, xC, xOp, xUn, oI_int, oNeg_int, xB, asB_bl, xRet, xRetN, xDrop, xBreak, xCont, xCons, xNil, xTup, xCB, xCall, xCallX, xAnd, xOr, xNot, xAndV, xOrV, xNotV, xIf, xYes, xTru, truD, xIsN, xNotN, nonD, xFld, xMeth, xMethX, xBM, xDGet, xDIn, xPart, xNoPart, xSl, nox_ok, toS_ok, finX, iR1, iR2, iL, iT, iE, iZ, xAug, xAssert, str_beq, insX, putFX, putX, valX, keyD_int, keyD_str, List.lookup, oInSet, xDisp, xPCons, xPNil, keysX, mergeX, rdL_app_ge, rdL_app_self, rdL_zero, rdL_succ, at_app_ge, at_app_self, at_zero, at_succ, f_l_different_b1, oIn, scV, scal, itemsOf, h.rp 0, scVs_ints, inV_ints, memI_eq, hn]
      refine ⟨?_, by omega⟩
      rw [e, dedup_snoc, if_pos hn]
      exact h
    · simp (decide := true) [wpe_ret, wpe_exc, wpe_bind, wps_nx, wps_ret, wps_bk, wps_ct, wps_exc, wps_bindS, wps_seq, wps_xSeq, wps_toS, wpe_nox, defQ_ret, defQ_exc, wps_if, cn_k, cn_x, cx_n, cx_q, wpe_lst, wpe_dnew, wps_xSetF, wps_xAugF, wps_xDPut, gSub_eq, wpe_xMake, wps_xFor, wps_xForE, wpe_xLc, loopQ_ct, loopQ_bk, loopQ_ret, loopQ_exc, wpe_iteBad, wps_iteBad, oIC_wp, bList_wp, bListT_wp, oSlL_wp, oCat_wp, bListD_wp, mkRg_wp, bSet_wp, xSortSet_wp, cDiv_lit, cMul_litL, cMul_litR, rngOk_lit, rngOk_m1, -bList_tup, iR3, xLRg1, xLRg2, xErrF, xIsE, xRaise, RS.unset, RS.noexc, xNext, xAsg, gNameX, gConsX, gNilX, gTupX, xVar, xC, xOp, xUn, oI_int, oNeg_int, xB, asB_bl, xRet, xRetN, xDrop, xBreak, xCont, xCons, xNil, xTup, xCB, xCall, xCallX, xAnd, xOr, xNot, xAndV, xOrV, xNotV, xIf, xYes, xTru, truD, xIsN, xNotN, nonD, xFld, xMeth, xMethX, xBM, xDGet, xDIn, xPart, xNoPart, xSl, nox_ok, toS_ok, finX, iR1, iR2, iL, iT, iE, iZ, xAug, xAssert, str_beq, insX, putFX, putX, valX, keyD_int, keyD_str, List.lookup, oInSet, xDisp, xPCons, xPNil, keysX, mergeX, rdL_app_ge, rdL_app_self, rdL_zero, rdL_succ, at_app_ge, at_app_self, at_zero, at_succ, f_l_different_b1, oIn, scV, scal, itemsOf, h.rp 0, scVs_ints, inV_ints, memI_eq, hn, isLst]
      refine wpe_append h (by rw [List.length_map]; omega) ?_
      intro S h
      refine ⟨_, rfl, ?_, by omega⟩
      rw [e, dedup_snoc, if_neg hn, List.map_append]
      exact h
  · rintro env S ⟨o, rfl, h, _⟩
    rw [List.length_map, List.take_length] at h
    simp (decide := true) [wpe_ret, wpe_exc, wpe_bind, wps_nx, wps_ret, wps_bk, wps_ct, wps_exc, wps_bindS, wps_seq, wps_xSeq, wps_toS, wpe_nox, defQ_ret, defQ_exc, wps_if, cn_k, cn_x, cx_n, cx_q, wpe_lst, wpe_dnew, wps_xSetF, wps_xAugF, wps_xDPut, gSub_eq, wpe_xMake, wps_xFor, wps_xForE, wpe_xLc, loopQ_ct, loopQ_bk, loopQ_ret, loopQ_exc, wpe_iteBad, wps_iteBad, oIC_wp, bList_wp, bListT_wp, oSlL_wp, oCat_wp, bListD_wp, mkRg_wp, bSet_wp, xSortSet_wp, cDiv_lit, cMul_litL, cMul_litR, rngOk_lit, rngOk_m1, -bList_tup, iR3, xLRg1, xLRg2, xErrF, xIsE, xRaise, RS.unset, RS.noexc, xNext, xAsg, gNameX, gConsX, gNilX, gTupX, xVar, xC, xOp, xUn, oI_int, oNeg_int, xB, asB_bl, xRet, xRetN, xDrop, xBreak, xCont, xCons, xNil, xTup, xCB, xCall, xCallX, xAnd, xOr, xNot, xAndV, xOrV, xNotV, xIf, xYes, xTru, truD, xIsN, xNotN, nonD, xFld, xMeth, xMethX, xBM, xDGet, xDIn, xPart, xNoPart, xSl, nox_ok, toS_ok, finX, iR1, iR2, iL, iT, iE, iZ, xAug, xAssert, str_beq, insX, putFX, putX, valX, keyD_int, keyD_str, List.lookup, oInSet, xDisp, xPCons, xPNil, keysX, mergeX, rdL_app_ge, rdL_app_self, rdL_zero, rdL_succ, at_app_ge, at_app_self, at_zero, at_succ, bLen, itemsOf, h.rp 0]
    exact ⟨rfl, h.drop⟩
/-- how many different ones each window has -/
def wsL (ns : List Int) (w : Nat) : List Int := (List.range ns.length).map fun i => (cnt (sl ns (i + 1 - w) (i + 1)) : Int)
def wsG (ns : List Int) (w : Nat) : D → Option D := fun x => match x with
  | .int e => some (.int (cnt (sl ns (e.toNat - w) e.toNat) : Int))
  | _ => none
theorem wsG_map (ns : List Int) (w : Nat) : (rngD 1 ns.length).filterMap (wsG ns w) = (wsL ns w).map .int := by
  unfold rngD wsL
  rw [List.filterMap_map, List.map_map, ← List.filterMap_eq_map]
  congr 1
  funext i
  simp [wsG, Function.comp, show (1 + (i : Int)).toNat = i + 1 by omega]
theorem len_ok {xs : List D} (h : rdL S l = some xs) : bLen [.ref l] S = .ok (.int xs.length) S := bLen_ref h
theorem wset_ok {w : Nat} (h : Hs As S) (hr : Rd As l (ls.map .int)) (hz : ls.length ≤ 1000) (hw : 1 ≤ w ∧ w ≤ 100) : Ok (f_working_set [.ref l, .int w] S) fun v S' => ∃ p, v = .ref p ∧ Hs (pt p (.lst ((wsL ls w).map .int)) :: As) S' := by
  rw [f_working_set_eq]
  refine Ok.def rfl ?_
  simp (decide := true) [wpe_ret, wpe_exc, wpe_bind, wps_nx, wps_ret, wps_bk, wps_ct, wps_exc, wps_bindS, wps_seq, wps_xSeq, wps_toS, wpe_nox, defQ_ret, defQ_exc, wps_if, cn_k, cn_x, cx_n, cx_q, wpe_lst, wpe_dnew, wps_xSetF, wps_xAugF, wps_xDPut, gSub_eq, wpe_xMake, wps_xFor, wps_xForE, wpe_xLc, loopQ_ct, loopQ_bk, loopQ_ret, loopQ_exc, wpe_iteBad, wps_iteBad, oIC_wp, bList_wp, bListT_wp, oSlL_wp, oCat_wp, bListD_wp, mkRg_wp, bSet_wp, xSortSet_wp, cDiv_lit, cMul_litL, cMul_litR, rngOk_lit, rngOk_m1, -bList_tup, iR3, xLRg1, xLRg2, xErrF, xIsE, xRaise, RS.unset, RS.noexc, xNext, xAsg, gNameX, gConsX, gNilX, gTupX, xVar, xC, xOp, xUn, oI_int, oNeg_int, xB, asB_bl, xRet, xRetN, xDrop, xBreak, xCont, xCons, xNil, xTup, xCB, xCall, xCallX, xAnd, xOr, xNot, xAndV, xOrV, xNotV, xIf, xYes, xTru, truD, xIsN, xNotN, nonD, xFld, xMeth, xMethX, xBM, xDGet, xDIn, xPart, xNoPart, xSl, nox_ok, toS_ok, finX, iR1, iR2, iL, iT, iE, iZ, xAug, xAssert, str_beq, insX, putFX, putX, valX, keyD_int, keyD_str, List.lookup, oInSet, xDisp, xPCons, xPNil, keysX, mergeX, rdL_app_ge, rdL_app_self, rdL_zero, rdL_succ, at_app_ge, at_app_self, at_zero, at_succ, f_working_set_c1, len_ok (hr _ h)]
  refine ⟨rngOk (by omega), ?_⟩
  refine wpe_comp (wsG ls w) h (fun _ _ _ => trivial) ?_ (by rw [rngD_len]; omega) ?_
  · intro x hx Bs S h
    obtain ⟨i, hi, rfl⟩ := rngD_mem hx
    obtain ⟨e, he⟩ : ∃ e : Int, e = 1 + (i : Int) := ⟨_, rfl⟩
    have hg : wsG ls w (.int e) = some (.int (cnt (sl ls (i + 1 - w) (i + 1)) : Int)) := by
      have : e.toNat = i + 1 := by omega
      simp only [wsG, this]
    have hcut : cutX (ls.map D.int) (some (if (w : Int) < e then e - (w : Int) else 0)) (some e) = (sl ls (i + 1 - w) (i + 1)).map .int := by
      rw [← cut_sl (show i + 1 - w ≤ i + 1 by omega) (show i + 1 ≤ ls.length by omega)]
      congr 2
      · split <;> omega
      · omega
    have hs := sl_len (ns := ls) (a := i + 1 - w) (b := i + 1) (by omega)
    have hd : (dedupL (sl ls (i + 1 - w) (i + 1))).length ≤ 1000 := Nat.le_trans (dedup_len _) (by omega)
    rw [← he]
    simp (decide := true) [wpe_ret, wpe_exc, wpe_bind, wps_nx, wps_ret, wps_bk, wps_ct, wps_exc, wps_bindS, wps_seq, wps_xSeq, wps_toS, wpe_nox, defQ_ret, defQ_exc, wps_if, cn_k, cn_x, cx_n, cx_q, wpe_lst, wpe_dnew, wps_xSetF, wps_xAugF, wps_xDPut, gSub_eq, wpe_xMake, wps_xFor, wps_xForE, wpe_xLc, loopQ_ct, loopQ_bk, loopQ_ret, loopQ_exc, wpe_iteBad, wps_iteBad, oIC_wp, bList_wp, bListT_wp, oSlL_wp, oCat_wp, bListD_wp, mkRg_wp, bSet_wp, xSortSet_wp, cDiv_lit, cMul_litL, cMul_litR, rngOk_lit, rngOk_m1, -bList_tup, iR3, xLRg1, xLRg2, xErrF, xIsE, xRaise, RS.unset, RS.noexc, xNext, xAsg, gNameX, gConsX, gNilX, gTupX, xVar, xC, xOp, xUn, oI_int, oNeg_int, xB, asB_bl, xRet, xRetN, xDrop, xBreak, xCont, xCons, xNil, xTup, xCB, xCall, xCallX, xAnd, xOr, xNot, xAndV, xOrV, xNotV, xIf, xYes, xTru, truD, xIsN, xNotN, nonD, xFld, xMeth, xMethX, xBM, xDGet, xDIn, xPart, xNoPart, xSl, nox_ok, toS_ok, finX, iR1, iR2, iL, iT, iE, iZ, xAug, xAssert, str_beq, insX, putFX, putX, valX, keyD_int, keyD_str, List.lookup, oInSet, xDisp, xPCons, xPNil, keysX, mergeX, rdL_app_ge, rdL_app_self, rdL_zero, rdL_succ, at_app_ge, at_app_self, at_zero, at_succ, wipeE, hr.app _ h, hcut, hg]
    refine wpe_allo h ?_
    intro q S h
    simp (decide := true) [wpe_ret, wpe_exc, wpe_bind, wps_nx, wps_ret, wps_bk, wps_ct, wps_exc, wps_bindS, wps_seq, wps_xSeq, wps_toS, wpe_nox, defQ_ret, defQ_exc, wps_if, cn_k, cn_x, cx_n, cx_q, wpe_lst, wpe_dnew, wps_xSetF, wps_xAugF, wps_xDPut, gSub_eq, wpe_xMake, wps_xFor, wps_xForE, wpe_xLc, loopQ_ct, loopQ_bk, loopQ_ret, loopQ_exc, wpe_iteBad, wps_iteBad, oIC_wp, bList_wp, bListT_wp, oSlL_wp, oCat_wp, bListD_wp, mkRg_wp, bSet_wp, xSortSet_wp, cDiv_lit, cMul_litL, cMul_litR, rngOk_lit, rngOk_m1, -bList_tup, iR3, xLRg1, xLRg2, xErrF, xIsE, xRaise, RS.unset, RS.noexc, xNext, xAsg, gNameX, gConsX, gNilX, gTupX, xVar, xC, xOp, xUn, oI_int, oNeg_int, xB, asB_bl, xRet, xRetN, xDrop, xBreak, xCont, xCons, xNil, xTup, xCB, xCall, xCallX, xAnd, xOr, xNot, xAndV, xOrV, xNotV, xIf, xYes, xTru, truD, xIsN, xNotN, nonD, xFld, xMeth, xMethX, xBM, xDGet, xDIn, xPart, xNoPart, xSl, nox_ok, toS_ok, finX, iR1, iR2, iL, iT, iE, iZ, xAug, xAssert, str_beq, insX, putFX, putX, valX, keyD_int, keyD_str, List.lookup, oInSet, xDisp, xPCons, xPNil, keysX, mergeX, rdL_app_ge, rdL_app_self, rdL_zero, rdL_succ, at_app_ge, at_app_self, at_zero, at_succ, h.rp 0, intsOf_map, hs]
    refine ⟨by omega, wpe_allo h ?_⟩
    intro q2 S h
    simp (decide := true) [wpe_ret, wpe_exc, wpe_bind, wps_nx, wps_ret, wps_bk, wps_ct, wps_exc, wps_bindS, wps_seq, wps_xSeq, wps_toS, wpe_nox, defQ_ret, defQ_exc, wps_if, cn_k, cn_x, cx_n, cx_q, wpe_lst, wpe_dnew, wps_xSetF, wps_xAugF, wps_xDPut, gSub_eq, wpe_xMake, wps_xFor, wps_xForE, wpe_xLc, loopQ_ct, loopQ_bk, loopQ_ret, loopQ_exc, wpe_iteBad, wps_iteBad, oIC_wp, bList_wp, bListT_wp, oSlL_wp, oCat_wp, bListD_wp, mkRg_wp, bSet_wp, xSortSet_wp, cDiv_lit, cMul_litL, cMul_litR, rngOk_lit, rngOk_m1, -bList_tup, iR3, xLRg1, xLRg2, xErrF, xIsE, xRaise, RS.unset, RS.noexc, xNext, xAsg, gNameX, gConsX, gNilX, gTupX, xVar, xC, xOp, xUn, oI_int, oNeg_int, xB, asB_bl, xRet, xRetN, xDrop, xBreak, xCont, xCons, xNil, xTup, xCB, xCall, xCallX, xAnd, xOr, xNot, xAndV, xOrV, xNotV, xIf, xYes, xTru, truD, xIsN, xNotN, nonD, xFld, xMeth, xMethX, xBM, xDGet, xDIn, xPart, xNoPart, xSl, nox_ok, toS_ok, finX, iR1, iR2, iL, iT, iE, iZ, xAug, xAssert, str_beq, insX, putFX, putX, valX, keyD_int, keyD_str, List.lookup, oInSet, xDisp, xPCons, xPNil, keysX, mergeX, rdL_app_ge, rdL_app_self, rdL_zero, rdL_succ, at_app_ge, at_app_self, at_zero, at_succ, bLenSet, h.at 0]
    exact ⟨by omega, hg, h.drop.drop⟩
  · intro p S h
    rw [wsG_map] at h
    exact ⟨p, rfl, h⟩
end
end

section
open Mi
section
variable {As : List Asn} {S : Sto} {l0 l : Nat} {ns ls : List Int}
theorem four {q : Int} (hq : 0 ≤ q ∧ q < 4) : ∃ b : Int, L2.atI [D.int 1, D.int 7, D.int 1000003, D.int (-5)] q = some (.int b) ∧ -10 ≤ b ∧ b ≤ 1000003 := by
  have : q = 0 ∨ q = 1 ∨ q = 2 ∨ q = 3 := by omega
  rcases this with rfl | rfl | rfl | rfl
  · exact ⟨1, rfl, by omega, by omega⟩
  · exact ⟨7, rfl, by omega, by omega⟩
  · exact ⟨1000003, rfl, by omega, by omega⟩
  · exact ⟨-5, rfl, by omega, by omega⟩
theorem three {q : Int} (hq : 0 ≤ q ∧ q < 3) : ∃ b : Int, L2.atI [D.int 0, D.int 4, D.int 1000000000] q = some (.int b) := by
  have : q = 0 ∨ q = 1 ∨ q = 2 := by omega
  rcases this with rfl | rfl | rfl
  · exact ⟨0, rfl⟩
  · exact ⟨4, rfl⟩
  · exact ⟨1000000000, rfl⟩
theorem names_ok {m : Int} (h : Hs As S) (hn : Mi.Rd As l0 (ns.map .int)) (hl : ns.length ≤ 63) (hm : 1 ≤ m ∧ m ≤ 100) : Ok (f_l_names [.ref l0, .int m] S) fun v S' => ∃ (p : Nat) (xs : List Int), v = .ref p ∧ Hs (pt p (.lst (xs.map .int)) :: As) S' ∧ 1 ≤ xs.length ∧ xs.length ≤ 100 := by
  rw [f_l_names_eq]
  refine Ok.def rfl ?_
  simp (decide := true) [wpe_ret, wpe_exc, wpe_bind, wps_nx, wps_ret, wps_bk, wps_ct, wps_exc, wps_bindS, wps_seq, wps_xSeq, wps_toS, wpe_nox, defQ_ret, defQ_exc, wps_if, cn_k, cn_x, cx_n, cx_q, wpe_lst, wpe_dnew, wps_xSetF, wps_xAugF, wps_xDPut, gSub_eq, wpe_xMake, wps_xFor, wps_xForE, wpe_xLc, loopQ_ct, loopQ_bk, loopQ_ret, loopQ_exc, wpe_iteBad, wps_iteBad, oIC_wp, bList_wp, bListT_wp, oSlL_wp, oCat_wp, bListD_wp, mkRg_wp, bSet_wp, xSortSet_wp, cDiv_lit, cMul_litL, cMul_litR, rngOk_lit, rngOk_m1, -bList_tup, iR3, xLRg1, xLRg2, xErrF, xIsE, xRaise, RS.unset, RS.noexc, xNext, xAsg, gNameX, gConsX, gNilX, gTupX, xVar, xC, xOp, xUn, oI_int, oNeg_int, xB, asB_bl, xRet, xRetN, xDrop, xBreak, xCont, xCons, xNil, xTup, xCB, xCall, xCallX, xAnd, xOr, xNot, xAndV, xOrV, xNotV, xIf, xYes, xTru, truD, xIsN, xNotN, nonD, xFld, xMeth, xMethX, xBM, xDGet, xDIn, xPart, xNoPart, xSl, nox_ok, toS_ok, finX, iR1, iR2, iL, iT, iE, iZ, xAug, xAssert, str_beq, insX, putFX, putX, valX, keyD_int, keyD_str, List.lookup, oInSet, xDisp, xPCons, xPNil, keysX, mergeX, rdL_app_ge, rdL_app_self, rdL_zero, rdL_succ, at_app_ge, at_app_self, at_zero, at_succ]
  refine wpe_k (num_ok (hn _ h) hl (by unfold NumOk; omega)) ?_
  rintro _ S ⟨rfl, q, rfl, q0, q1⟩
  simp (decide := true) [wpe_ret, wpe_exc, wpe_bind, wps_nx, wps_ret, wps_bk, wps_ct, wps_exc, wps_bindS, wps_seq, wps_xSeq, wps_toS, wpe_nox, defQ_ret, defQ_exc, wps_if, cn_k, cn_x, cx_n, cx_q, wpe_lst, wpe_dnew, wps_xSetF, wps_xAugF, wps_xDPut, gSub_eq, wpe_xMake, wps_xFor, wps_xForE, wpe_xLc, loopQ_ct, loopQ_bk, loopQ_ret, loopQ_exc, wpe_iteBad, wps_iteBad, oIC_wp, bList_wp, bListT_wp, oSlL_wp, oCat_wp, bListD_wp, mkRg_wp, bSet_wp, xSortSet_wp, cDiv_lit, cMul_litL, cMul_litR, rngOk_lit, rngOk_m1, -bList_tup, iR3, xLRg1, xLRg2, xErrF, xIsE, xRaise, RS.unset, RS.noexc, xNext, xAsg, gNameX, gConsX, gNilX, gTupX, xVar, xC, xOp, xUn, oI_int, oNeg_int, xB, asB_bl, xRet, xRetN, xDrop, xBreak, xCont, xCons, xNil, xTup, xCB, xCall, xCallX, xAnd, xOr, xNot, xAndV, xOrV, xNotV, xIf, xYes, xTru, truD, xIsN, xNotN, nonD, xFld, xMeth, xMethX, xBM, xDGet, xDIn, xPart, xNoPart, xSl, nox_ok, toS_ok, finX, iR1, iR2, iL, iT, iE, iZ, xAug, xAssert, str_beq, insX, putFX, putX, valX, keyD_int, keyD_str, List.lookup, oInSet, xDisp, xPCons, xPNil, keysX, mergeX, rdL_app_ge, rdL_app_self, rdL_zero, rdL_succ, at_app_ge, at_app_self, at_zero, at_succ]
  refine wpe_k (num_ok (hn _ h) hl (by unfold NumOk; omega)) ?_
  rintro _ S ⟨rfl, t, rfl, t0, t1⟩
  simp (decide := true) [wpe_ret, wpe_exc, wpe_bind, wps_nx, wps_ret, wps_bk, wps_ct, wps_exc, wps_bindS, wps_seq, wps_xSeq, wps_toS, wpe_nox, defQ_ret, defQ_exc, wps_if, cn_k, cn_x, cx_n, cx_q, wpe_lst, wpe_dnew, wps_xSetF, wps_xAugF, wps_xDPut, gSub_eq, wpe_xMake, wps_xFor, wps_xForE, wpe_xLc, loopQ_ct, loopQ_bk, loopQ_ret, loopQ_exc, wpe_iteBad, wps_iteBad, oIC_wp, bList_wp, bListT_wp, oSlL_wp, oCat_wp, bListD_wp, mkRg_wp, bSet_wp, xSortSet_wp, cDiv_lit, cMul_litL, cMul_litR, rngOk_lit, rngOk_m1, -bList_tup, iR3, xLRg1, xLRg2, xErrF, xIsE, xRaise, RS.unset, RS.noexc, xNext, xAsg, gNameX, gConsX, gNilX, gTupX, xVar, xC, xOp, xUn, oI_int, oNeg_int, xB, asB_bl, xRet, xRetN, xDrop, xBreak, xCont, xCons, xNil, xTup, xCB, xCall, xCallX, xAnd, xOr, xNot, xAndV, xOrV, xNotV, xIf, xYes, xTru, truD, xIsN, xNotN, nonD, xFld, xMeth, xMethX, xBM, xDGet, xDIn, xPart, xNoPart, xSl, nox_ok, toS_ok, finX, iR1, iR2, iL, iT, iE, iZ, xAug, xAssert, str_beq, insX, putFX, putX, valX, keyD_int, keyD_str, List.lookup, oInSet, xDisp, xPCons, xPNil, keysX, mergeX, rdL_app_ge, rdL_app_self, rdL_zero, rdL_succ, at_app_ge, at_app_self, at_zero, at_succ]
  refine wpe_allo h ?_
  intro a S h
  simp (decide := true) [wpe_ret, wpe_exc, wpe_bind, wps_nx, wps_ret, wps_bk, wps_ct, wps_exc, wps_bindS, wps_seq, wps_xSeq, wps_toS, wpe_nox, defQ_ret, defQ_exc, wps_if, cn_k, cn_x, cx_n, cx_q, wpe_lst, wpe_dnew, wps_xSetF, wps_xAugF, wps_xDPut, gSub_eq, wpe_xMake, wps_xFor, wps_xForE, wpe_xLc, loopQ_ct, loopQ_bk, loopQ_ret, loopQ_exc, wpe_iteBad, wps_iteBad, oIC_wp, bList_wp, bListT_wp, oSlL_wp, oCat_wp, bListD_wp, mkRg_wp, bSet_wp, xSortSet_wp, cDiv_lit, cMul_litL, cMul_litR, rngOk_lit, rngOk_m1, -bList_tup, iR3, xLRg1, xLRg2, xErrF, xIsE, xRaise, RS.unset, RS.noexc, xNext, xAsg, gNameX, gConsX, gNilX, gTupX, xVar, xC, xOp, xUn, oI_int, oNeg_int, xB, asB_bl, xRet, xRetN, xDrop, xBreak, xCont, xCons, xNil, xTup, xCB, xCall, xCallX, xAnd, xOr, xNot, xAndV, xOrV, xNotV, xIf, xYes, xTru, truD, xIsN, xNotN, nonD, xFld, xMeth, xMethX, xBM, xDGet, xDIn, xPart, xNoPart, xSl, nox_ok, toS_ok, finX, iR1, iR2, iL, iT, iE, iZ, xAug, xAssert, str_beq, insX, putFX, putX, valX, keyD_int, keyD_str, List.lookup, oInSet, xDisp, xPCons, xPNil, keysX, mergeX, rdL_app_ge, rdL_app_self, rdL_zero, rdL_succ, at_app_ge, at_app_self, at_zero, at_succ]
  refine wpe_k (num_ok (hn _ h.drop) hl (by unfold NumOk; omega)) ?_
  rintro _ S ⟨rfl, r, rfl, r0, r1⟩
  obtain ⟨wd, hw, w0, w1⟩ := four ⟨r0, r1⟩
  simp (decide := true) [wpe_ret, wpe_exc, wpe_bind, wps_nx, wps_ret, wps_bk, wps_ct, wps_exc, wps_bindS, wps_seq, wps_xSeq, wps_toS, wpe_nox, defQ_ret, defQ_exc, wps_if, cn_k, cn_x, cx_n, cx_q, wpe_lst, wpe_dnew, wps_xSetF, wps_xAugF, wps_xDPut, gSub_eq, wpe_xMake, wps_xFor, wps_xForE, wpe_xLc, loopQ_ct, loopQ_bk, loopQ_ret, loopQ_exc, wpe_iteBad, wps_iteBad, oIC_wp, bList_wp, bListT_wp, oSlL_wp, oCat_wp, bListD_wp, mkRg_wp, bSet_wp, xSortSet_wp, cDiv_lit, cMul_litL, cMul_litR, rngOk_lit, rngOk_m1, -bList_tup, iR3, xLRg1, xLRg2, xErrF, xIsE, xRaise, RS.unset, RS.noexc, xNext, xAsg, gNameX, gConsX, gNilX, gTupX, xVar, xC, xOp, xUn, oI_int, oNeg_int, xB, asB_bl, xRet, xRetN, xDrop, xBreak, xCont, xCons, xNil, xTup, xCB, xCall, xCallX, xAnd, xOr, xNot, xAndV, xOrV, xNotV, xIf, xYes, xTru, truD, xIsN, xNotN, nonD, xFld, xMeth, xMethX, xBM, xDGet, xDIn, xPart, xNoPart, xSl, nox_ok, toS_ok, finX, iR1, iR2, iL, iT, iE, iZ, xAug, xAssert, str_beq, insX, putFX, putX, valX, keyD_int, keyD_str, List.lookup, oInSet, xDisp, xPCons, xPNil, keysX, mergeX, rdL_app_ge, rdL_app_self, rdL_zero, rdL_succ, at_app_ge, at_app_self, at_zero, at_succ, oIxL, h.rp 0, hw]
  refine wpe_allo h ?_
  intro a S h
  simp (decide := true) [wpe_ret, wpe_exc, wpe_bind, wps_nx, wps_ret, wps_bk, wps_ct, wps_exc, wps_bindS, wps_seq, wps_xSeq, wps_toS, wpe_nox, defQ_ret, defQ_exc, wps_if, cn_k, cn_x, cx_n, cx_q, wpe_lst, wpe_dnew, wps_xSetF, wps_xAugF, wps_xDPut, gSub_eq, wpe_xMake, wps_xFor, wps_xForE, wpe_xLc, loopQ_ct, loopQ_bk, loopQ_ret, loopQ_exc, wpe_iteBad, wps_iteBad, oIC_wp, bList_wp, bListT_wp, oSlL_wp, oCat_wp, bListD_wp, mkRg_wp, bSet_wp, xSortSet_wp, cDiv_lit, cMul_litL, cMul_litR, rngOk_lit, rngOk_m1, -bList_tup, iR3, xLRg1, xLRg2, xErrF, xIsE, xRaise, RS.unset, RS.noexc, xNext, xAsg, gNameX, gConsX, gNilX, gTupX, xVar, xC, xOp, xUn, oI_int, oNeg_int, xB, asB_bl, xRet, xRetN, xDrop, xBreak, xCont, xCons, xNil, xTup, xCB, xCall, xCallX, xAnd, xOr, xNot, xAndV, xOrV, xNotV, xIf, xYes, xTru, truD, xIsN, xNotN, nonD, xFld, xMeth, xMethX, xBM, xDGet, xDIn, xPart, xNoPart, xSl, nox_ok, toS_ok, finX, iR1, iR2, iL, iT, iE, iZ, xAug, xAssert, str_beq, insX, putFX, putX, valX, keyD_int, keyD_str, List.lookup, oInSet, xDisp, xPCons, xPNil, keysX, mergeX, rdL_app_ge, rdL_app_self, rdL_zero, rdL_succ, at_app_ge, at_app_self, at_zero, at_succ]
  refine wpe_k (num_ok (hn _ h.drop.drop) hl (by unfold NumOk; omega)) ?_
  rintro _ S ⟨rfl, u, rfl, u0, u1⟩
  obtain ⟨lo, hlo⟩ := three ⟨u0, u1⟩
  simp (decide := true) [wpe_ret, wpe_exc, wpe_bind, wps_nx, wps_ret, wps_bk, wps_ct, wps_exc, wps_bindS, wps_seq, wps_xSeq, wps_toS, wpe_nox, defQ_ret, defQ_exc, wps_if, cn_k, cn_x, cx_n, cx_q, wpe_lst, wpe_dnew, wps_xSetF, wps_xAugF, wps_xDPut, gSub_eq, wpe_xMake, wps_xFor, wps_xForE, wpe_xLc, loopQ_ct, loopQ_bk, loopQ_ret, loopQ_exc, wpe_iteBad, wps_iteBad, oIC_wp, bList_wp, bListT_wp, oSlL_wp, oCat_wp, bListD_wp, mkRg_wp, bSet_wp, xSortSet_wp, cDiv_lit, cMul_litL, cMul_litR, rngOk_lit, rngOk_m1, -bList_tup, iR3, xLRg1, xLRg2, xErrF, xIsE, xRaise, RS.unset, RS.noexc, xNext, xAsg, gNameX, gConsX, gNilX, gTupX, xVar, xC, xOp, xUn, oI_int, oNeg_int, xB, asB_bl, xRet, xRetN, xDrop, xBreak, xCont, xCons, xNil, xTup, xCB, xCall, xCallX, xAnd, xOr, xNot, xAndV, xOrV, xNotV, xIf, xYes, xTru, truD, xIsN, xNotN, nonD, xFld, xMeth, xMethX, xBM, xDGet, xDIn, xPart, xNoPart, xSl, nox_ok, toS_ok, finX, iR1, iR2, iL, iT, iE, iZ, xAug, xAssert, str_beq, insX, putFX, putX, valX, keyD_int, keyD_str, List.lookup, oInSet, xDisp, xPCons, xPNil, keysX, mergeX, rdL_app_ge, rdL_app_self, rdL_zero, rdL_succ, at_app_ge, at_app_self, at_zero, at_succ, oIxL, h.rp 0, hlo, f_l_names_c1]
  refine ⟨rngOk (by omega), ?_⟩
  replace h := h.drop.drop
  refine wpe_compQ (fun i acc => AllInt acc ∧ acc.length = i) h ⟨AllInt.nil, rfl⟩ (fun _ _ _ => trivial) ?_ (by rw [rngD_len]; omega) ?_
  · rintro i x acc Bs S hx ⟨ha, hc⟩ h
    obtain ⟨hi, rfl⟩ := rngD_get hx
    simp (decide := true) [wpe_ret, wpe_exc, wpe_bind, wps_nx, wps_ret, wps_bk, wps_ct, wps_exc, wps_bindS, wps_seq, wps_xSeq, wps_toS, wpe_nox, defQ_ret, defQ_exc, wps_if, cn_k, cn_x, cx_n, cx_q, wpe_lst, wpe_dnew, wps_xSetF, wps_xAugF, wps_xDPut, gSub_eq, wpe_xMake, wps_xFor, wps_xForE, wpe_xLc, loopQ_ct, loopQ_bk, loopQ_ret, loopQ_exc, wpe_iteBad, wps_iteBad, oIC_wp, bList_wp, bListT_wp, oSlL_wp, oCat_wp, bListD_wp, mkRg_wp, bSet_wp, xSortSet_wp, cDiv_lit, cMul_litL, cMul_litR, rngOk_lit, rngOk_m1, -bList_tup, iR3, xLRg1, xLRg2, xErrF, xIsE, xRaise, RS.unset, RS.noexc, xNext, xAsg, gNameX, gConsX, gNilX, gTupX, xVar, xC, xOp, xUn, oI_int, oNeg_int, xB, asB_bl, xRet, xRetN, xDrop, xBreak, xCont, xCons, xNil, xTup, xCB, xCall, xCallX, xAnd, xOr, xNot, xAndV, xOrV, xNotV, xIf, xYes, xTru, truD, xIsN, xNotN, nonD, xFld, xMeth, xMethX, xBM, xDGet, xDIn, xPart, xNoPart, xSl, nox_ok, toS_ok, finX, iR1, iR2, iL, iT, iE, iZ, xAug, xAssert, str_beq, insX, putFX, putX, valX, keyD_int, keyD_str, List.lookup, oInSet, xDisp, xPCons, xPNil, keysX, mergeX, rdL_app_ge, rdL_app_self, rdL_zero, rdL_succ, at_app_ge, at_app_self, at_zero, at_succ, wipeE]
    exact ⟨cMul_l (by omega), cMul_l (by omega), ⟨ha.snoc, hc⟩, h⟩
  · rintro p S acc ⟨⟨xs, rfl⟩, hi⟩ _ h
    rw [List.length_map, rngD_len] at hi
    exact ⟨p, xs, rfl, h, by omega, by omega⟩
theorem trace_ok {nm : List Int} (h : Hs As S) (hn : Mi.Rd As l0 (ns.map .int)) (hl : ns.length ≤ 63) (hr : Mi.Rd As l (nm.map .int)) (hm : 1 ≤ nm.length ∧ nm.length ≤ 100) : Ok (f_l_trace [.ref l0, .ref l] S) fun v S' => ∃ (p : Nat) (xs : List Int), v = .ref p ∧ Hs (pt p (.lst (xs.map .int)) :: As) S' ∧ xs.length ≤ 50 := by
  rw [f_l_trace_eq]
  refine Ok.def rfl ?_
  simp (decide := true) [wpe_ret, wpe_exc, wpe_bind, wps_nx, wps_ret, wps_bk, wps_ct, wps_exc, wps_bindS, wps_seq, wps_xSeq, wps_toS, wpe_nox, defQ_ret, defQ_exc, wps_if, cn_k, cn_x, cx_n, cx_q, wpe_lst, wpe_dnew, wps_xSetF, wps_xAugF, wps_xDPut, gSub_eq, wpe_xMake, wps_xFor, wps_xForE, wpe_xLc, loopQ_ct, loopQ_bk, loopQ_ret, loopQ_exc, wpe_iteBad, wps_iteBad, oIC_wp, bList_wp, bListT_wp, oSlL_wp, oCat_wp, bListD_wp, mkRg_wp, bSet_wp, xSortSet_wp, cDiv_lit, cMul_litL, cMul_litR, rngOk_lit, rngOk_m1, -bList_tup, iR3, xLRg1, xLRg2, xErrF, xIsE, xRaise, RS.unset, RS.noexc, xNext, xAsg, gNameX, gConsX, gNilX, gTupX, xVar, xC, xOp, xUn, oI_int, oNeg_int, xB, asB_bl, xRet, xRetN, xDrop, xBreak, xCont, xCons, xNil, xTup, xCB, xCall, xCallX, xAnd, xOr, xNot, xAndV, xOrV, xNotV, xIf, xYes, xTru, truD, xIsN, xNotN, nonD, xFld, xMeth, xMethX, xBM, xDGet, xDIn, xPart, xNoPart, xSl, nox_ok, toS_ok, finX, iR1, iR2, iL, iT, iE, iZ, xAug, xAssert, str_beq, insX, putFX, putX, valX, keyD_int, keyD_str, List.lookup, oInSet, xDisp, xPCons, xPNil, keysX, mergeX, rdL_app_ge, rdL_app_self, rdL_zero, rdL_succ, at_app_ge, at_app_self, at_zero, at_succ]
  refine wpe_allo h ?_
  intro p S h
  simp (decide := true) [wpe_ret, wpe_exc, wpe_bind, wps_nx, wps_ret, wps_bk, wps_ct, wps_exc, wps_bindS, wps_seq, wps_xSeq, wps_toS, wpe_nox, defQ_ret, defQ_exc, wps_if, cn_k, cn_x, cx_n, cx_q, wpe_lst, wpe_dnew, wps_xSetF, wps_xAugF, wps_xDPut, gSub_eq, wpe_xMake, wps_xFor, wps_xForE, wpe_xLc, loopQ_ct, loopQ_bk, loopQ_ret, loopQ_exc, wpe_iteBad, wps_iteBad, oIC_wp, bList_wp, bListT_wp, oSlL_wp, oCat_wp, bListD_wp, mkRg_wp, bSet_wp, xSortSet_wp, cDiv_lit, cMul_litL, cMul_litR, rngOk_lit, rngOk_m1, -bList_tup, iR3, xLRg1, xLRg2, xErrF, xIsE, xRaise, RS.unset, RS.noexc, xNext, xAsg, gNameX, gConsX, gNilX, gTupX, xVar, xC, xOp, xUn, oI_int, oNeg_int, xB, asB_bl, xRet, xRetN, xDrop, xBreak, xCont, xCons, xNil, xTup, xCB, xCall, xCallX, xAnd, xOr, xNot, xAndV, xOrV, xNotV, xIf, xYes, xTru, truD, xIsN, xNotN, nonD, xFld, xMeth, xMethX, xBM, xDGet, xDIn, xPart, xNoPart, xSl, nox_ok, toS_ok, finX, iR1, iR2, iL, iT, iE, iZ, xAug, xAssert, str_beq, insX, putFX, putX, valX, keyD_int, keyD_str, List.lookup, oInSet, xDisp, xPCons, xPNil, keysX, mergeX, rdL_app_ge, rdL_app_self, rdL_zero, rdL_succ, at_app_ge, at_app_self, at_zero, at_succ, f_l_trace_l1]
  refine wpe_k (num_ok (hn.cons _ h) hl (by unfold NumOk; omega)) ?_
  rintro _ S ⟨rfl, q, rfl, q0, q1⟩
  simp (decide := true) [wpe_ret, wpe_exc, wpe_bind, wps_nx, wps_ret, wps_bk, wps_ct, wps_exc, wps_bindS, wps_seq, wps_xSeq, wps_toS, wpe_nox, defQ_ret, defQ_exc, wps_if, cn_k, cn_x, cx_n, cx_q, wpe_lst, wpe_dnew, wps_xSetF, wps_xAugF, wps_xDPut, gSub_eq, wpe_xMake, wps_xFor, wps_xForE, wpe_xLc, loopQ_ct, loopQ_bk, loopQ_ret, loopQ_exc, wpe_iteBad, wps_iteBad, oIC_wp, bList_wp, bListT_wp, oSlL_wp, oCat_wp, bListD_wp, mkRg_wp, bSet_wp, xSortSet_wp, cDiv_lit, cMul_litL, cMul_litR, rngOk_lit, rngOk_m1, -bList_tup, iR3, xLRg1, xLRg2, xErrF, xIsE, xRaise, RS.unset, RS.noexc, xNext, xAsg, gNameX, gConsX, gNilX, gTupX, xVar, xC, xOp, xUn, oI_int, oNeg_int, xB, asB_bl, xRet, xRetN, xDrop, xBreak, xCont, xCons, xNil, xTup, xCB, xCall, xCallX, xAnd, xOr, xNot, xAndV, xOrV, xNotV, xIf, xYes, xTru, truD, xIsN, xNotN, nonD, xFld, xMeth, xMethX, xBM, xDGet, xDIn, xPart, xNoPart, xSl, nox_ok, toS_ok, finX, iR1, iR2, iL, iT, iE, iZ, xAug, xAssert, str_beq, insX, putFX, putX, valX, keyD_int, keyD_str, List.lookup, oInSet, xDisp, xPCons, xPNil, keysX, mergeX, rdL_app_ge, rdL_app_self, rdL_zero, rdL_succ, at_app_ge, at_app_self, at_zero, at_succ]
  refine ⟨rngOk (by omega), ?_⟩
  refine wps_loop (fun i env S => ∃ (o3 o4 o5 : Option D) (xs : List Int), env = [some (.ref l0), some (.ref l), some (.ref p), o3, o4, o5] ∧ Hs (pt p (.lst (xs.map .int)) :: As) S ∧ xs.length = i) ⟨_, _, _, [], rfl, h, rfl⟩ (fun _ _ _ _ => trivial) ?_ ?_
  · rintro i x env S hx ⟨o3, o4, o5, xs, rfl, h, hi⟩
    obtain ⟨hlt, rfl⟩ := rngD_get hx
    obtain ⟨a, ha⟩ : ∃ a : Int, a = 1 + (i : Int) := ⟨_, rfl⟩
    rw [← ha]
    simp (decide := true) [wpe_ret, wpe_exc, wpe_bind, wps_nx, wps_ret, wps_bk, wps_ct, wps_exc, wps_bindS, wps_seq, wps_xSeq, wps_toS, wpe_nox, defQ_ret, defQ_exc, wps_if, cn_k, cn_x, cx_n, cx_q, wpe_lst, wpe_dnew, wps_xSetF, wps_xAugF, wps_xDPut, gSub_eq, wpe_xMake, wps_xFor, wps_xForE, wpe_xLc, loopQ_ct, loopQ_bk, loopQ_ret, loopQ_exc, wpe_iteBad, wps_iteBad, oIC_wp, bList_wp, bListT_wp, oSlL_wp, oCat_wp, bListD_wp, mkRg_wp, bSet_wp, xSortSet_wp, cDiv_lit, cMul_litL, cMul_litR, rngOk_lit, rngOk_m1, -bList_tup, iR3, xLRg1, xLRg2, xErrF, xIsE, xRaise, RS.unset, RS.noexc, xNext, xAsg, gNameX, gConsX, gNilX, gTupX, xVar, xC, xOp, xUn, oI_int, oNeg_int, xB, asB_bl, xRet, xRetN, xDrop, xBreak, xCont, xCons, xNil, xTup, xCB, xCall, xCallX, xAnd, xOr, xNot, xAndV, xOrV, xNotV, xIf, xYes, xTru, truD, xIsN, xNotN, nonD, xFld, xMeth, xMethX, xBM, xDGet, xDIn, xPart, xNoPart, xSl, nox_ok, toS_ok, finX, iR1, iR2, iL, iT, iE, iZ, xAug, xAssert, str_beq, insX, putFX, putX, valX, keyD_int, keyD_str, List.lookup, oInSet, xDisp, xPCons, xPNil, keysX, mergeX, rdL_app_ge, rdL_app_self, rdL_zero, rdL_succ, at_app_ge, at_app_self, at_zero, at_succ, f_l_trace_b1]
    refine wpe_k (num_ok (hn.cons _ h) hl (by unfold NumOk; omega)) ?_
    rintro _ S ⟨rfl, kd, rfl, k0, k1⟩
    simp (decide := true) [wpe_ret, wpe_exc, wpe_bind, wps_nx, wps_ret, wps_bk, wps_ct, wps_exc, wps_bindS, wps_seq, wps_xSeq, wps_toS, wpe_nox, defQ_ret, defQ_exc, wps_if, cn_k, cn_x, cx_n, cx_q, wpe_lst, wpe_dnew, wps_xSetF, wps_xAugF, wps_xDPut, gSub_eq, wpe_xMake, wps_xFor, wps_xForE, wpe_xLc, loopQ_ct, loopQ_bk, loopQ_ret, loopQ_exc, wpe_iteBad, wps_iteBad, oIC_wp, bList_wp, bListT_wp, oSlL_wp, oCat_wp, bListD_wp, mkRg_wp, bSet_wp, xSortSet_wp, cDiv_lit, cMul_litL, cMul_litR, rngOk_lit, rngOk_m1, -bList_tup, iR3, xLRg1, xLRg2, xErrF, xIsE, xRaise, RS.unset, RS.noexc, xNext, xAsg, gNameX, gConsX, gNilX, gTupX, xVar, xC, xOp, xUn, oI_int, oNeg_int, xB, asB_bl, xRet, xRetN, xDrop, xBreak, xCont, xCons, xNil, xTup, xCB, xCall, xCallX, xAnd, xOr, xNot, xAndV, xOrV, xNotV, xIf, xYes, xTru, truD, xIsN, xNotN, nonD, xFld, xMeth, xMethX, xBM, xDGet, xDIn, xPart, xNoPart, xSl, nox_ok, toS_ok, finX, iR1, iR2, iL, iT, iE, iZ, xAug, xAssert, str_beq, insX, putFX, putX, valX, keyD_int, keyD_str, List.lookup, oInSet, xDisp, xPCons, xPNil, keysX, mergeX, rdL_app_ge, rdL_app_self, rdL_zero, rdL_succ, at_app_ge, at_app_self, at_zero, at_succ, len_ok (hr.cons _ h)]
    refine wpe_k (num_ok (hn.cons _ h) hl (by unfold NumOk; omega)) ?_
    rintro _ S ⟨rfl, t, rfl, t0, t1⟩
    obtain ⟨y, hy⟩ : ∃ y, nm[t.toNat]? = some y := ⟨_, List.getElem?_eq_getElem (by omega)⟩
    simp (decide := true) [wpe_ret, wpe_exc, wpe_bind, wps_nx, wps_ret, wps_bk, wps_ct, wps_exc, wps_bindS, wps_seq, wps_xSeq, wps_toS, wpe_nox, defQ_ret, defQ_exc, wps_if, cn_k, cn_x, cx_n, cx_q, wpe_lst, wpe_dnew, wps_xSetF, wps_xAugF, wps_xDPut, gSub_eq, wpe_xMake, wps_xFor, wps_xForE, wpe_xLc, loopQ_ct, loopQ_bk, loopQ_ret, loopQ_exc, wpe_iteBad, wps_iteBad, oIC_wp, bList_wp, bListT_wp, oSlL_wp, oCat_wp, bListD_wp, mkRg_wp, bSet_wp, xSortSet_wp, cDiv_lit, cMul_litL, cMul_litR, rngOk_lit, rngOk_m1, -bList_tup, iR3, xLRg1, xLRg2, xErrF, xIsE, xRaise, RS.unset, RS.noexc, xNext, xAsg, gNameX, gConsX, gNilX, gTupX, xVar, xC, xOp, xUn, oI_int, oNeg_int, xB, asB_bl, xRet, xRetN, xDrop, xBreak, xCont, xCons, xNil, xTup, xCB, xCall, xCallX, xAnd, xOr, xNot, xAndV, xOrV, xNotV, xIf, xYes, xTru, truD, xIsN, xNotN, nonD, xFld, xMeth, xMethX, xBM, xDGet, xDIn, xPart, xNoPart, xSl, nox_ok, toS_ok, finX, iR1, iR2, iL, iT, iE, iZ, xAug, xAssert, str_beq, insX, putFX, putX, valX, keyD_int, keyD_str, List.lookup, oInSet, xDisp, xPCons, xPNil, keysX, mergeX, rdL_app_ge, rdL_app_self, rdL_zero, rdL_succ, at_app_ge, at_app_self, at_zero, at_succ, oIxL, hr.cons _ h, atI_int t0 hy]
    refine wps_k (N := fun e S' => ∃ y, e = [some (.ref l0), some (.ref l), some (.ref p), some (.int a), some (.int kd), some (.int y)] ∧ Hs (pt p (.lst (xs.map .int)) :: As) S') (Q := fun _ => False) ?_ ?_ (fun _ z => z.elim)
    · refine wps_ite (fun _ => ?_) (fun _ => ⟨y, rfl, h⟩)
      have e0 := Int.emod_nonneg a (show (nm.length : Int) ≠ 0 by omega)
      have e1 := Int.emod_lt_of_pos a (show 0 < (nm.length : Int) by omega)
      obtain ⟨z, hz⟩ : ∃ z, nm[(a % (nm.length : Int)).toNat]? = some z := ⟨_, List.getElem?_eq_getElem (by omega)⟩
      simp (decide := true) [wpe_ret, wpe_exc, wpe_bind, wps_nx, wps_ret, wps_bk, wps_ct, wps_exc, wps_bindS, wps_seq, wps_xSeq, wps_toS, wpe_nox, defQ_ret, defQ_exc, wps_if, cn_k, cn_x, cx_n, cx_q, wpe_lst, wpe_dnew, wps_xSetF, wps_xAugF, wps_xDPut, gSub_eq, wpe_xMake, wps_xFor, wps_xForE, wpe_xLc, loopQ_ct, loopQ_bk, loopQ_ret, loopQ_exc, wpe_iteBad, wps_iteBad, oIC_wp, bList_wp, bListT_wp, oSlL_wp, oCat_wp, bListD_wp, mkRg_wp, bSet_wp, xSortSet_wp, cDiv_lit, cMul_litL, cMul_litR, rngOk_lit, rngOk_m1, -bList_tup, iR3, xLRg1, xLRg2, xErrF, xIsE, xRaise, RS.unset, RS.noexc, xNext, xAsg, gNameX, gConsX, gNilX, gTupX, xVar, xC, xOp, xUn, oI_int, oNeg_int, xB, asB_bl, xRet, xRetN, xDrop, xBreak, xCont, xCons, xNil, xTup, xCB, xCall, xCallX, xAnd, xOr, xNot, xAndV, xOrV, xNotV, xIf, xYes, xTru, truD, xIsN, xNotN, nonD, xFld, xMeth, xMethX, xBM, xDGet, xDIn, xPart, xNoPart, xSl, nox_ok, toS_ok, finX, iR1, iR2, iL, iT, iE, iZ, xAug, xAssert, str_beq, insX, putFX, putX, valX, keyD_int, keyD_str, List.lookup, oInSet, xDisp, xPCons, xPNil, keysX, mergeX, rdL_app_ge, rdL_app_self, rdL_zero, rdL_succ, at_app_ge, at_app_self, at_zero, at_succ, oIxL, hr.cons _ h, len_ok (hr.cons _ h), atI_int e0 hz]
      exact ⟨by omega, h⟩
    rintro _ S ⟨y, rfl, h⟩
    simp (decide := true) [wpe_ret, wpe_exc, wpe_bind, wps_nx, wps_ret, wps_bk, wps_ct, wps_exc, wps_bindS, wps_seq, wps_xSeq, wps_toS, wpe_nox, defQ_ret, defQ_exc, wps_if, cn_k, cn_x, cx_n, cx_q, wpe_lst, wpe_dnew, wps_xSetF, wps_xAugF, wps_xDPut, gSub_eq, wpe_xMake, wps_xFor, wps_xForE, wpe_xLc, loopQ_ct, loopQ_bk, loopQ_ret, loopQ_exc, wpe_iteBad, wps_iteBad, oIC_wp, bList_wp, bListT_wp, oSlL_wp, oCat_wp, bListD_wp, mkRg_wp, bSet_wp, xSortSet_wp, cDiv_lit, cMul_litL, cMul_litR, rngOk_lit, rngOk_m1, -bList_tup, iR3, xLRg1, xLRg2, xErrF, xIsE, xRaise, RS.unset, RS.noexc, xNext, xAsg, gNameX, gConsX, gNilX, gTupX, xVar, xC, xOp, xUn, oI_int, oNeg_int, xB, asB_bl, xRet, xRetN, xDrop, xBreak, xCont, xCons, xNil, xTup, xCB, xCall, xCallX, xAnd, xOr, xNot, xAndV, xOrV, xNotV, xIf, xYes, xTru, truD, xIsN, xNotN, nonD, xFld, xMeth, xMethX, xBM, xDGet, xDIn, xPart, xNoPart, xSl, nox_ok, toS_ok, finX, iR1, iR2, iL, iT, iE, iZ, xAug, xAssert, str_beq, insX, putFX, putX, valX, keyD_int, keyD_str, List.lookup, oInSet, xDisp, xPCons, xPNil, keysX, mergeX, rdL_app_ge, rdL_app_self, rdL_zero, rdL_succ, at_app_ge, at_app_self, at_zero, at_succ]
    refine wpe_k (P := fun (b : Bool) S' => S' = S ∧ (b = true → 0 < xs.length)) ?_ ?_
    · unfold Ok f_l_trace_t1
      simp (decide := true) [wpe_ret, wpe_exc, wpe_bind, wps_nx, wps_ret, wps_bk, wps_ct, wps_exc, wps_bindS, wps_seq, wps_xSeq, wps_toS, wpe_nox, defQ_ret, defQ_exc, wps_if, cn_k, cn_x, cx_n, cx_q, wpe_lst, wpe_dnew, wps_xSetF, wps_xAugF, wps_xDPut, gSub_eq, wpe_xMake, wps_xFor, wps_xForE, wpe_xLc, loopQ_ct, loopQ_bk, loopQ_ret, loopQ_exc, wpe_iteBad, wps_iteBad, oIC_wp, bList_wp, bListT_wp, oSlL_wp, oCat_wp, bListD_wp, mkRg_wp, bSet_wp, xSortSet_wp, cDiv_lit, cMul_litL, cMul_litR, rngOk_lit, rngOk_m1, -bList_tup, iR3, xLRg1, xLRg2, xErrF, xIsE, xRaise, RS.unset, RS.noexc, xNext, xAsg, gNameX, gConsX, gNilX, gTupX, xVar, xC, xOp, xUn, oI_int, oNeg_int, xB, asB_bl, xRet, xRetN, xDrop, xBreak, xCont, xCons, xNil, xTup, xCB, xCall, xCallX, xAnd, xOr, xNot, xAndV, xOrV, xNotV, xIf, xYes, xTru, truD, xIsN, xNotN, nonD, xFld, xMeth, xMethX, xBM, xDGet, xDIn, xPart, xNoPart, xSl, nox_ok, toS_ok, finX, iR1, iR2, iL, iT, iE, iZ, xAug, xAssert, str_beq, insX, putFX, putX, valX, keyD_int, keyD_str, List.lookup, oInSet, xDisp, xPCons, xPNil, keysX, mergeX, rdL_app_ge, rdL_app_self, rdL_zero, rdL_succ, at_app_ge, at_app_self, at_zero, at_succ, len_ok (h.rp 0)]
      refine wpe_ite (fun _ => ?_) (fun _ => ?_)
      · simp (decide := true) [wpe_ret, wpe_exc, wpe_bind, wps_nx, wps_ret, wps_bk, wps_ct, wps_exc, wps_bindS, wps_seq, wps_xSeq, wps_toS, wpe_nox, defQ_ret, defQ_exc, wps_if, cn_k, cn_x, cx_n, cx_q, wpe_lst, wpe_dnew, wps_xSetF, wps_xAugF, wps_xDPut, gSub_eq, wpe_xMake, wps_xFor, wps_xForE, wpe_xLc, loopQ_ct, loopQ_bk, loopQ_ret, loopQ_exc, wpe_iteBad, wps_iteBad, oIC_wp, bList_wp, bListT_wp, oSlL_wp, oCat_wp, bListD_wp, mkRg_wp, bSet_wp, xSortSet_wp, cDiv_lit, cMul_litL, cMul_litR, rngOk_lit, rngOk_m1, -bList_tup, iR3, xLRg1, xLRg2, xErrF, xIsE, xRaise, RS.unset, RS.noexc, xNext, xAsg, gNameX, gConsX, gNilX, gTupX, xVar, xC, xOp, xUn, oI_int, oNeg_int, xB, asB_bl, xRet, xRetN, xDrop, xBreak, xCont, xCons, xNil, xTup, xCB, xCall, xCallX, xAnd, xOr, xNot, xAndV, xOrV, xNotV, xIf, xYes, xTru, truD, xIsN, xNotN, nonD, xFld, xMeth, xMethX, xBM, xDGet, xDIn, xPart, xNoPart, xSl, nox_ok, toS_ok, finX, iR1, iR2, iL, iT, iE, iZ, xAug, xAssert, str_beq, insX, putFX, putX, valX, keyD_int, keyD_str, List.lookup, oInSet, xDisp, xPCons, xPNil, keysX, mergeX, rdL_app_ge, rdL_app_self, rdL_zero, rdL_succ, at_app_ge, at_app_self, at_zero, at_succ, len_ok (h.rp 0)]
      · simp (decide := true) [wpe_ret, wpe_exc, wpe_bind, wps_nx, wps_ret, wps_bk, wps_ct, wps_exc, wps_bindS, wps_seq, wps_xSeq, wps_toS, wpe_nox, defQ_ret, defQ_exc, wps_if, cn_k, cn_x, cx_n, cx_q, wpe_lst, wpe_dnew, wps_xSetF, wps_xAugF, wps_xDPut, gSub_eq, wpe_xMake, wps_xFor, wps_xForE, wpe_xLc, loopQ_ct, loopQ_bk, loopQ_ret, loopQ_exc, wpe_iteBad, wps_iteBad, oIC_wp, bList_wp, bListT_wp, oSlL_wp, oCat_wp, bListD_wp, mkRg_wp, bSet_wp, xSortSet_wp, cDiv_lit, cMul_litL, cMul_litR, rngOk_lit, rngOk_m1, -bList_tup, iR3, xLRg1, xLRg2, xErrF, xIsE, xRaise, RS.unset, RS.noexc, xNext, xAsg, gNameX, gConsX, gNilX, gTupX, xVar, xC, xOp, xUn, oI_int, oNeg_int, xB, asB_bl, xRet, xRetN, xDrop, xBreak, xCont, xCons, xNil, xTup, xCB, xCall, xCallX, xAnd, xOr, xNot, xAndV, xOrV, xNotV, xIf, xYes, xTru, truD, xIsN, xNotN, nonD, xFld, xMeth, xMethX, xBM, xDGet, xDIn, xPart, xNoPart, xSl, nox_ok, toS_ok, finX, iR1, iR2, iL, iT, iE, iZ, xAug, xAssert, str_beq, insX, putFX, putX, valX, keyD_int, keyD_str, List.lookup, oInSet, xDisp, xPCons, xPNil, keysX, mergeX, rdL_app_ge, rdL_app_self, rdL_zero, rdL_succ, at_app_ge, at_app_self, at_zero, at_succ]
    rintro t S ⟨rfl, ht⟩
    simp only [cn_k]
    refine wps_k (N := fun e S' => ∃ y, e = [some (.ref l0), some (.ref l), some (.ref p), some (.int a), some (.int kd), some (.int y)] ∧ Hs (pt p (.lst (xs.map .int)) :: As) S') (Q := fun _ => False) ?_ ?_ (fun _ z => z.elim)
    · refine wps_ite (fun hq => ?_) (fun _ => ⟨y, rfl, h⟩)
      have hx := ht hq
      simp (decide := true) [wpe_ret, wpe_exc, wpe_bind, wps_nx, wps_ret, wps_bk, wps_ct, wps_exc, wps_bindS, wps_seq, wps_xSeq, wps_toS, wpe_nox, defQ_ret, defQ_exc, wps_if, cn_k, cn_x, cx_n, cx_q, wpe_lst, wpe_dnew, wps_xSetF, wps_xAugF, wps_xDPut, gSub_eq, wpe_xMake, wps_xFor, wps_xForE, wpe_xLc, loopQ_ct, loopQ_bk, loopQ_ret, loopQ_exc, wpe_iteBad, wps_iteBad, oIC_wp, bList_wp, bListT_wp, oSlL_wp, oCat_wp, bListD_wp, mkRg_wp, bSet_wp, xSortSet_wp, cDiv_lit, cMul_litL, cMul_litR, rngOk_lit, rngOk_m1, -bList_tup, iR3, xLRg1, xLRg2, xErrF, xIsE, xRaise, RS.unset, RS.noexc, xNext, xAsg, gNameX, gConsX, gNilX, gTupX, xVar, xC, xOp, xUn, oI_int, oNeg_int, xB, asB_bl, xRet, xRetN, xDrop, xBreak, xCont, xCons, xNil, xTup, xCB, xCall, xCallX, xAnd, xOr, xNot, xAndV, xOrV, xNotV, xIf, xYes, xTru, truD, xIsN, xNotN, nonD, xFld, xMeth, xMethX, xBM, xDGet, xDIn, xPart, xNoPart, xSl, nox_ok, toS_ok, finX, iR1, iR2, iL, iT, iE, iZ, xAug, xAssert, str_beq, insX, putFX, putX, valX, keyD_int, keyD_str, List.lookup, oInSet, xDisp, xPCons, xPNil, keysX, mergeX, rdL_app_ge, rdL_app_self, rdL_zero, rdL_succ, at_app_ge, at_app_self, at_zero, at_succ, len_ok (h.rp 0)]
      refine wpe_k (num_ok (hn.cons _ h) hl (by unfold NumOk; omega)) ?_
      rintro _ S ⟨rfl, t, rfl, t0, t1⟩
      obtain ⟨z, hz⟩ : ∃ z, xs[t.toNat]? = some z := ⟨_, List.getElem?_eq_getElem (by omega)⟩
      simp (decide := true) [wpe_ret, wpe_exc, wpe_bind, wps_nx, wps_ret, wps_bk, wps_ct, wps_exc, wps_bindS, wps_seq, wps_xSeq, wps_toS, wpe_nox, defQ_ret, defQ_exc, wps_if, cn_k, cn_x, cx_n, cx_q, wpe_lst, wpe_dnew, wps_xSetF, wps_xAugF, wps_xDPut, gSub_eq, wpe_xMake, wps_xFor, wps_xForE, wpe_xLc, loopQ_ct, loopQ_bk, loopQ_ret, loopQ_exc, wpe_iteBad, wps_iteBad, oIC_wp, bList_wp, bListT_wp, oSlL_wp, oCat_wp, bListD_wp, mkRg_wp, bSet_wp, xSortSet_wp, cDiv_lit, cMul_litL, cMul_litR, rngOk_lit, rngOk_m1, -bList_tup, iR3, xLRg1, xLRg2, xErrF, xIsE, xRaise, RS.unset, RS.noexc, xNext, xAsg, gNameX, gConsX, gNilX, gTupX, xVar, xC, xOp, xUn, oI_int, oNeg_int, xB, asB_bl, xRet, xRetN, xDrop, xBreak, xCont, xCons, xNil, xTup, xCB, xCall, xCallX, xAnd, xOr, xNot, xAndV, xOrV, xNotV, xIf, xYes, xTru, truD, xIsN, xNotN, nonD, xFld, xMeth, xMethX, xBM, xDGet, xDIn, xPart, xNoPart, xSl, nox_ok, toS_ok, finX, iR1, iR2, iL, iT, iE, iZ, xAug, xAssert, str_beq, insX, putFX, putX, valX, keyD_int, keyD_str, List.lookup, oInSet, xDisp, xPCons, xPNil, keysX, mergeX, rdL_app_ge, rdL_app_self, rdL_zero, rdL_succ, at_app_ge, at_app_self, at_zero, at_succ, oIxL, h.rp 0, atI_int t0 hz]
      exact h
    rintro _ S ⟨y, rfl, h⟩
    simp (decide := true) [wpe_ret, wpe_exc, wpe_bind, wps_nx, wps_ret, wps_bk, wps_ct, wps_exc, wps_bindS, wps_seq, wps_xSeq, wps_toS, wpe_nox, defQ_ret, defQ_exc, wps_if, cn_k, cn_x, cx_n, cx_q, wpe_lst, wpe_dnew, wps_xSetF, wps_xAugF, wps_xDPut, gSub_eq, wpe_xMake, wps_xFor, wps_xForE, wpe_xLc, loopQ_ct, loopQ_bk, loopQ_ret, loopQ_exc, wpe_iteBad, wps_iteBad, oIC_wp, bList_wp, bListT_wp, oSlL_wp, oCat_wp, bListD_wp, mkRg_wp, bSet_wp, xSortSet_wp, cDiv_lit, cMul_litL, cMul_litR, rngOk_lit, rngOk_m1, -bList_tup, iR3, xLRg1, xLRg2, xErrF, xIsE, xRaise, RS.unset, RS.noexc, xNext, xAsg, gNameX, gConsX, gNilX, gTupX, xVar, xC, xOp, xUn, oI_int, oNeg_int, xB, asB_bl, xRet, xRetN, xDrop, xBreak, xCont, xCons, xNil, xTup, xCB, xCall, xCallX, xAnd, xOr, xNot, xAndV, xOrV, xNotV, xIf, xYes, xTru, truD, xIsN, xNotN, nonD, xFld, xMeth, xMethX, xBM, xDGet, xDIn, xPart, xNoPart, xSl, nox_ok, toS_ok, finX, iR1, iR2, iL, iT, iE, iZ, xAug, xAssert, str_beq, insX, putFX, putX, valX, keyD_int, keyD_str, List.lookup, oInSet, xDisp, xPCons, xPNil, keysX, mergeX, rdL_app_ge, rdL_app_self, rdL_zero, rdL_succ, at_app_ge, at_app_self, at_zero, at_succ, isLst, h.rp 0]
    refine wpe_append h (by rw [List.length_map]; omega) ?_
    intro S h
    refine ⟨_, _, _, xs ++ [y], rfl, ?_, by rw [List.length_append, hi]; rfl⟩
    rw [List.map_append]
    exact h
  · rintro _ S ⟨o3, o4, o5, xs, rfl, h, hi⟩
    rw [rngD_len] at hi
    simp (decide := true) [wpe_ret, wpe_exc, wpe_bind, wps_nx, wps_ret, wps_bk, wps_ct, wps_exc, wps_bindS, wps_seq, wps_xSeq, wps_toS, wpe_nox, defQ_ret, defQ_exc, wps_if, cn_k, cn_x, cx_n, cx_q, wpe_lst, wpe_dnew, wps_xSetF, wps_xAugF, wps_xDPut, gSub_eq, wpe_xMake, wps_xFor, wps_xForE, wpe_xLc, loopQ_ct, loopQ_bk, loopQ_ret, loopQ_exc, wpe_iteBad, wps_iteBad, oIC_wp, bList_wp, bListT_wp, oSlL_wp, oCat_wp, bListD_wp, mkRg_wp, bSet_wp, xSortSet_wp, cDiv_lit, cMul_litL, cMul_litR, rngOk_lit, rngOk_m1, -bList_tup, iR3, xLRg1, xLRg2, xErrF, xIsE, xRaise, RS.unset, RS.noexc, xNext, xAsg, gNameX, gConsX, gNilX, gTupX, xVar, xC, xOp, xUn, oI_int, oNeg_int, xB, asB_bl, xRet, xRetN, xDrop, xBreak, xCont, xCons, xNil, xTup, xCB, xCall, xCallX, xAnd, xOr, xNot, xAndV, xOrV, xNotV, xIf, xYes, xTru, truD, xIsN, xNotN, nonD, xFld, xMeth, xMethX, xBM, xDGet, xDIn, xPart, xNoPart, xSl, nox_ok, toS_ok, finX, iR1, iR2, iL, iT, iE, iZ, xAug, xAssert, str_beq, insX, putFX, putX, valX, keyD_int, keyD_str, List.lookup, oInSet, xDisp, xPCons, xPNil, keysX, mergeX, rdL_app_ge, rdL_app_self, rdL_zero, rdL_succ, at_app_ge, at_app_self, at_zero, at_succ]
    exact ⟨xs, h, by omega⟩
end
end

section
open Mi
def gi (l : List Nat) : List Int := l.map fun (i : Nat) => (i : Int)
theorem gi_len {l : List Nat} : (gi l).length = l.length := by simp [gi]
theorem gi_snoc {l : List Nat} {i : Nat} : gi (l ++ [i]) = gi l ++ [(i : Int)] := by simp [gi]
theorem gi_get {l : List Nat} {k i : Nat} (h : l[k]? = some i) : (gi l)[k]? = some (i : Int) := by simp [gi, h]
section
variable {As : List Asn} {S : Sto} {l : Nat} {ns : List Int} {m : Nat}
theorem gr_at {i b : Nat} (h : Lst ns m i b) : L2.atI ((gi (Gr ns m i)).map D.int) (((gi (Gr ns m i)).length : Int) - 1) = some (.int (b : Int)) := by
  have hg := h.get
  rw [List.getLast?_eq_getElem?] at hg
  have := (List.getElem?_eq_some_iff.mp hg).1
  rw [gi_len]
  refine atI_int (by omega) ?_
  rw [show (((Gr ns m i).length : Int) - 1).toNat = (Gr ns m i).length - 1 by omega]
  exact gi_get hg
theorem gr_len (hm : 1 ≤ m) {i : Nat} : (gi (Gr ns m i)).length ≤ i := by rw [gi_len]; exact bn_le hm i
theorem cut1 {i b : Nat} {a : Int} (ha : a = (i : Int)) (hi : i < ns.length) (hb : b ≤ i) : cutX (ns.map D.int) (some (b : Int)) (some (a + 1)) = (sl ns b (i + 1)).map .int := by
  rw [← cut_sl (show b ≤ i + 1 by omega) (show i + 1 ≤ ns.length by omega)]
  congr 2
  omega
theorem stretch_ok (h : Hs As S) (hr : Mi.Rd As l (ns.map .int)) (hz : ns.length ≤ 1000) (hm : 1 ≤ m ∧ m ≤ 100) : Ok (f_l_stretches [.ref l, .int m] S) fun v S' => ∃ p, v = .ref p ∧ Hs (pt p (.lst ((gi (Gr ns m ns.length)).map .int)) :: As) S' := by
  rw [f_l_stretches_eq]
  refine Ok.def rfl ?_
  simp (decide := true) [wpe_ret, wpe_exc, wpe_bind, wps_nx, wps_ret, wps_bk, wps_ct, wps_exc, wps_bindS, wps_seq, wps_xSeq, wps_toS, wpe_nox, defQ_ret, defQ_exc, wps_if, cn_k, cn_x, cx_n, cx_q, wpe_lst, wpe_dnew, wps_xSetF, wps_xAugF, wps_xDPut, gSub_eq, wpe_xMake, wps_xFor, wps_xForE, wpe_xLc, loopQ_ct, loopQ_bk, loopQ_ret, loopQ_exc, wpe_iteBad, wps_iteBad, oIC_wp, bList_wp, bListT_wp, oSlL_wp, oCat_wp, bListD_wp, mkRg_wp, bSet_wp, xSortSet_wp, cDiv_lit, cMul_litL, cMul_litR, rngOk_lit, rngOk_m1, -bList_tup, iR3, xLRg1, xLRg2, xErrF, xIsE, xRaise, RS.unset, RS.noexc, xNext, xAsg, gNameX, gConsX, gNilX, gTupX, xVar, xC, xOp, xUn, oI_int, oNeg_int, xB, asB_bl, xRet, xRetN, xDrop, xBreak, xCont, xCons, xNil, xTup, xCB, xCall, xCallX, xAnd, xOr, xNot, xAndV, xOrV, xNotV, xIf, xYes, xTru, truD, xIsN, xNotN, nonD, xFld, xMeth, xMethX, xBM, xDGet, xDIn, xPart, xNoPart, xSl, nox_ok, toS_ok, finX, iR1, iR2, iL, iT, iE, iZ, xAug, xAssert, str_beq, insX, putFX, putX, valX, keyD_int, keyD_str, List.lookup, oInSet, xDisp, xPCons, xPNil, keysX, mergeX, rdL_app_ge, rdL_app_self, rdL_zero, rdL_succ, at_app_ge, at_app_self, at_zero, at_succ]
  refine wpe_allo h ?_
  intro p S h
  simp (decide := true) [wpe_ret, wpe_exc, wpe_bind, wps_nx, wps_ret, wps_bk, wps_ct, wps_exc, wps_bindS, wps_seq, wps_xSeq, wps_toS, wpe_nox, defQ_ret, defQ_exc, wps_if, cn_k, cn_x, cx_n, cx_q, wpe_lst, wpe_dnew, wps_xSetF, wps_xAugF, wps_xDPut, gSub_eq, wpe_xMake, wps_xFor, wps_xForE, wpe_xLc, loopQ_ct, loopQ_bk, loopQ_ret, loopQ_exc, wpe_iteBad, wps_iteBad, oIC_wp, bList_wp, bListT_wp, oSlL_wp, oCat_wp, bListD_wp, mkRg_wp, bSet_wp, xSortSet_wp, cDiv_lit, cMul_litL, cMul_litR, rngOk_lit, rngOk_m1, -bList_tup, iR3, xLRg1, xLRg2, xErrF, xIsE, xRaise, RS.unset, RS.noexc, xNext, xAsg, gNameX, gConsX, gNilX, gTupX, xVar, xC, xOp, xUn, oI_int, oNeg_int, xB, asB_bl, xRet, xRetN, xDrop, xBreak, xCont, xCons, xNil, xTup, xCB, xCall, xCallX, xAnd, xOr, xNot, xAndV, xOrV, xNotV, xIf, xYes, xTru, truD, xIsN, xNotN, nonD, xFld, xMeth, xMethX, xBM, xDGet, xDIn, xPart, xNoPart, xSl, nox_ok, toS_ok, finX, iR1, iR2, iL, iT, iE, iZ, xAug, xAssert, str_beq, insX, putFX, putX, valX, keyD_int, keyD_str, List.lookup, oInSet, xDisp, xPCons, xPNil, keysX, mergeX, rdL_app_ge, rdL_app_self, rdL_zero, rdL_succ, at_app_ge, at_app_self, at_zero, at_succ, f_l_stretches_l1, len_ok (hr.cons _ h)]
  refine ⟨rngOk (by omega), ?_⟩
  refine wps_loop (fun i env S => ∃ (o3 : Option D), env = [some (.ref l), some (.int m), some (.ref p), o3] ∧ Hs (pt p (.lst ((gi (Gr ns m i)).map .int)) :: As) S) ⟨_, rfl, h⟩ (fun _ _ _ _ => trivial) ?_ ?_
  · rintro i x env S hx ⟨o3, rfl, h⟩
    obtain ⟨hlt, rfl⟩ := rngD_get hx
    obtain ⟨a, ha⟩ : ∃ a : Int, a = 0 + (i : Int) := ⟨_, rfl⟩
    rw [← ha]
    have ha' : a = (i : Int) := by omega
    have gl := gr_len (ns := ns) hm.1 (i := i)
    have go : ∀ {S}, Hs (pt p (.lst ((gi (Gr ns m i ++ [i])).map .int)) :: As) S → Gr ns m (i + 1) = Gr ns m i ++ [i] → Hs (pt p (.lst ((gi (Gr ns m (i + 1))).map .int)) :: As) S := fun h e => by rw [e]; exact h
    by_cases h0 : i = 0
    · subst h0
      simp (decide := true) [wpe_ret, wpe_exc, wpe_bind, wps_nx, wps_ret, wps_bk, wps_ct, wps_exc, wps_bindS, wps_seq, wps_xSeq, wps_toS, wpe_nox, defQ_ret, defQ_exc, wps_if, cn_k, cn_x, cx_n, cx_q, wpe_lst, wpe_dnew, wps_xSetF, wps_xAugF, wps_xDPut, gSub_eq, wpe_xMake, wps_xFor, wps_xForE, wpe_xLc, loopQ_ct, loopQ_bk, loopQ_ret, loopQ_exc, wpe_iteBad, wps_iteBad, oIC_wp, bList_wp, bListT_wp, oSlL_wp, oCat_wp, bListD_wp, mkRg_wp, bSet_wp, xSortSet_wp, cDiv_lit, cMul_litL, cMul_litR, rngOk_lit, rngOk_m1, -bList_tup, iR3, xLRg1, xLRg2, xErrF, xIsE, xRaise, RS.unset, RS.noexc, xNext, xAsg, gNameX, gConsX, gNilX, gTupX, xVar, xC, xOp, xUn, oI_int, oNeg_int, xB, asB_bl, xRet, xRetN, xDrop, xBreak, xCont, xCons, xNil, xTup, xCB, xCall, xCallX, xAnd, xOr, xNot, xAndV, xOrV, xNotV, xIf, xYes, xTru, truD, xIsN, xNotN, nonD, xFld, xMeth, xMethX, xBM, xDGet, xDIn, xPart, xNoPart, xSl, nox_ok, toS_ok, finX, iR1, iR2, iL, iT, iE, iZ, xAug, xAssert, str_beq, insX, putFX, putX, valX, keyD_int, keyD_str, List.lookup, oInSet, xDisp, xPCons, xPNil, keysX, mergeX, rdL_app_ge, rdL_app_self, rdL_zero, rdL_succ, at_app_ge, at_app_self, at_zero, at_succ, f_l_stretches_b1, f_l_stretches_t1, len_ok (h.rp 0), Gr, gi, isLst, h.rp 0]
      refine wpe_append h (by simp [Gr, gi]) ?_
      intro S h
      refine ⟨_, rfl, ?_⟩
      have e : a = ((0 : Nat) : Int) := ha'
      rw [e] at h
      exact h
    · obtain ⟨b, hb⟩ := gr_lst hm.1 (ns := ns) (t := i) (by omega)
      have hne : ¬ (gi (Gr ns m i)).length = 0 := by
        rw [gi_len, hb.e, hb.e1]
        simp
      have hlt' := hb.lt
      simp (decide := true) [wpe_ret, wpe_exc, wpe_bind, wps_nx, wps_ret, wps_bk, wps_ct, wps_exc, wps_bindS, wps_seq, wps_xSeq, wps_toS, wpe_nox, defQ_ret, defQ_exc, wps_if, cn_k, cn_x, cx_n, cx_q, wpe_lst, wpe_dnew, wps_xSetF, wps_xAugF, wps_xDPut, gSub_eq, wpe_xMake, wps_xFor, wps_xForE, wpe_xLc, loopQ_ct, loopQ_bk, loopQ_ret, loopQ_exc, wpe_iteBad, wps_iteBad, oIC_wp, bList_wp, bListT_wp, oSlL_wp, oCat_wp, bListD_wp, mkRg_wp, bSet_wp, xSortSet_wp, cDiv_lit, cMul_litL, cMul_litR, rngOk_lit, rngOk_m1, -bList_tup, iR3, xLRg1, xLRg2, xErrF, xIsE, xRaise, RS.unset, RS.noexc, xNext, xAsg, gNameX, gConsX, gNilX, gTupX, xVar, xC, xOp, xUn, oI_int, oNeg_int, xB, asB_bl, xRet, xRetN, xDrop, xBreak, xCont, xCons, xNil, xTup, xCB, xCall, xCallX, xAnd, xOr, xNot, xAndV, xOrV, xNotV, xIf, xYes, xTru, truD, xIsN, xNotN, nonD, xFld, xMeth, xMethX, xBM, xDGet, xDIn, xPart, xNoPart, xSl, nox_ok, toS_ok, finX, iR1, iR2, iL, iT, iE, iZ, xAug, xAssert, str_beq, insX, putFX, putX, valX, keyD_int, keyD_str, List.lookup, oInSet, xDisp, xPCons, xPNil, keysX, mergeX, rdL_app_ge, rdL_app_self, rdL_zero, rdL_succ, at_app_ge, at_app_self, at_zero, at_succ, f_l_stretches_b1, f_l_stretches_t1, len_ok (h.rp 0), hne, isLst, oIxL, h.rp 0, gr_at hb, hr.cons _ h, cut1 ha' hlt (show b ≤ i by omega)]
      refine wpe_allo h ?_
      intro q S h
      have hs := sl_len (ns := ns) (a := b) (b := i + 1) (by omega)
      simp (decide := true) [wpe_ret, wpe_exc, wpe_bind, wps_nx, wps_ret, wps_bk, wps_ct, wps_exc, wps_bindS, wps_seq, wps_xSeq, wps_toS, wpe_nox, defQ_ret, defQ_exc, wps_if, cn_k, cn_x, cx_n, cx_q, wpe_lst, wpe_dnew, wps_xSetF, wps_xAugF, wps_xDPut, gSub_eq, wpe_xMake, wps_xFor, wps_xForE, wpe_xLc, loopQ_ct, loopQ_bk, loopQ_ret, loopQ_exc, wpe_iteBad, wps_iteBad, oIC_wp, bList_wp, bListT_wp, oSlL_wp, oCat_wp, bListD_wp, mkRg_wp, bSet_wp, xSortSet_wp, cDiv_lit, cMul_litL, cMul_litR, rngOk_lit, rngOk_m1, -bList_tup, iR3, xLRg1, xLRg2, xErrF, xIsE, xRaise, RS.unset, RS.noexc, xNext, xAsg, gNameX, gConsX, gNilX, gTupX, xVar, xC, xOp, xUn, oI_int, oNeg_int, xB, asB_bl, xRet, xRetN, xDrop, xBreak, xCont, xCons, xNil, xTup, xCB, xCall, xCallX, xAnd, xOr, xNot, xAndV, xOrV, xNotV, xIf, xYes, xTru, truD, xIsN, xNotN, nonD, xFld, xMeth, xMethX, xBM, xDGet, xDIn, xPart, xNoPart, xSl, nox_ok, toS_ok, finX, iR1, iR2, iL, iT, iE, iZ, xAug, xAssert, str_beq, insX, putFX, putX, valX, keyD_int, keyD_str, List.lookup, oInSet, xDisp, xPCons, xPNil, keysX, mergeX, rdL_app_ge, rdL_app_self, rdL_zero, rdL_succ, at_app_ge, at_app_self, at_zero, at_succ]
      refine wpe_k (dif_ok h (Mi.Rd.pt 0) (by omega)) ?_
      rintro _ S ⟨rfl, h⟩
      replace h := h.drop
      by_cases hc : m < cnt (sl ns b (i + 1))
      · have e : Gr ns m (i + 1) = Gr ns m i ++ [i] := by rw [Gr, hb.get]; simp only [if_pos hc]
        simp (decide := true) [wpe_ret, wpe_exc, wpe_bind, wps_nx, wps_ret, wps_bk, wps_ct, wps_exc, wps_bindS, wps_seq, wps_xSeq, wps_toS, wpe_nox, defQ_ret, defQ_exc, wps_if, cn_k, cn_x, cx_n, cx_q, wpe_lst, wpe_dnew, wps_xSetF, wps_xAugF, wps_xDPut, gSub_eq, wpe_xMake, wps_xFor, wps_xForE, wpe_xLc, loopQ_ct, loopQ_bk, loopQ_ret, loopQ_exc, wpe_iteBad, wps_iteBad, oIC_wp, bList_wp, bListT_wp, oSlL_wp, oCat_wp, bListD_wp, mkRg_wp, bSet_wp, xSortSet_wp, cDiv_lit, cMul_litL, cMul_litR, rngOk_lit, rngOk_m1, -bList_tup, iR3, xLRg1, xLRg2, xErrF, xIsE, xRaise, RS.unset, RS.noexc, xNext, xAsg, gNameX, gConsX, gNilX, gTupX, xVar, xC, xOp, xUn, oI_int, oNeg_int, xB, asB_bl, xRet, xRetN, xDrop, xBreak, xCont, xCons, xNil, xTup, xCB, xCall, xCallX, xAnd, xOr, xNot, xAndV, xOrV, xNotV, xIf, xYes, xTru, truD, xIsN, xNotN, nonD, xFld, xMeth, xMethX, xBM, xDGet, xDIn, xPart, xNoPart, xSl, nox_ok, toS_ok, finX, iR1, iR2, iL, iT, iE, iZ, xAug, xAssert, str_beq, insX, putFX, putX, valX, keyD_int, keyD_str, List.lookup, oInSet, xDisp, xPCons, xPNil, keysX, mergeX, rdL_app_ge, rdL_app_self, rdL_zero, rdL_succ, at_app_ge, at_app_self, at_zero, at_succ, hc, isLst, h.rp 0]
        refine wpe_append h (by rw [List.length_map]; omega) ?_
        intro S h
        refine ⟨_, rfl, ?_⟩
        rw [e, gi_snoc, List.map_append, ← ha']
        exact h
      · have e : Gr ns m (i + 1) = Gr ns m i := by rw [Gr, hb.get]; simp only [if_neg hc]
        simp (decide := true) [wpe_ret, wpe_exc, wpe_bind, wps_nx, wps_ret, wps_bk, wps_ct, wps_exc, wps_bindS, wps_seq, wps_xSeq, wps_toS, wpe_nox, defQ_ret, defQ_exc, wps_if, cn_k, cn_x, cx_n, cx_q, wpe_lst, wpe_dnew, wps_xSetF, wps_xAugF, wps_xDPut, gSub_eq, wpe_xMake, wps_xFor, wps_xForE, wpe_xLc, loopQ_ct, loopQ_bk, loopQ_ret, loopQ_exc, wpe_iteBad, wps_iteBad, oIC_wp, bList_wp, bListT_wp, oSlL_wp, oCat_wp, bListD_wp, mkRg_wp, bSet_wp, xSortSet_wp, cDiv_lit, cMul_litL, cMul_litR, rngOk_lit, rngOk_m1, -bList_tup, iR3, xLRg1, xLRg2, xErrF, xIsE, xRaise, RS.unset, RS.noexc, xNext, xAsg, gNameX, gConsX, gNilX, gTupX, xVar, xC, xOp, xUn, oI_int, oNeg_int, xB, asB_bl, xRet, xRetN, xDrop, xBreak, xCont, xCons, xNil, xTup, xCB, xCall, xCallX, xAnd, xOr, xNot, xAndV, xOrV, xNotV, xIf, xYes, xTru, truD, xIsN, xNotN, nonD, xFld, xMeth, xMethX, xBM, xDGet, xDIn, xPart, xNoPart, xSl, nox_ok, toS_ok, finX, iR1, iR2, iL, iT, iE, iZ, xAug, xAssert, str_beq, insX, putFX, putX, valX, keyD_int, keyD_str, List.lookup, oInSet, xDisp, xPCons, xPNil, keysX, mergeX, rdL_app_ge, rdL_app_self, rdL_zero, rdL_succ, at_app_ge, at_app_self, at_zero, at_succ, hc]
        rw [e]
        exact h
  · rintro _ S ⟨o3, rfl, h⟩
    rw [rngD_len] at h
    simp (decide := true) [wpe_ret, wpe_exc, wpe_bind, wps_nx, wps_ret, wps_bk, wps_ct, wps_exc, wps_bindS, wps_seq, wps_xSeq, wps_toS, wpe_nox, defQ_ret, defQ_exc, wps_if, cn_k, cn_x, cx_n, cx_q, wpe_lst, wpe_dnew, wps_xSetF, wps_xAugF, wps_xDPut, gSub_eq, wpe_xMake, wps_xFor, wps_xForE, wpe_xLc, loopQ_ct, loopQ_bk, loopQ_ret, loopQ_exc, wpe_iteBad, wps_iteBad, oIC_wp, bList_wp, bListT_wp, oSlL_wp, oCat_wp, bListD_wp, mkRg_wp, bSet_wp, xSortSet_wp, cDiv_lit, cMul_litL, cMul_litR, rngOk_lit, rngOk_m1, -bList_tup, iR3, xLRg1, xLRg2, xErrF, xIsE, xRaise, RS.unset, RS.noexc, xNext, xAsg, gNameX, gConsX, gNilX, gTupX, xVar, xC, xOp, xUn, oI_int, oNeg_int, xB, asB_bl, xRet, xRetN, xDrop, xBreak, xCont, xCons, xNil, xTup, xCB, xCall, xCallX, xAnd, xOr, xNot, xAndV, xOrV, xNotV, xIf, xYes, xTru, truD, xIsN, xNotN, nonD, xFld, xMeth, xMethX, xBM, xDGet, xDIn, xPart, xNoPart, xSl, nox_ok, toS_ok, finX, iR1, iR2, iL, iT, iE, iZ, xAug, xAssert, str_beq, insX, putFX, putX, valX, keyD_int, keyD_str, List.lookup, oInSet, xDisp, xPCons, xPNil, keysX, mergeX, rdL_app_ge, rdL_app_self, rdL_zero, rdL_succ, at_app_ge, at_app_self, at_zero, at_succ]
    exact h
/-- what the walk of a list of pages keeps -/
structure Ph (ns : List Int) (m i : Nat) (pg : List Int) : Prop where
  z : i = 0 → pg = []
  s : ∀ b, Lst ns m i b → pg = dedupL (sl ns b i)
theorem phases_turn (hm : 1 ≤ m ∧ m ≤ 100) (hz : ns.length ≤ 1000) {i : Nat} {x : Int} (hx : ns[i]? = some x) {st pgs : Nat} {pg : List Int} (hp : Ph ns m i pg) {Q : RS → Prop} {o0 : Option D}
    (h : Hs (pt pgs (.lst (pg.map .int)) :: pt st (.lst ((gi (Gr ns m i)).map .int)) :: As) S) :
    wps (K := ⟨fun e S' => ∃ pgs' pg', e = [o0, some (.int m), some (.ref st), some (.ref pgs'), some (.int i), some (.int x)] ∧ Hs (pt pgs' (.lst (pg'.map .int)) :: pt st (.lst ((gi (Gr ns m (i + 1))).map .int)) :: As) S' ∧ Ph ns m (i + 1) pg',
      loopQ (fun e S' => ∃ pgs' pg', e = [o0, some (.int m), some (.ref st), some (.ref pgs'), some (.int i), some (.int x)] ∧ Hs (pt pgs' (.lst (pg'.map .int)) :: pt st (.lst ((gi (Gr ns m (i + 1))).map .int)) :: As) S' ∧ Ph ns m (i + 1) pg') ⟨fun _ _ => False, Q⟩⟩)
      (f_phases_b1 [o0, some (.int m), some (.ref st), some (.ref pgs), some (.int i), some (.int x)] S) := by
  have hlt := (List.getElem?_eq_some_iff.mp hx).1
  have gl := gr_len (ns := ns) hm.1 (i := i)
  have nl : ∀ pg : List Int, ∀ S, Hs (pt pgs (.lst (pg.map .int)) :: pt st (.lst ((gi (Gr ns m i)).map .int)) :: As) S → True := fun _ _ _ => trivial
  unfold f_phases_b1
  by_cases hc : x ∈ pg
  · simp (decide := true) [wpe_ret, wpe_exc, wpe_bind, wps_nx, wps_ret, wps_bk, wps_ct, wps_exc, wps_bindS, wps_seq, wps_xSeq, wps_toS, wpe_nox, defQ_ret, defQ_exc, wps_if, cn_k, cn_x, cx_n, cx_q, wpe_lst, wpe_dnew, wps_xSetF, wps_xAugF, wps_xDPut, gSub_eq, wpe_xMake, wps_xFor, wps_xForE, wpe_xLc, loopQ_ct, loopQ_bk, loopQ_ret, loopQ_exc, wpe_iteBad, wps_iteBad, oIC_wp, bList_wp, bListT_wp, oSlL_wp, oCat_wp, bListD_wp, mkRg_wp, bSet_wp, xSortSet_wp, cDiv_lit, cMul_litL, cMul_litR, rngOk_lit, rngOk_m1, -bList_tup, iR3, xLRg1, xLRg2, xErrF, xIsE, xRaise, RS.unset, RS.noexc, xNext, xAsg, gNameX, gConsX, gNilX, gTupX, xVar, xC, xOp, xUn, oI_int, oNeg_int, xB, asB_bl, xRet, xRetN, xDrop, xBreak, xCont, xCons, xNil, xTup, xCB, xCall, xCallX, xAnd, xOr, xNot, xAndV, xOrV, xNotV, xIf, xYes, xTru, truD, xIsN, xNotN, nonD, xFld, xMeth, xMethX, xBM, xDGet, xDIn, xPart, xNoPart, xSl, nox_ok, toS_ok, finX, iR1, iR2, iL, iT, iE, iZ, xAug, xAssert, str_beq, insX, putFX, putX, valX, keyD_int, keyD_str, List.lookup, oInSet, xDisp, xPCons, xPNil, keysX, mergeX, rdL_app_ge, rdL_app_self, rdL_zero, rdL_succ, at_app_ge, at_app_self, at_zero, at_succ, oIn, scV, scal, itemsOf, h.rp 0, scVs_ints, inV_ints, memI_eq, hc]
    have h0 : i ≠ 0 := fun z => by
      rw [hp.z z] at hc
      cases hc
    obtain ⟨b, hb⟩ := gr_lst hm.1 (ns := ns) (t := i) (by omega)
    have e1 := hp.s b hb
    have hs := sl_snoc (ns := ns) (show b ≤ i by have := hb.lt; omega) hx
    have hin : x ∈ sl ns b i := by rw [e1] at hc; exact dedup_mem.mp hc
    have hle : ¬ m < cnt (sl ns b (i + 1)) := by rw [hs, cnt_snoc, if_pos hin]; have := hb.le; omega
    have e : Gr ns m (i + 1) = Gr ns m i := by rw [Gr, hb.get]; simp only [if_neg hle]
    rw [e]
    refine ⟨pg, h, fun z => by omega, fun b' hb' => ?_⟩
    have : b' = b := by
      have q := hb'.get
      rw [e, hb.get] at q
      exact (Option.some.inj q).symm
    rw [this, hs, dedup_snoc, if_pos (dedup_mem.mpr hin), e1]
  · have key : ∀ b, Lst ns m i b → (m < cnt (sl ns b (i + 1)) ↔ pg.length = m) ∧ x ∉ sl ns b i ∧ sl ns b (i + 1) = sl ns b i ++ [x] := fun b hb => by
      have e1 := hp.s b hb
      have hs := sl_snoc (ns := ns) (show b ≤ i by have := hb.lt; omega) hx
      have hin : x ∉ sl ns b i := fun z => hc (by rw [e1]; exact dedup_mem.mpr z)
      refine ⟨?_, hin, hs⟩
      rw [hs, cnt_snoc, if_neg hin, e1]
      have := hb.le
      show m < Mi.cnt _ + 1 ↔ Mi.cnt _ = m
      omega
    have hpl : pg.length ≤ 1000 := by
      by_cases h0 : i = 0
      · rw [hp.z h0]; simp
      · obtain ⟨b, hb⟩ := gr_lst hm.1 (ns := ns) (t := i) (by omega)
        rw [hp.s b hb]
        have := hb.le
        show Mi.cnt _ ≤ 1000
        omega
    simp (decide := true) [wpe_ret, wpe_exc, wpe_bind, wps_nx, wps_ret, wps_bk, wps_ct, wps_exc, wps_bindS, wps_seq, wps_xSeq, wps_toS, wpe_nox, defQ_ret, defQ_exc, wps_if, cn_k, cn_x, cx_n, cx_q, wpe_lst, wpe_dnew, wps_xSetF, wps_xAugF, wps_xDPut, gSub_eq, wpe_xMake, wps_xFor, wps_xForE, wpe_xLc, loopQ_ct, loopQ_bk, loopQ_ret, loopQ_exc, wpe_iteBad, wps_iteBad, oIC_wp, bList_wp, bListT_wp, oSlL_wp, oCat_wp, bListD_wp, mkRg_wp, bSet_wp, xSortSet_wp, cDiv_lit, cMul_litL, cMul_litR, rngOk_lit, rngOk_m1, -bList_tup, iR3, xLRg1, xLRg2, xErrF, xIsE, xRaise, RS.unset, RS.noexc, xNext, xAsg, gNameX, gConsX, gNilX, gTupX, xVar, xC, xOp, xUn, oI_int, oNeg_int, xB, asB_bl, xRet, xRetN, xDrop, xBreak, xCont, xCons, xNil, xTup, xCB, xCall, xCallX, xAnd, xOr, xNot, xAndV, xOrV, xNotV, xIf, xYes, xTru, truD, xIsN, xNotN, nonD, xFld, xMeth, xMethX, xBM, xDGet, xDIn, xPart, xNoPart, xSl, nox_ok, toS_ok, finX, iR1, iR2, iL, iT, iE, iZ, xAug, xAssert, str_beq, insX, putFX, putX, valX, keyD_int, keyD_str, List.lookup, oInSet, xDisp, xPCons, xPNil, keysX, mergeX, rdL_app_ge, rdL_app_self, rdL_zero, rdL_succ, at_app_ge, at_app_self, at_zero, at_succ, oIn, scV, scal, itemsOf, h.rp 0, scVs_ints, inV_ints, memI_eq, hc]
    refine wpe_k (P := fun b S' => Hs (pt pgs (.lst (pg.map .int)) :: pt st (.lst ((gi (Gr ns m i)).map .int)) :: As) S' ∧ (b = true ↔ (i = 0 ∨ pg.length = m))) ?_ ?_
    · unfold Ok f_phases_t1
      simp (decide := true) [wpe_ret, wpe_exc, wpe_bind, wps_nx, wps_ret, wps_bk, wps_ct, wps_exc, wps_bindS, wps_seq, wps_xSeq, wps_toS, wpe_nox, defQ_ret, defQ_exc, wps_if, cn_k, cn_x, cx_n, cx_q, wpe_lst, wpe_dnew, wps_xSetF, wps_xAugF, wps_xDPut, gSub_eq, wpe_xMake, wps_xFor, wps_xForE, wpe_xLc, loopQ_ct, loopQ_bk, loopQ_ret, loopQ_exc, wpe_iteBad, wps_iteBad, oIC_wp, bList_wp, bListT_wp, oSlL_wp, oCat_wp, bListD_wp, mkRg_wp, bSet_wp, xSortSet_wp, cDiv_lit, cMul_litL, cMul_litR, rngOk_lit, rngOk_m1, -bList_tup, iR3, xLRg1, xLRg2, xErrF, xIsE, xRaise, RS.unset, RS.noexc, xNext, xAsg, gNameX, gConsX, gNilX, gTupX, xVar, xC, xOp, xUn, oI_int, oNeg_int, xB, asB_bl, xRet, xRetN, xDrop, xBreak, xCont, xCons, xNil, xTup, xCB, xCall, xCallX, xAnd, xOr, xNot, xAndV, xOrV, xNotV, xIf, xYes, xTru, truD, xIsN, xNotN, nonD, xFld, xMeth, xMethX, xBM, xDGet, xDIn, xPart, xNoPart, xSl, nox_ok, toS_ok, finX, iR1, iR2, iL, iT, iE, iZ, xAug, xAssert, str_beq, insX, putFX, putX, valX, keyD_int, keyD_str, List.lookup, oInSet, xDisp, xPCons, xPNil, keysX, mergeX, rdL_app_ge, rdL_app_self, rdL_zero, rdL_succ, at_app_ge, at_app_self, at_zero, at_succ]
      refine wpe_allo h ?_
      intro q S h
      have e0 : (gi (Gr ns m i) = []) ↔ i = 0 := by
        constructor
        · intro z
          by_cases h0 : i = 0
          · exact h0
          · obtain ⟨b, hb⟩ := gr_lst hm.1 (ns := ns) (t := i) (by omega)
            rw [hb.e, hb.e1] at z
            simp [gi] at z
        · rintro rfl
          rfl
      have hq := oEqD_ints (neg := false) (h.rp 2) (show rdL S q = some (([] : List Int).map .int) from h.rp 0)
      by_cases h0 : i = 0
      · replace h := h.drop
        rw [e0.mpr h0] at h
        simp (decide := true) [wpe_ret, wpe_exc, wpe_bind, wps_nx, wps_ret, wps_bk, wps_ct, wps_exc, wps_bindS, wps_seq, wps_xSeq, wps_toS, wpe_nox, defQ_ret, defQ_exc, wps_if, cn_k, cn_x, cx_n, cx_q, wpe_lst, wpe_dnew, wps_xSetF, wps_xAugF, wps_xDPut, gSub_eq, wpe_xMake, wps_xFor, wps_xForE, wpe_xLc, loopQ_ct, loopQ_bk, loopQ_ret, loopQ_exc, wpe_iteBad, wps_iteBad, oIC_wp, bList_wp, bListT_wp, oSlL_wp, oCat_wp, bListD_wp, mkRg_wp, bSet_wp, xSortSet_wp, cDiv_lit, cMul_litL, cMul_litR, rngOk_lit, rngOk_m1, -bList_tup, iR3, xLRg1, xLRg2, xErrF, xIsE, xRaise, RS.unset, RS.noexc, xNext, xAsg, gNameX, gConsX, gNilX, gTupX, xVar, xC, xOp, xUn, oI_int, oNeg_int, xB, asB_bl, xRet, xRetN, xDrop, xBreak, xCont, xCons, xNil, xTup, xCB, xCall, xCallX, xAnd, xOr, xNot, xAndV, xOrV, xNotV, xIf, xYes, xTru, truD, xIsN, xNotN, nonD, xFld, xMeth, xMethX, xBM, xDGet, xDIn, xPart, xNoPart, xSl, nox_ok, toS_ok, finX, iR1, iR2, iL, iT, iE, iZ, xAug, xAssert, str_beq, insX, putFX, putX, valX, keyD_int, keyD_str, List.lookup, oInSet, xDisp, xPCons, xPNil, keysX, mergeX, rdL_app_ge, rdL_app_self, rdL_zero, rdL_succ, at_app_ge, at_app_self, at_zero, at_succ, hq, e0.mpr h0]
        exact ⟨h, .inl h0⟩
      · simp (decide := true) [wpe_ret, wpe_exc, wpe_bind, wps_nx, wps_ret, wps_bk, wps_ct, wps_exc, wps_bindS, wps_seq, wps_xSeq, wps_toS, wpe_nox, defQ_ret, defQ_exc, wps_if, cn_k, cn_x, cx_n, cx_q, wpe_lst, wpe_dnew, wps_xSetF, wps_xAugF, wps_xDPut, gSub_eq, wpe_xMake, wps_xFor, wps_xForE, wpe_xLc, loopQ_ct, loopQ_bk, loopQ_ret, loopQ_exc, wpe_iteBad, wps_iteBad, oIC_wp, bList_wp, bListT_wp, oSlL_wp, oCat_wp, bListD_wp, mkRg_wp, bSet_wp, xSortSet_wp, cDiv_lit, cMul_litL, cMul_litR, rngOk_lit, rngOk_m1, -bList_tup, iR3, xLRg1, xLRg2, xErrF, xIsE, xRaise, RS.unset, RS.noexc, xNext, xAsg, gNameX, gConsX, gNilX, gTupX, xVar, xC, xOp, xUn, oI_int, oNeg_int, xB, asB_bl, xRet, xRetN, xDrop, xBreak, xCont, xCons, xNil, xTup, xCB, xCall, xCallX, xAnd, xOr, xNot, xAndV, xOrV, xNotV, xIf, xYes, xTru, truD, xIsN, xNotN, nonD, xFld, xMeth, xMethX, xBM, xDGet, xDIn, xPart, xNoPart, xSl, nox_ok, toS_ok, finX, iR1, iR2, iL, iT, iE, iZ, xAug, xAssert, str_beq, insX, putFX, putX, valX, keyD_int, keyD_str, List.lookup, oInSet, xDisp, xPCons, xPNil, keysX, mergeX, rdL_app_ge, rdL_app_self, rdL_zero, rdL_succ, at_app_ge, at_app_self, at_zero, at_succ, hq, e0, h0, len_ok (h.rp 1)]
        exact ⟨h.drop, by omega⟩
    rintro t S ⟨h, ht⟩
    simp only [cn_k]
    refine wps_k (N := fun e S' => ∃ pgs' pg', e = [o0, some (.int m), some (.ref st), some (.ref pgs'), some (.int i), some (.int x)] ∧ Hs (pt pgs' (.lst (pg'.map .int)) :: pt st (.lst ((gi (Gr ns m (i + 1))).map .int)) :: As) S' ∧ pg'.length ≤ 1000 ∧ Ph ns m (i + 1) (pg' ++ [x])) (Q := fun _ => False) ?_ ?_ (fun _ z => z.elim)
    · refine wps_ite (fun hq => ?_) (fun hq => ?_)
      · have hcase := ht.mp hq
        have e : Gr ns m (i + 1) = Gr ns m i ++ [i] := by
          rcases hcase with h0 | h0
          · subst h0
            rfl
          · by_cases h1 : i = 0
            · subst h1
              rfl
            · obtain ⟨b, hb⟩ := gr_lst hm.1 (ns := ns) (t := i) (by omega)
              rw [Gr, hb.get]
              simp only [if_pos ((key b hb).1.mpr h0)]
        simp (decide := true) [wpe_ret, wpe_exc, wpe_bind, wps_nx, wps_ret, wps_bk, wps_ct, wps_exc, wps_bindS, wps_seq, wps_xSeq, wps_toS, wpe_nox, defQ_ret, defQ_exc, wps_if, cn_k, cn_x, cx_n, cx_q, wpe_lst, wpe_dnew, wps_xSetF, wps_xAugF, wps_xDPut, gSub_eq, wpe_xMake, wps_xFor, wps_xForE, wpe_xLc, loopQ_ct, loopQ_bk, loopQ_ret, loopQ_exc, wpe_iteBad, wps_iteBad, oIC_wp, bList_wp, bListT_wp, oSlL_wp, oCat_wp, bListD_wp, mkRg_wp, bSet_wp, xSortSet_wp, cDiv_lit, cMul_litL, cMul_litR, rngOk_lit, rngOk_m1, -bList_tup, iR3, xLRg1, xLRg2, xErrF, xIsE, xRaise, RS.unset, RS.noexc, xNext, xAsg, gNameX, gConsX, gNilX, gTupX, xVar, xC, xOp, xUn, oI_int, oNeg_int, xB, asB_bl, xRet, xRetN, xDrop, xBreak, xCont, xCons, xNil, xTup, xCB, xCall, xCallX, xAnd, xOr, xNot, xAndV, xOrV, xNotV, xIf, xYes, xTru, truD, xIsN, xNotN, nonD, xFld, xMeth, xMethX, xBM, xDGet, xDIn, xPart, xNoPart, xSl, nox_ok, toS_ok, finX, iR1, iR2, iL, iT, iE, iZ, xAug, xAssert, str_beq, insX, putFX, putX, valX, keyD_int, keyD_str, List.lookup, oInSet, xDisp, xPCons, xPNil, keysX, mergeX, rdL_app_ge, rdL_app_self, rdL_zero, rdL_succ, at_app_ge, at_app_self, at_zero, at_succ, isLst, h.rp 1]
        refine wpe_append (h.up 1) (by rw [List.length_map]; omega) ?_
        intro S h
        replace h : Hs (pt st (.lst ((gi (Gr ns m i)).map .int ++ [D.int i])) :: As) S := (h.up 1).drop
        simp (decide := true) [wpe_ret, wpe_exc, wpe_bind, wps_nx, wps_ret, wps_bk, wps_ct, wps_exc, wps_bindS, wps_seq, wps_xSeq, wps_toS, wpe_nox, defQ_ret, defQ_exc, wps_if, cn_k, cn_x, cx_n, cx_q, wpe_lst, wpe_dnew, wps_xSetF, wps_xAugF, wps_xDPut, gSub_eq, wpe_xMake, wps_xFor, wps_xForE, wpe_xLc, loopQ_ct, loopQ_bk, loopQ_ret, loopQ_exc, wpe_iteBad, wps_iteBad, oIC_wp, bList_wp, bListT_wp, oSlL_wp, oCat_wp, bListD_wp, mkRg_wp, bSet_wp, xSortSet_wp, cDiv_lit, cMul_litL, cMul_litR, rngOk_lit, rngOk_m1, -bList_tup, iR3, xLRg1, xLRg2, xErrF, xIsE, xRaise, RS.unset, RS.noexc, xNext, xAsg, gNameX, gConsX, gNilX, gTupX, xVar, xC, xOp, xUn, oI_int, oNeg_int, xB, asB_bl, xRet, xRetN, xDrop, xBreak, xCont, xCons, xNil, xTup, xCB, xCall, xCallX, xAnd, xOr, xNot, xAndV, xOrV, xNotV, xIf, xYes, xTru, truD, xIsN, xNotN, nonD, xFld, xMeth, xMethX, xBM, xDGet, xDIn, xPart, xNoPart, xSl, nox_ok, toS_ok, finX, iR1, iR2, iL, iT, iE, iZ, xAug, xAssert, str_beq, insX, putFX, putX, valX, keyD_int, keyD_str, List.lookup, oInSet, xDisp, xPCons, xPNil, keysX, mergeX, rdL_app_ge, rdL_app_self, rdL_zero, rdL_succ, at_app_ge, at_app_self, at_zero, at_succ]
        refine wpe_allo h ?_
        intro q S h
        refine ⟨q, [], rfl, ?_, by simp, fun z => by omega, fun b' hb' => ?_⟩
        · rw [e, gi_snoc, List.map_append]
          exact h
        · have : b' = i := by
            have q := hb'.get
            rw [e] at q
            simpa using q.symm
          subst this
          rw [sl_snoc (Nat.le_refl _) hx, sl_self]
          rfl
      · have hno : ¬ (i = 0 ∨ pg.length = m) := fun z => hq (ht.mpr z)
        obtain ⟨b, hb⟩ := gr_lst hm.1 (ns := ns) (t := i) (by omega)
        obtain ⟨k1, k2, k3⟩ := key b hb
        have e : Gr ns m (i + 1) = Gr ns m i := by
          rw [Gr, hb.get]
          simp only [if_neg (fun z => hno (.inr (k1.mp z)))]
        refine ⟨pgs, pg, rfl, by rw [e]; exact h, hpl, fun z => by omega, fun b' hb' => ?_⟩
        have : b' = b := by
          have q := hb'.get
          rw [e, hb.get] at q
          exact (Option.some.inj q).symm
        subst this
        rw [k3, dedup_snoc, if_neg (fun z => k2 (dedup_mem.mp z)), hp.s _ hb]
    rintro _ S ⟨pgs', pg', rfl, h, hz', hp'⟩
    simp (decide := true) [wpe_ret, wpe_exc, wpe_bind, wps_nx, wps_ret, wps_bk, wps_ct, wps_exc, wps_bindS, wps_seq, wps_xSeq, wps_toS, wpe_nox, defQ_ret, defQ_exc, wps_if, cn_k, cn_x, cx_n, cx_q, wpe_lst, wpe_dnew, wps_xSetF, wps_xAugF, wps_xDPut, gSub_eq, wpe_xMake, wps_xFor, wps_xForE, wpe_xLc, loopQ_ct, loopQ_bk, loopQ_ret, loopQ_exc, wpe_iteBad, wps_iteBad, oIC_wp, bList_wp, bListT_wp, oSlL_wp, oCat_wp, bListD_wp, mkRg_wp, bSet_wp, xSortSet_wp, cDiv_lit, cMul_litL, cMul_litR, rngOk_lit, rngOk_m1, -bList_tup, iR3, xLRg1, xLRg2, xErrF, xIsE, xRaise, RS.unset, RS.noexc, xNext, xAsg, gNameX, gConsX, gNilX, gTupX, xVar, xC, xOp, xUn, oI_int, oNeg_int, xB, asB_bl, xRet, xRetN, xDrop, xBreak, xCont, xCons, xNil, xTup, xCB, xCall, xCallX, xAnd, xOr, xNot, xAndV, xOrV, xNotV, xIf, xYes, xTru, truD, xIsN, xNotN, nonD, xFld, xMeth, xMethX, xBM, xDGet, xDIn, xPart, xNoPart, xSl, nox_ok, toS_ok, finX, iR1, iR2, iL, iT, iE, iZ, xAug, xAssert, str_beq, insX, putFX, putX, valX, keyD_int, keyD_str, List.lookup, oInSet, xDisp, xPCons, xPNil, keysX, mergeX, rdL_app_ge, rdL_app_self, rdL_zero, rdL_succ, at_app_ge, at_app_self, at_zero, at_succ, isLst, h.rp 0]
    refine wpe_append h (by rw [List.length_map]; omega) ?_
    intro S h
    refine ⟨_, _, rfl, ?_, hp'⟩
    rw [List.map_append]
    exact h
end
end

section
open Mi
section
variable {As : List Asn} {S : Sto} {l st : Nat} {ns : List Int} {m : Nat}
def tl1 (l : List Int) : List Int := l.drop 1
def endsL (ns : List Int) (m : Nat) : List Int := tl1 (gi (Gr ns m ns.length)) ++ [(ns.length : Int)]
theorem ends_get {i : Nat} {e : Int} (h : (endsL ns m)[i]? = some e) {s : Nat} (hs : (Gr ns m ns.length)[i]? = some s) :
    (∃ e' : Nat, e = (e' : Int) ∧ (Gr ns m ns.length)[i + 1]? = some e') ∨ (e = (ns.length : Int) ∧ (Gr ns m ns.length)[i + 1]? = none) := by
  have hi := (List.getElem?_eq_some_iff.mp hs).1
  unfold endsL tl1 at h
  by_cases hlt : i + 1 < (Gr ns m ns.length).length
  · rw [List.getElem?_append_left (by rw [List.length_drop, gi_len]; omega), List.getElem?_drop, Nat.add_comm 1 i] at h
    have he : (Gr ns m ns.length)[i + 1]? = some (Gr ns m ns.length)[i + 1] := List.getElem?_eq_getElem hlt
    rw [gi_get he] at h
    exact .inl ⟨_, (Option.some.inj h).symm, he⟩
  · rw [List.getElem?_append_right (by rw [List.length_drop, gi_len]; omega), List.length_drop, gi_len, show i - ((Gr ns m ns.length).length - 1) = 0 by omega] at h
    exact .inr ⟨by simpa using h.symm, List.getElem?_eq_none (by omega)⟩
theorem ends_srt (hm : 1 ≤ m) : (endsL ns m).Pairwise (· < ·) := by
  have hg := gr_srt (ns := ns) hm (t := ns.length)
  have h1 : (gi (Gr ns m ns.length)).Pairwise (· < ·) := by
    unfold gi
    rw [List.pairwise_map]
    exact hg.imp fun h => by omega
  refine List.pairwise_append.mpr ⟨h1.drop, List.pairwise_singleton _ _, fun x hx y hy => ?_⟩
  obtain rfl : y = _ := by simpa using hy
  have : x ∈ gi (Gr ns m ns.length) := List.mem_of_mem_drop hx
  obtain ⟨i, hi, rfl⟩ := List.mem_map.mp this
  obtain ⟨k, hk⟩ := List.mem_iff_getElem?.mp hi
  have := (gr_parts hm _ k i hk).1
  omega
theorem parting_ok (h : Hs As S) (hr : Mi.Rd As l (ns.map .int)) (hs : Mi.Rd As st ((gi (Gr ns m ns.length)).map .int)) (hz : ns.length ≤ 55) (hm : 1 ≤ m ∧ m ≤ 100) : Ok (f_is_parting [.ref l, .int m, .ref st] S) fun v S' => v = .bl true ∧ Hs As S' := by
  rw [f_is_parting_eq]
  refine Ok.def rfl ?_
  have gl := gr_len (ns := ns) hm.1 (i := ns.length)
  by_cases h0 : ns = []
  · subst h0
    simp (decide := true) [wpe_ret, wpe_exc, wpe_bind, wps_nx, wps_ret, wps_bk, wps_ct, wps_exc, wps_bindS, wps_seq, wps_xSeq, wps_toS, wpe_nox, defQ_ret, defQ_exc, wps_if, cn_k, cn_x, cx_n, cx_q, wpe_lst, wpe_dnew, wps_xSetF, wps_xAugF, wps_xDPut, gSub_eq, wpe_xMake, wps_xFor, wps_xForE, wpe_xLc, loopQ_ct, loopQ_bk, loopQ_ret, loopQ_exc, wpe_iteBad, wps_iteBad, oIC_wp, bList_wp, bListT_wp, oSlL_wp, oCat_wp, bListD_wp, mkRg_wp, bSet_wp, xSortSet_wp, cDiv_lit, cMul_litL, cMul_litR, rngOk_lit, rngOk_m1, -bList_tup, iR3, xLRg1, xLRg2, xErrF, xIsE, xRaise, RS.unset, RS.noexc, xNext, xAsg, gNameX, gConsX, gNilX, gTupX, xVar, xC, xOp, xUn, oI_int, oNeg_int, xB, asB_bl, xRet, xRetN, xDrop, xBreak, xCont, xCons, xNil, xTup, xCB, xCall, xCallX, xAnd, xOr, xNot, xAndV, xOrV, xNotV, xIf, xYes, xTru, truD, xIsN, xNotN, nonD, xFld, xMeth, xMethX, xBM, xDGet, xDIn, xPart, xNoPart, xSl, nox_ok, toS_ok, finX, iR1, iR2, iL, iT, iE, iZ, xAug, xAssert, str_beq, insX, putFX, putX, valX, keyD_int, keyD_str, List.lookup, oInSet, xDisp, xPCons, xPNil, keysX, mergeX, rdL_app_ge, rdL_app_self, rdL_zero, rdL_succ, at_app_ge, at_app_self, at_zero, at_succ, f_is_parting_t1]
    refine wpe_allo h ?_
    intro q S h
    have q1 := oEqD_ints (neg := false) (hr.cons _ h) (show rdL S q = some (([] : List Int).map .int) from h.rp 0)
    simp (decide := true) [wpe_ret, wpe_exc, wpe_bind, wps_nx, wps_ret, wps_bk, wps_ct, wps_exc, wps_bindS, wps_seq, wps_xSeq, wps_toS, wpe_nox, defQ_ret, defQ_exc, wps_if, cn_k, cn_x, cx_n, cx_q, wpe_lst, wpe_dnew, wps_xSetF, wps_xAugF, wps_xDPut, gSub_eq, wpe_xMake, wps_xFor, wps_xForE, wpe_xLc, loopQ_ct, loopQ_bk, loopQ_ret, loopQ_exc, wpe_iteBad, wps_iteBad, oIC_wp, bList_wp, bListT_wp, oSlL_wp, oCat_wp, bListD_wp, mkRg_wp, bSet_wp, xSortSet_wp, cDiv_lit, cMul_litL, cMul_litR, rngOk_lit, rngOk_m1, -bList_tup, iR3, xLRg1, xLRg2, xErrF, xIsE, xRaise, RS.unset, RS.noexc, xNext, xAsg, gNameX, gConsX, gNilX, gTupX, xVar, xC, xOp, xUn, oI_int, oNeg_int, xB, asB_bl, xRet, xRetN, xDrop, xBreak, xCont, xCons, xNil, xTup, xCB, xCall, xCallX, xAnd, xOr, xNot, xAndV, xOrV, xNotV, xIf, xYes, xTru, truD, xIsN, xNotN, nonD, xFld, xMeth, xMethX, xBM, xDGet, xDIn, xPart, xNoPart, xSl, nox_ok, toS_ok, finX, iR1, iR2, iL, iT, iE, iZ, xAug, xAssert, str_beq, insX, putFX, putX, valX, keyD_int, keyD_str, List.lookup, oInSet, xDisp, xPCons, xPNil, keysX, mergeX, rdL_app_ge, rdL_app_self, rdL_zero, rdL_succ, at_app_ge, at_app_self, at_zero, at_succ, q1]
    refine wpe_allo h ?_
    intro q S h
    have q1 := oEqD_ints (neg := false) (hr.cons.cons _ h) (show rdL S q = some (([] : List Int).map .int) from h.rp 0)
    simp (decide := true) [wpe_ret, wpe_exc, wpe_bind, wps_nx, wps_ret, wps_bk, wps_ct, wps_exc, wps_bindS, wps_seq, wps_xSeq, wps_toS, wpe_nox, defQ_ret, defQ_exc, wps_if, cn_k, cn_x, cx_n, cx_q, wpe_lst, wpe_dnew, wps_xSetF, wps_xAugF, wps_xDPut, gSub_eq, wpe_xMake, wps_xFor, wps_xForE, wpe_xLc, loopQ_ct, loopQ_bk, loopQ_ret, loopQ_exc, wpe_iteBad, wps_iteBad, oIC_wp, bList_wp, bListT_wp, oSlL_wp, oCat_wp, bListD_wp, mkRg_wp, bSet_wp, xSortSet_wp, cDiv_lit, cMul_litL, cMul_litR, rngOk_lit, rngOk_m1, -bList_tup, iR3, xLRg1, xLRg2, xErrF, xIsE, xRaise, RS.unset, RS.noexc, xNext, xAsg, gNameX, gConsX, gNilX, gTupX, xVar, xC, xOp, xUn, oI_int, oNeg_int, xB, asB_bl, xRet, xRetN, xDrop, xBreak, xCont, xCons, xNil, xTup, xCB, xCall, xCallX, xAnd, xOr, xNot, xAndV, xOrV, xNotV, xIf, xYes, xTru, truD, xIsN, xNotN, nonD, xFld, xMeth, xMethX, xBM, xDGet, xDIn, xPart, xNoPart, xSl, nox_ok, toS_ok, finX, iR1, iR2, iL, iT, iE, iZ, xAug, xAssert, str_beq, insX, putFX, putX, valX, keyD_int, keyD_str, List.lookup, oInSet, xDisp, xPCons, xPNil, keysX, mergeX, rdL_app_ge, rdL_app_self, rdL_zero, rdL_succ, at_app_ge, at_app_self, at_zero, at_succ, q1]
    refine wpe_allo h ?_
    intro q S h
    have q1 := oEqD_ints (neg := false) (hs.cons.cons.cons _ h) (show rdL S q = some (([] : List Int).map .int) from h.rp 0)
    simp (decide := true) [wpe_ret, wpe_exc, wpe_bind, wps_nx, wps_ret, wps_bk, wps_ct, wps_exc, wps_bindS, wps_seq, wps_xSeq, wps_toS, wpe_nox, defQ_ret, defQ_exc, wps_if, cn_k, cn_x, cx_n, cx_q, wpe_lst, wpe_dnew, wps_xSetF, wps_xAugF, wps_xDPut, gSub_eq, wpe_xMake, wps_xFor, wps_xForE, wpe_xLc, loopQ_ct, loopQ_bk, loopQ_ret, loopQ_exc, wpe_iteBad, wps_iteBad, oIC_wp, bList_wp, bListT_wp, oSlL_wp, oCat_wp, bListD_wp, mkRg_wp, bSet_wp, xSortSet_wp, cDiv_lit, cMul_litL, cMul_litR, rngOk_lit, rngOk_m1, -bList_tup, iR3, xLRg1, xLRg2, xErrF, xIsE, xRaise, RS.unset, RS.noexc, xNext, xAsg, gNameX, gConsX, gNilX, gTupX, xVar, xC, xOp, xUn, oI_int, oNeg_int, xB, asB_bl, xRet, xRetN, xDrop, xBreak, xCont, xCons, xNil, xTup, xCB, xCall, xCallX, xAnd, xOr, xNot, xAndV, xOrV, xNotV, xIf, xYes, xTru, truD, xIsN, xNotN, nonD, xFld, xMeth, xMethX, xBM, xDGet, xDIn, xPart, xNoPart, xSl, nox_ok, toS_ok, finX, iR1, iR2, iL, iT, iE, iZ, xAug, xAssert, str_beq, insX, putFX, putX, valX, keyD_int, keyD_str, List.lookup, oInSet, xDisp, xPCons, xPNil, keysX, mergeX, rdL_app_ge, rdL_app_self, rdL_zero, rdL_succ, at_app_ge, at_app_self, at_zero, at_succ, q1, Gr, gi]
    exact h.drop.drop.drop
  have hpos : 1 ≤ ns.length := List.length_pos_iff.mpr h0
  have hG := gr_zero hm.1 hpos (ns := ns)
  have hgn : gi (Gr ns m ns.length) ≠ [] := fun z => by
    rw [List.map_eq_nil_iff.mp z] at hG
    cases hG
  simp (decide := true) [wpe_ret, wpe_exc, wpe_bind, wps_nx, wps_ret, wps_bk, wps_ct, wps_exc, wps_bindS, wps_seq, wps_xSeq, wps_toS, wpe_nox, defQ_ret, defQ_exc, wps_if, cn_k, cn_x, cx_n, cx_q, wpe_lst, wpe_dnew, wps_xSetF, wps_xAugF, wps_xDPut, gSub_eq, wpe_xMake, wps_xFor, wps_xForE, wpe_xLc, loopQ_ct, loopQ_bk, loopQ_ret, loopQ_exc, wpe_iteBad, wps_iteBad, oIC_wp, bList_wp, bListT_wp, oSlL_wp, oCat_wp, bListD_wp, mkRg_wp, bSet_wp, xSortSet_wp, cDiv_lit, cMul_litL, cMul_litR, rngOk_lit, rngOk_m1, -bList_tup, iR3, xLRg1, xLRg2, xErrF, xIsE, xRaise, RS.unset, RS.noexc, xNext, xAsg, gNameX, gConsX, gNilX, gTupX, xVar, xC, xOp, xUn, oI_int, oNeg_int, xB, asB_bl, xRet, xRetN, xDrop, xBreak, xCont, xCons, xNil, xTup, xCB, xCall, xCallX, xAnd, xOr, xNot, xAndV, xOrV, xNotV, xIf, xYes, xTru, truD, xIsN, xNotN, nonD, xFld, xMeth, xMethX, xBM, xDGet, xDIn, xPart, xNoPart, xSl, nox_ok, toS_ok, finX, iR1, iR2, iL, iT, iE, iZ, xAug, xAssert, str_beq, insX, putFX, putX, valX, keyD_int, keyD_str, List.lookup, oInSet, xDisp, xPCons, xPNil, keysX, mergeX, rdL_app_ge, rdL_app_self, rdL_zero, rdL_succ, at_app_ge, at_app_self, at_zero, at_succ, f_is_parting_t1]
  refine wpe_allo h ?_
  intro q S h
  have q1 := oEqD_ints (neg := false) (hr.cons _ h) (show rdL S q = some (([] : List Int).map .int) from h.rp 0)
  simp (decide := true) [wpe_ret, wpe_exc, wpe_bind, wps_nx, wps_ret, wps_bk, wps_ct, wps_exc, wps_bindS, wps_seq, wps_xSeq, wps_toS, wpe_nox, defQ_ret, defQ_exc, wps_if, cn_k, cn_x, cx_n, cx_q, wpe_lst, wpe_dnew, wps_xSetF, wps_xAugF, wps_xDPut, gSub_eq, wpe_xMake, wps_xFor, wps_xForE, wpe_xLc, loopQ_ct, loopQ_bk, loopQ_ret, loopQ_exc, wpe_iteBad, wps_iteBad, oIC_wp, bList_wp, bListT_wp, oSlL_wp, oCat_wp, bListD_wp, mkRg_wp, bSet_wp, xSortSet_wp, cDiv_lit, cMul_litL, cMul_litR, rngOk_lit, rngOk_m1, -bList_tup, iR3, xLRg1, xLRg2, xErrF, xIsE, xRaise, RS.unset, RS.noexc, xNext, xAsg, gNameX, gConsX, gNilX, gTupX, xVar, xC, xOp, xUn, oI_int, oNeg_int, xB, asB_bl, xRet, xRetN, xDrop, xBreak, xCont, xCons, xNil, xTup, xCB, xCall, xCallX, xAnd, xOr, xNot, xAndV, xOrV, xNotV, xIf, xYes, xTru, truD, xIsN, xNotN, nonD, xFld, xMeth, xMethX, xBM, xDGet, xDIn, xPart, xNoPart, xSl, nox_ok, toS_ok, finX, iR1, iR2, iL, iT, iE, iZ, xAug, xAssert, str_beq, insX, putFX, putX, valX, keyD_int, keyD_str, List.lookup, oInSet, xDisp, xPCons, xPNil, keysX, mergeX, rdL_app_ge, rdL_app_self, rdL_zero, rdL_succ, at_app_ge, at_app_self, at_zero, at_succ, q1, h0]
  refine wpe_allo h ?_
  intro q S h
  have q1 := oEqD_ints (neg := false) (hs.cons.cons _ h) (show rdL S q = some (([] : List Int).map .int) from h.rp 0)
  replace h := h.drop.drop
  have cf : cutX ((gi (Gr ns m ns.length)).map D.int) (some (1 : Int)) none = (tl1 (gi (Gr ns m ns.length))).map .int := cut_from (a := 1) (by rw [gi_len]; exact (List.getElem?_eq_some_iff.mp hG).1)
  simp (decide := true) [wpe_ret, wpe_exc, wpe_bind, wps_nx, wps_ret, wps_bk, wps_ct, wps_exc, wps_bindS, wps_seq, wps_xSeq, wps_toS, wpe_nox, defQ_ret, defQ_exc, wps_if, cn_k, cn_x, cx_n, cx_q, wpe_lst, wpe_dnew, wps_xSetF, wps_xAugF, wps_xDPut, gSub_eq, wpe_xMake, wps_xFor, wps_xForE, wpe_xLc, loopQ_ct, loopQ_bk, loopQ_ret, loopQ_exc, wpe_iteBad, wps_iteBad, oIC_wp, bList_wp, bListT_wp, oSlL_wp, oCat_wp, bListD_wp, mkRg_wp, bSet_wp, xSortSet_wp, cDiv_lit, cMul_litL, cMul_litR, rngOk_lit, rngOk_m1, -bList_tup, iR3, xLRg1, xLRg2, xErrF, xIsE, xRaise, RS.unset, RS.noexc, xNext, xAsg, gNameX, gConsX, gNilX, gTupX, xVar, xC, xOp, xUn, oI_int, oNeg_int, xB, asB_bl, xRet, xRetN, xDrop, xBreak, xCont, xCons, xNil, xTup, xCB, xCall, xCallX, xAnd, xOr, xNot, xAndV, xOrV, xNotV, xIf, xYes, xTru, truD, xIsN, xNotN, nonD, xFld, xMeth, xMethX, xBM, xDGet, xDIn, xPart, xNoPart, xSl, nox_ok, toS_ok, finX, iR1, iR2, iL, iT, iE, iZ, xAug, xAssert, str_beq, insX, putFX, putX, valX, keyD_int, keyD_str, List.lookup, oInSet, xDisp, xPCons, xPNil, keysX, mergeX, rdL_app_ge, rdL_app_self, rdL_zero, rdL_succ, at_app_ge, at_app_self, at_zero, at_succ, q1, hgn, hs _ h, cf]
  refine wpe_allo h ?_
  intro q S h
  simp (decide := true) [wpe_ret, wpe_exc, wpe_bind, wps_nx, wps_ret, wps_bk, wps_ct, wps_exc, wps_bindS, wps_seq, wps_xSeq, wps_toS, wpe_nox, defQ_ret, defQ_exc, wps_if, cn_k, cn_x, cx_n, cx_q, wpe_lst, wpe_dnew, wps_xSetF, wps_xAugF, wps_xDPut, gSub_eq, wpe_xMake, wps_xFor, wps_xForE, wpe_xLc, loopQ_ct, loopQ_bk, loopQ_ret, loopQ_exc, wpe_iteBad, wps_iteBad, oIC_wp, bList_wp, bListT_wp, oSlL_wp, oCat_wp, bListD_wp, mkRg_wp, bSet_wp, xSortSet_wp, cDiv_lit, cMul_litL, cMul_litR, rngOk_lit, rngOk_m1, -bList_tup, iR3, xLRg1, xLRg2, xErrF, xIsE, xRaise, RS.unset, RS.noexc, xNext, xAsg, gNameX, gConsX, gNilX, gTupX, xVar, xC, xOp, xUn, oI_int, oNeg_int, xB, asB_bl, xRet, xRetN, xDrop, xBreak, xCont, xCons, xNil, xTup, xCB, xCall, xCallX, xAnd, xOr, xNot, xAndV, xOrV, xNotV, xIf, xYes, xTru, truD, xIsN, xNotN, nonD, xFld, xMeth, xMethX, xBM, xDGet, xDIn, xPart, xNoPart, xSl, nox_ok, toS_ok, finX, iR1, iR2, iL, iT, iE, iZ, xAug, xAssert, str_beq, insX, putFX, putX, valX, keyD_int, keyD_str, List.lookup, oInSet, xDisp, xPCons, xPNil, keysX, mergeX, rdL_app_ge, rdL_app_self, rdL_zero, rdL_succ, at_app_ge, at_app_self, at_zero, at_succ, len_ok (hr.cons _ h)]
  refine wpe_allo h ?_
  intro q' S h
  simp (decide := true) [wpe_ret, wpe_exc, wpe_bind, wps_nx, wps_ret, wps_bk, wps_ct, wps_exc, wps_bindS, wps_seq, wps_xSeq, wps_toS, wpe_nox, defQ_ret, defQ_exc, wps_if, cn_k, cn_x, cx_n, cx_q, wpe_lst, wpe_dnew, wps_xSetF, wps_xAugF, wps_xDPut, gSub_eq, wpe_xMake, wps_xFor, wps_xForE, wpe_xLc, loopQ_ct, loopQ_bk, loopQ_ret, loopQ_exc, wpe_iteBad, wps_iteBad, oIC_wp, bList_wp, bListT_wp, oSlL_wp, oCat_wp, bListD_wp, mkRg_wp, bSet_wp, xSortSet_wp, cDiv_lit, cMul_litL, cMul_litR, rngOk_lit, rngOk_m1, -bList_tup, iR3, xLRg1, xLRg2, xErrF, xIsE, xRaise, RS.unset, RS.noexc, xNext, xAsg, gNameX, gConsX, gNilX, gTupX, xVar, xC, xOp, xUn, oI_int, oNeg_int, xB, asB_bl, xRet, xRetN, xDrop, xBreak, xCont, xCons, xNil, xTup, xCB, xCall, xCallX, xAnd, xOr, xNot, xAndV, xOrV, xNotV, xIf, xYes, xTru, truD, xIsN, xNotN, nonD, xFld, xMeth, xMethX, xBM, xDGet, xDIn, xPart, xNoPart, xSl, nox_ok, toS_ok, finX, iR1, iR2, iL, iT, iE, iZ, xAug, xAssert, str_beq, insX, putFX, putX, valX, keyD_int, keyD_str, List.lookup, oInSet, xDisp, xPCons, xPNil, keysX, mergeX, rdL_app_ge, rdL_app_self, rdL_zero, rdL_succ, at_app_ge, at_app_self, at_zero, at_succ, h.at 0, h.at 1]
  have tz : (tl1 (gi (Gr ns m ns.length))).length ≤ ns.length := by unfold tl1; rw [List.length_drop]; omega
  refine ⟨by omega, wpe_allo h ?_⟩
  intro en S h
  have ee : (tl1 (gi (Gr ns m ns.length))).map D.int ++ [D.int ns.length] = (endsL ns m).map .int := by unfold endsL; rw [List.map_append] <;> rfl
  rw [ee] at h
  replace h : Hs (pt en (.lst ((endsL ns m).map .int)) :: As) S := ((h.up 1).drop.up 1).drop
  have ez : (endsL ns m).length ≤ ns.length + 1 := by unfold endsL; rw [List.length_append, List.length_singleton]; omega
  simp (decide := true) [wpe_ret, wpe_exc, wpe_bind, wps_nx, wps_ret, wps_bk, wps_ct, wps_exc, wps_bindS, wps_seq, wps_xSeq, wps_toS, wpe_nox, defQ_ret, defQ_exc, wps_if, cn_k, cn_x, cx_n, cx_q, wpe_lst, wpe_dnew, wps_xSetF, wps_xAugF, wps_xDPut, gSub_eq, wpe_xMake, wps_xFor, wps_xForE, wpe_xLc, loopQ_ct, loopQ_bk, loopQ_ret, loopQ_exc, wpe_iteBad, wps_iteBad, oIC_wp, bList_wp, bListT_wp, oSlL_wp, oCat_wp, bListD_wp, mkRg_wp, bSet_wp, xSortSet_wp, cDiv_lit, cMul_litL, cMul_litR, rngOk_lit, rngOk_m1, -bList_tup, iR3, xLRg1, xLRg2, xErrF, xIsE, xRaise, RS.unset, RS.noexc, xNext, xAsg, gNameX, gConsX, gNilX, gTupX, xVar, xC, xOp, xUn, oI_int, oNeg_int, xB, asB_bl, xRet, xRetN, xDrop, xBreak, xCont, xCons, xNil, xTup, xCB, xCall, xCallX, xAnd, xOr, xNot, xAndV, xOrV, xNotV, xIf, xYes, xTru, truD, xIsN, xNotN, nonD, xFld, xMeth, xMethX, xBM, xDGet, xDIn, xPart, xNoPart, xSl, nox_ok, toS_ok, finX, iR1, iR2, iL, iT, iE, iZ, xAug, xAssert, str_beq, insX, putFX, putX, valX, keyD_int, keyD_str, List.lookup, oInSet, xDisp, xPCons, xPNil, keysX, mergeX, rdL_app_ge, rdL_app_self, rdL_zero, rdL_succ, at_app_ge, at_app_self, at_zero, at_succ, f_is_parting_t2, oIxL, hs.cons _ h, atI_int (show (0 : Int) ≤ 0 by decide) (gi_get hG), h.rp 0, intsOf_map, sortU_id (ends_srt (ns := ns) hm.1)]
  refine ⟨by omega, wpe_allo h ?_⟩
  intro q S h
  have q1 := oEqD_ints (neg := true) (h.rp 1) (h.rp 0)
  replace h := h.drop
  simp (decide := true) [wpe_ret, wpe_exc, wpe_bind, wps_nx, wps_ret, wps_bk, wps_ct, wps_exc, wps_bindS, wps_seq, wps_xSeq, wps_toS, wpe_nox, defQ_ret, defQ_exc, wps_if, cn_k, cn_x, cx_n, cx_q, wpe_lst, wpe_dnew, wps_xSetF, wps_xAugF, wps_xDPut, gSub_eq, wpe_xMake, wps_xFor, wps_xForE, wpe_xLc, loopQ_ct, loopQ_bk, loopQ_ret, loopQ_exc, wpe_iteBad, wps_iteBad, oIC_wp, bList_wp, bListT_wp, oSlL_wp, oCat_wp, bListD_wp, mkRg_wp, bSet_wp, xSortSet_wp, cDiv_lit, cMul_litL, cMul_litR, rngOk_lit, rngOk_m1, -bList_tup, iR3, xLRg1, xLRg2, xErrF, xIsE, xRaise, RS.unset, RS.noexc, xNext, xAsg, gNameX, gConsX, gNilX, gTupX, xVar, xC, xOp, xUn, oI_int, oNeg_int, xB, asB_bl, xRet, xRetN, xDrop, xBreak, xCont, xCons, xNil, xTup, xCB, xCall, xCallX, xAnd, xOr, xNot, xAndV, xOrV, xNotV, xIf, xYes, xTru, truD, xIsN, xNotN, nonD, xFld, xMeth, xMethX, xBM, xDGet, xDIn, xPart, xNoPart, xSl, nox_ok, toS_ok, finX, iR1, iR2, iL, iT, iE, iZ, xAug, xAssert, str_beq, insX, putFX, putX, valX, keyD_int, keyD_str, List.lookup, oInSet, xDisp, xPCons, xPNil, keysX, mergeX, rdL_app_ge, rdL_app_self, rdL_zero, rdL_succ, at_app_ge, at_app_self, at_zero, at_succ, q1, f_is_parting_l1, hs.cons _ h, h.rp 0]
  refine wps_loop (fun i env S => ∃ o4 o5, env = [some (.ref l), some (.int m), some (.ref st), some (.ref en), o4, o5] ∧ Hs (pt en (.lst ((endsL ns m).map .int)) :: As) S) ⟨_, _, rfl, h⟩ (fun i e S ⟨_, _, _, h⟩ => ⟨hs.cons _ h, h.rp 0⟩) ?_ ?_
  · rintro i x env S hx ⟨o4, o5, rfl, h⟩
    obtain ⟨x1, x2, g1, g2, rfl⟩ := zipD_get hx
    rw [List.getElem?_map] at g1 g2
    obtain ⟨s', gs, rfl⟩ := Option.map_eq_some_iff.mp g1
    obtain ⟨e, ge, rfl⟩ := Option.map_eq_some_iff.mp g2
    obtain ⟨s, gs', rfl⟩ : ∃ s : Nat, (Gr ns m ns.length)[i]? = some s ∧ s' = (s : Int) := by
      unfold gi at gs
      rw [List.getElem?_map] at gs
      obtain ⟨s, a, b⟩ := Option.map_eq_some_iff.mp gs
      exact ⟨s, a, b.symm⟩
    obtain ⟨p1, p2, p3⟩ := gr_parts hm.1 ns.length i s gs'
    obtain ⟨e', rfl, a1, a2, a3, a4⟩ : ∃ e' : Nat, e = (e' : Int) ∧ s < e' ∧ e' ≤ ns.length ∧ Mi.cnt (sl ns s e') ≤ m ∧ (e' < ns.length → m < Mi.cnt (sl ns s (e' + 1))) := by
      rcases ends_get ge gs' with ⟨e', rfl, he⟩ | ⟨rfl, he⟩
      · obtain ⟨b1, b2, b3⟩ := p2 e' he
        have := (gr_parts hm.1 ns.length (i + 1) e' he).1
        exact ⟨e', rfl, b1, by omega, b2, fun _ => b3⟩
      · exact ⟨ns.length, rfl, p1, Nat.le_refl _, p3 he, fun z => absurd z (Nat.lt_irrefl _)⟩
    have c1 := cut_sl (ns := ns) (show s ≤ e' by omega) a2
    have z1 := sl_len (ns := ns) (a := s) a2
    have d1 : (dedupL (sl ns s e')).length ≤ m := a3
    simp (decide := true) [wpe_ret, wpe_exc, wpe_bind, wps_nx, wps_ret, wps_bk, wps_ct, wps_exc, wps_bindS, wps_seq, wps_xSeq, wps_toS, wpe_nox, defQ_ret, defQ_exc, wps_if, cn_k, cn_x, cx_n, cx_q, wpe_lst, wpe_dnew, wps_xSetF, wps_xAugF, wps_xDPut, gSub_eq, wpe_xMake, wps_xFor, wps_xForE, wpe_xLc, loopQ_ct, loopQ_bk, loopQ_ret, loopQ_exc, wpe_iteBad, wps_iteBad, oIC_wp, bList_wp, bListT_wp, oSlL_wp, oCat_wp, bListD_wp, mkRg_wp, bSet_wp, xSortSet_wp, cDiv_lit, cMul_litL, cMul_litR, rngOk_lit, rngOk_m1, -bList_tup, iR3, xLRg1, xLRg2, xErrF, xIsE, xRaise, RS.unset, RS.noexc, xNext, xAsg, gNameX, gConsX, gNilX, gTupX, xVar, xC, xOp, xUn, oI_int, oNeg_int, xB, asB_bl, xRet, xRetN, xDrop, xBreak, xCont, xCons, xNil, xTup, xCB, xCall, xCallX, xAnd, xOr, xNot, xAndV, xOrV, xNotV, xIf, xYes, xTru, truD, xIsN, xNotN, nonD, xFld, xMeth, xMethX, xBM, xDGet, xDIn, xPart, xNoPart, xSl, nox_ok, toS_ok, finX, iR1, iR2, iL, iT, iE, iZ, xAug, xAssert, str_beq, insX, putFX, putX, valX, keyD_int, keyD_str, List.lookup, oInSet, xDisp, xPCons, xPNil, keysX, mergeX, rdL_app_ge, rdL_app_self, rdL_zero, rdL_succ, at_app_ge, at_app_self, at_zero, at_succ, f_is_parting_b1, hs.cons _ h, hr.cons _ h, c1]
    refine wpe_allo h ?_
    intro q S h
    simp (decide := true) [wpe_ret, wpe_exc, wpe_bind, wps_nx, wps_ret, wps_bk, wps_ct, wps_exc, wps_bindS, wps_seq, wps_xSeq, wps_toS, wpe_nox, defQ_ret, defQ_exc, wps_if, cn_k, cn_x, cx_n, cx_q, wpe_lst, wpe_dnew, wps_xSetF, wps_xAugF, wps_xDPut, gSub_eq, wpe_xMake, wps_xFor, wps_xForE, wpe_xLc, loopQ_ct, loopQ_bk, loopQ_ret, loopQ_exc, wpe_iteBad, wps_iteBad, oIC_wp, bList_wp, bListT_wp, oSlL_wp, oCat_wp, bListD_wp, mkRg_wp, bSet_wp, xSortSet_wp, cDiv_lit, cMul_litL, cMul_litR, rngOk_lit, rngOk_m1, -bList_tup, iR3, xLRg1, xLRg2, xErrF, xIsE, xRaise, RS.unset, RS.noexc, xNext, xAsg, gNameX, gConsX, gNilX, gTupX, xVar, xC, xOp, xUn, oI_int, oNeg_int, xB, asB_bl, xRet, xRetN, xDrop, xBreak, xCont, xCons, xNil, xTup, xCB, xCall, xCallX, xAnd, xOr, xNot, xAndV, xOrV, xNotV, xIf, xYes, xTru, truD, xIsN, xNotN, nonD, xFld, xMeth, xMethX, xBM, xDGet, xDIn, xPart, xNoPart, xSl, nox_ok, toS_ok, finX, iR1, iR2, iL, iT, iE, iZ, xAug, xAssert, str_beq, insX, putFX, putX, valX, keyD_int, keyD_str, List.lookup, oInSet, xDisp, xPCons, xPNil, keysX, mergeX, rdL_app_ge, rdL_app_self, rdL_zero, rdL_succ, at_app_ge, at_app_self, at_zero, at_succ, h.rp 0, intsOf_map]
    refine ⟨by omega, wpe_allo h ?_⟩
    intro q2 S h
    simp (decide := true) [wpe_ret, wpe_exc, wpe_bind, wps_nx, wps_ret, wps_bk, wps_ct, wps_exc, wps_bindS, wps_seq, wps_xSeq, wps_toS, wpe_nox, defQ_ret, defQ_exc, wps_if, cn_k, cn_x, cx_n, cx_q, wpe_lst, wpe_dnew, wps_xSetF, wps_xAugF, wps_xDPut, gSub_eq, wpe_xMake, wps_xFor, wps_xForE, wpe_xLc, loopQ_ct, loopQ_bk, loopQ_ret, loopQ_exc, wpe_iteBad, wps_iteBad, oIC_wp, bList_wp, bListT_wp, oSlL_wp, oCat_wp, bListD_wp, mkRg_wp, bSet_wp, xSortSet_wp, cDiv_lit, cMul_litL, cMul_litR, rngOk_lit, rngOk_m1, -bList_tup, iR3, xLRg1, xLRg2, xErrF, xIsE, xRaise, RS.unset, RS.noexc, xNext, xAsg, gNameX, gConsX, gNilX, gTupX, xVar, xC, xOp, xUn, oI_int, oNeg_int, xB, asB_bl, xRet, xRetN, xDrop, xBreak, xCont, xCons, xNil, xTup, xCB, xCall, xCallX, xAnd, xOr, xNot, xAndV, xOrV, xNotV, xIf, xYes, xTru, truD, xIsN, xNotN, nonD, xFld, xMeth, xMethX, xBM, xDGet, xDIn, xPart, xNoPart, xSl, nox_ok, toS_ok, finX, iR1, iR2, iL, iT, iE, iZ, xAug, xAssert, str_beq, insX, putFX, putX, valX, keyD_int, keyD_str, List.lookup, oInSet, xDisp, xPCons, xPNil, keysX, mergeX, rdL_app_ge, rdL_app_self, rdL_zero, rdL_succ, at_app_ge, at_app_self, at_zero, at_succ, bLenSet, h.at 0, show ¬ m < (dedupL (sl ns s e')).length by omega]
    refine ⟨by omega, ?_⟩
    replace h := h.drop.drop
    refine wpe_k (P := fun (b : Bool) S' => b = false ∧ Hs (pt en (.lst ((endsL ns m).map .int)) :: As) S') ?_ ?_
    · unfold Ok f_is_parting_t3
      by_cases hlt : e' < ns.length
      · have c2 := cut1 (ns := ns) (i := e') (b := s) (a := (e' : Int)) rfl hlt (by omega)
        have z2 := sl_len (ns := ns) (a := s) (b := e' + 1) (by omega)
        have d2 : m < (dedupL (sl ns s (e' + 1))).length := a4 hlt
        have d3 : (dedupL (sl ns s (e' + 1))).length ≤ 1000 := Nat.le_trans (dedup_len _) (by omega)
        simp (decide := true) [wpe_ret, wpe_exc, wpe_bind, wps_nx, wps_ret, wps_bk, wps_ct, wps_exc, wps_bindS, wps_seq, wps_xSeq, wps_toS, wpe_nox, defQ_ret, defQ_exc, wps_if, cn_k, cn_x, cx_n, cx_q, wpe_lst, wpe_dnew, wps_xSetF, wps_xAugF, wps_xDPut, gSub_eq, wpe_xMake, wps_xFor, wps_xForE, wpe_xLc, loopQ_ct, loopQ_bk, loopQ_ret, loopQ_exc, wpe_iteBad, wps_iteBad, oIC_wp, bList_wp, bListT_wp, oSlL_wp, oCat_wp, bListD_wp, mkRg_wp, bSet_wp, xSortSet_wp, cDiv_lit, cMul_litL, cMul_litR, rngOk_lit, rngOk_m1, -bList_tup, iR3, xLRg1, xLRg2, xErrF, xIsE, xRaise, RS.unset, RS.noexc, xNext, xAsg, gNameX, gConsX, gNilX, gTupX, xVar, xC, xOp, xUn, oI_int, oNeg_int, xB, asB_bl, xRet, xRetN, xDrop, xBreak, xCont, xCons, xNil, xTup, xCB, xCall, xCallX, xAnd, xOr, xNot, xAndV, xOrV, xNotV, xIf, xYes, xTru, truD, xIsN, xNotN, nonD, xFld, xMeth, xMethX, xBM, xDGet, xDIn, xPart, xNoPart, xSl, nox_ok, toS_ok, finX, iR1, iR2, iL, iT, iE, iZ, xAug, xAssert, str_beq, insX, putFX, putX, valX, keyD_int, keyD_str, List.lookup, oInSet, xDisp, xPCons, xPNil, keysX, mergeX, rdL_app_ge, rdL_app_self, rdL_zero, rdL_succ, at_app_ge, at_app_self, at_zero, at_succ, len_ok (hr.cons _ h), hlt, hr.cons _ h, c2]
        refine wpe_allo h ?_
        intro q S h
        simp (decide := true) [wpe_ret, wpe_exc, wpe_bind, wps_nx, wps_ret, wps_bk, wps_ct, wps_exc, wps_bindS, wps_seq, wps_xSeq, wps_toS, wpe_nox, defQ_ret, defQ_exc, wps_if, cn_k, cn_x, cx_n, cx_q, wpe_lst, wpe_dnew, wps_xSetF, wps_xAugF, wps_xDPut, gSub_eq, wpe_xMake, wps_xFor, wps_xForE, wpe_xLc, loopQ_ct, loopQ_bk, loopQ_ret, loopQ_exc, wpe_iteBad, wps_iteBad, oIC_wp, bList_wp, bListT_wp, oSlL_wp, oCat_wp, bListD_wp, mkRg_wp, bSet_wp, xSortSet_wp, cDiv_lit, cMul_litL, cMul_litR, rngOk_lit, rngOk_m1, -bList_tup, iR3, xLRg1, xLRg2, xErrF, xIsE, xRaise, RS.unset, RS.noexc, xNext, xAsg, gNameX, gConsX, gNilX, gTupX, xVar, xC, xOp, xUn, oI_int, oNeg_int, xB, asB_bl, xRet, xRetN, xDrop, xBreak, xCont, xCons, xNil, xTup, xCB, xCall, xCallX, xAnd, xOr, xNot, xAndV, xOrV, xNotV, xIf, xYes, xTru, truD, xIsN, xNotN, nonD, xFld, xMeth, xMethX, xBM, xDGet, xDIn, xPart, xNoPart, xSl, nox_ok, toS_ok, finX, iR1, iR2, iL, iT, iE, iZ, xAug, xAssert, str_beq, insX, putFX, putX, valX, keyD_int, keyD_str, List.lookup, oInSet, xDisp, xPCons, xPNil, keysX, mergeX, rdL_app_ge, rdL_app_self, rdL_zero, rdL_succ, at_app_ge, at_app_self, at_zero, at_succ, h.rp 0, intsOf_map]
        refine ⟨by omega, wpe_allo h ?_⟩
        intro q2 S h
        simp (decide := true) [wpe_ret, wpe_exc, wpe_bind, wps_nx, wps_ret, wps_bk, wps_ct, wps_exc, wps_bindS, wps_seq, wps_xSeq, wps_toS, wpe_nox, defQ_ret, defQ_exc, wps_if, cn_k, cn_x, cx_n, cx_q, wpe_lst, wpe_dnew, wps_xSetF, wps_xAugF, wps_xDPut, gSub_eq, wpe_xMake, wps_xFor, wps_xForE, wpe_xLc, loopQ_ct, loopQ_bk, loopQ_ret, loopQ_exc, wpe_iteBad, wps_iteBad, oIC_wp, bList_wp, bListT_wp, oSlL_wp, oCat_wp, bListD_wp, mkRg_wp, bSet_wp, xSortSet_wp, cDiv_lit, cMul_litL, cMul_litR, rngOk_lit, rngOk_m1, -bList_tup, iR3, xLRg1, xLRg2, xErrF, xIsE, xRaise, RS.unset, RS.noexc, xNext, xAsg, gNameX, gConsX, gNilX, gTupX, xVar, xC, xOp, xUn, oI_int, oNeg_int, xB, asB_bl, xRet, xRetN, xDrop, xBreak, xCont, xCons, xNil, xTup, xCB, xCall, xCallX, xAnd, xOr, xNot, xAndV, xOrV, xNotV, xIf, xYes, xTru, truD, xIsN, xNotN, nonD, xFld, xMeth, xMethX, xBM, xDGet, xDIn, xPart, xNoPart, xSl, nox_ok, toS_ok, finX, iR1, iR2, iL, iT, iE, iZ, xAug, xAssert, str_beq, insX, putFX, putX, valX, keyD_int, keyD_str, List.lookup, oInSet, xDisp, xPCons, xPNil, keysX, mergeX, rdL_app_ge, rdL_app_self, rdL_zero, rdL_succ, at_app_ge, at_app_self, at_zero, at_succ, bLenSet, h.at 0]
        exact ⟨by omega, by omega, h.drop.drop⟩
      · simp (decide := true) [wpe_ret, wpe_exc, wpe_bind, wps_nx, wps_ret, wps_bk, wps_ct, wps_exc, wps_bindS, wps_seq, wps_xSeq, wps_toS, wpe_nox, defQ_ret, defQ_exc, wps_if, cn_k, cn_x, cx_n, cx_q, wpe_lst, wpe_dnew, wps_xSetF, wps_xAugF, wps_xDPut, gSub_eq, wpe_xMake, wps_xFor, wps_xForE, wpe_xLc, loopQ_ct, loopQ_bk, loopQ_ret, loopQ_exc, wpe_iteBad, wps_iteBad, oIC_wp, bList_wp, bListT_wp, oSlL_wp, oCat_wp, bListD_wp, mkRg_wp, bSet_wp, xSortSet_wp, cDiv_lit, cMul_litL, cMul_litR, rngOk_lit, rngOk_m1, -bList_tup, iR3, xLRg1, xLRg2, xErrF, xIsE, xRaise, RS.unset, RS.noexc, xNext, xAsg, gNameX, gConsX, gNilX, gTupX, xVar, xC, xOp, xUn, oI_int, oNeg_int, xB, asB_bl, xRet, xRetN, xDrop, xBreak, xCont, xCons, xNil, xTup, xCB, xCall, xCallX, xAnd, xOr, xNot, xAndV, xOrV, xNotV, xIf, xYes, xTru, truD, xIsN, xNotN, nonD, xFld, xMeth, xMethX, xBM, xDGet, xDIn, xPart, xNoPart, xSl, nox_ok, toS_ok, finX, iR1, iR2, iL, iT, iE, iZ, xAug, xAssert, str_beq, insX, putFX, putX, valX, keyD_int, keyD_str, List.lookup, oInSet, xDisp, xPCons, xPNil, keysX, mergeX, rdL_app_ge, rdL_app_self, rdL_zero, rdL_succ, at_app_ge, at_app_self, at_zero, at_succ, len_ok (hr.cons _ h), hlt]
        exact h
    rintro t S ⟨rfl, h⟩
    simp (decide := true) [wpe_ret, wpe_exc, wpe_bind, wps_nx, wps_ret, wps_bk, wps_ct, wps_exc, wps_bindS, wps_seq, wps_xSeq, wps_toS, wpe_nox, defQ_ret, defQ_exc, wps_if, cn_k, cn_x, cx_n, cx_q, wpe_lst, wpe_dnew, wps_xSetF, wps_xAugF, wps_xDPut, gSub_eq, wpe_xMake, wps_xFor, wps_xForE, wpe_xLc, loopQ_ct, loopQ_bk, loopQ_ret, loopQ_exc, wpe_iteBad, wps_iteBad, oIC_wp, bList_wp, bListT_wp, oSlL_wp, oCat_wp, bListD_wp, mkRg_wp, bSet_wp, xSortSet_wp, cDiv_lit, cMul_litL, cMul_litR, rngOk_lit, rngOk_m1, -bList_tup, iR3, xLRg1, xLRg2, xErrF, xIsE, xRaise, RS.unset, RS.noexc, xNext, xAsg, gNameX, gConsX, gNilX, gTupX, xVar, xC, xOp, xUn, oI_int, oNeg_int, xB, asB_bl, xRet, xRetN, xDrop, xBreak, xCont, xCons, xNil, xTup, xCB, xCall, xCallX, xAnd, xOr, xNot, xAndV, xOrV, xNotV, xIf, xYes, xTru, truD, xIsN, xNotN, nonD, xFld, xMeth, xMethX, xBM, xDGet, xDIn, xPart, xNoPart, xSl, nox_ok, toS_ok, finX, iR1, iR2, iL, iT, iE, iZ, xAug, xAssert, str_beq, insX, putFX, putX, valX, keyD_int, keyD_str, List.lookup, oInSet, xDisp, xPCons, xPNil, keysX, mergeX, rdL_app_ge, rdL_app_self, rdL_zero, rdL_succ, at_app_ge, at_app_self, at_zero, at_succ]
    exact h
  · rintro _ S ⟨o4, o5, rfl, h⟩
    simp (decide := true) [wpe_ret, wpe_exc, wpe_bind, wps_nx, wps_ret, wps_bk, wps_ct, wps_exc, wps_bindS, wps_seq, wps_xSeq, wps_toS, wpe_nox, defQ_ret, defQ_exc, wps_if, cn_k, cn_x, cx_n, cx_q, wpe_lst, wpe_dnew, wps_xSetF, wps_xAugF, wps_xDPut, gSub_eq, wpe_xMake, wps_xFor, wps_xForE, wpe_xLc, loopQ_ct, loopQ_bk, loopQ_ret, loopQ_exc, wpe_iteBad, wps_iteBad, oIC_wp, bList_wp, bListT_wp, oSlL_wp, oCat_wp, bListD_wp, mkRg_wp, bSet_wp, xSortSet_wp, cDiv_lit, cMul_litL, cMul_litR, rngOk_lit, rngOk_m1, -bList_tup, iR3, xLRg1, xLRg2, xErrF, xIsE, xRaise, RS.unset, RS.noexc, xNext, xAsg, gNameX, gConsX, gNilX, gTupX, xVar, xC, xOp, xUn, oI_int, oNeg_int, xB, asB_bl, xRet, xRetN, xDrop, xBreak, xCont, xCons, xNil, xTup, xCB, xCall, xCallX, xAnd, xOr, xNot, xAndV, xOrV, xNotV, xIf, xYes, xTru, truD, xIsN, xNotN, nonD, xFld, xMeth, xMethX, xBM, xDGet, xDIn, xPart, xNoPart, xSl, nox_ok, toS_ok, finX, iR1, iR2, iL, iT, iE, iZ, xAug, xAssert, str_beq, insX, putFX, putX, valX, keyD_int, keyD_str, List.lookup, oInSet, xDisp, xPCons, xPNil, keysX, mergeX, rdL_app_ge, rdL_app_self, rdL_zero, rdL_succ, at_app_ge, at_app_self, at_zero, at_succ]
    exact h.drop
end
end

section
open Mi
section
variable {As : List Asn} {S : Sto} {l st : Nat} {ns : List Int} {m : Nat}
theorem phases_ok (h : Hs As S) (hr : Mi.Rd As l (ns.map .int)) (hz : ns.length ≤ 55) (hm : 1 ≤ m ∧ m ≤ 100) : Ok (f_phases [.ref l, .int m] S) fun v S' => ∃ p, v = .ref p ∧ Hs (pt p (.lst ((gi (Gr ns m ns.length)).map .int)) :: As) S' := by
  rw [f_phases_eq]
  refine Ok.def rfl ?_
  simp (decide := true) [wpe_ret, wpe_exc, wpe_bind, wps_nx, wps_ret, wps_bk, wps_ct, wps_exc, wps_bindS, wps_seq, wps_xSeq, wps_toS, wpe_nox, defQ_ret, defQ_exc, wps_if, cn_k, cn_x, cx_n, cx_q, wpe_lst, wpe_dnew, wps_xSetF, wps_xAugF, wps_xDPut, gSub_eq, wpe_xMake, wps_xFor, wps_xForE, wpe_xLc, loopQ_ct, loopQ_bk, loopQ_ret, loopQ_exc, wpe_iteBad, wps_iteBad, oIC_wp, bList_wp, bListT_wp, oSlL_wp, oCat_wp, bListD_wp, mkRg_wp, bSet_wp, xSortSet_wp, cDiv_lit, cMul_litL, cMul_litR, rngOk_lit, rngOk_m1, -bList_tup, iR3, xLRg1, xLRg2, xErrF, xIsE, xRaise, RS.unset, RS.noexc, xNext, xAsg, gNameX, gConsX, gNilX, gTupX, xVar, xC, xOp, xUn, oI_int, oNeg_int, xB, asB_bl, xRet, xRetN, xDrop, xBreak, xCont, xCons, xNil, xTup, xCB, xCall, xCallX, xAnd, xOr, xNot, xAndV, xOrV, xNotV, xIf, xYes, xTru, truD, xIsN, xNotN, nonD, xFld, xMeth, xMethX, xBM, xDGet, xDIn, xPart, xNoPart, xSl, nox_ok, toS_ok, finX, iR1, iR2, iL, iT, iE, iZ, xAug, xAssert, str_beq, insX, putFX, putX, valX, keyD_int, keyD_str, List.lookup, oInSet, xDisp, xPCons, xPNil, keysX, mergeX, rdL_app_ge, rdL_app_self, rdL_zero, rdL_succ, at_app_ge, at_app_self, at_zero, at_succ]
  refine wpe_allo h ?_
  intro st S h
  simp (decide := true) [wpe_ret, wpe_exc, wpe_bind, wps_nx, wps_ret, wps_bk, wps_ct, wps_exc, wps_bindS, wps_seq, wps_xSeq, wps_toS, wpe_nox, defQ_ret, defQ_exc, wps_if, cn_k, cn_x, cx_n, cx_q, wpe_lst, wpe_dnew, wps_xSetF, wps_xAugF, wps_xDPut, gSub_eq, wpe_xMake, wps_xFor, wps_xForE, wpe_xLc, loopQ_ct, loopQ_bk, loopQ_ret, loopQ_exc, wpe_iteBad, wps_iteBad, oIC_wp, bList_wp, bListT_wp, oSlL_wp, oCat_wp, bListD_wp, mkRg_wp, bSet_wp, xSortSet_wp, cDiv_lit, cMul_litL, cMul_litR, rngOk_lit, rngOk_m1, -bList_tup, iR3, xLRg1, xLRg2, xErrF, xIsE, xRaise, RS.unset, RS.noexc, xNext, xAsg, gNameX, gConsX, gNilX, gTupX, xVar, xC, xOp, xUn, oI_int, oNeg_int, xB, asB_bl, xRet, xRetN, xDrop, xBreak, xCont, xCons, xNil, xTup, xCB, xCall, xCallX, xAnd, xOr, xNot, xAndV, xOrV, xNotV, xIf, xYes, xTru, truD, xIsN, xNotN, nonD, xFld, xMeth, xMethX, xBM, xDGet, xDIn, xPart, xNoPart, xSl, nox_ok, toS_ok, finX, iR1, iR2, iL, iT, iE, iZ, xAug, xAssert, str_beq, insX, putFX, putX, valX, keyD_int, keyD_str, List.lookup, oInSet, xDisp, xPCons, xPNil, keysX, mergeX, rdL_app_ge, rdL_app_self, rdL_zero, rdL_succ, at_app_ge, at_app_self, at_zero, at_succ]
  refine wpe_allo h ?_
  intro pgs S h
  simp (decide := true) [wpe_ret, wpe_exc, wpe_bind, wps_nx, wps_ret, wps_bk, wps_ct, wps_exc, wps_bindS, wps_seq, wps_xSeq, wps_toS, wpe_nox, defQ_ret, defQ_exc, wps_if, cn_k, cn_x, cx_n, cx_q, wpe_lst, wpe_dnew, wps_xSetF, wps_xAugF, wps_xDPut, gSub_eq, wpe_xMake, wps_xFor, wps_xForE, wpe_xLc, loopQ_ct, loopQ_bk, loopQ_ret, loopQ_exc, wpe_iteBad, wps_iteBad, oIC_wp, bList_wp, bListT_wp, oSlL_wp, oCat_wp, bListD_wp, mkRg_wp, bSet_wp, xSortSet_wp, cDiv_lit, cMul_litL, cMul_litR, rngOk_lit, rngOk_m1, -bList_tup, iR3, xLRg1, xLRg2, xErrF, xIsE, xRaise, RS.unset, RS.noexc, xNext, xAsg, gNameX, gConsX, gNilX, gTupX, xVar, xC, xOp, xUn, oI_int, oNeg_int, xB, asB_bl, xRet, xRetN, xDrop, xBreak, xCont, xCons, xNil, xTup, xCB, xCall, xCallX, xAnd, xOr, xNot, xAndV, xOrV, xNotV, xIf, xYes, xTru, truD, xIsN, xNotN, nonD, xFld, xMeth, xMethX, xBM, xDGet, xDIn, xPart, xNoPart, xSl, nox_ok, toS_ok, finX, iR1, iR2, iL, iT, iE, iZ, xAug, xAssert, str_beq, insX, putFX, putX, valX, keyD_int, keyD_str, List.lookup, oInSet, xDisp, xPCons, xPNil, keysX, mergeX, rdL_app_ge, rdL_app_self, rdL_zero, rdL_succ, at_app_ge, at_app_self, at_zero, at_succ, f_phases_l1, hr.cons.cons _ h]
  refine wps_loop (fun i env S => ∃ o4 o5 pgs pg, env = [some (.ref l), some (.int m), some (.ref st), some (.ref pgs), o4, o5] ∧ Hs (pt pgs (.lst (pg.map .int)) :: pt st (.lst ((gi (Gr ns m i)).map .int)) :: As) S ∧ Ph ns m i pg) ⟨_, _, _, [], rfl, h, fun _ => rfl, fun b hb => absurd hb.lt (Nat.not_lt_zero _)⟩ (fun i e S ⟨_, _, _, _, _, h, _⟩ => hr.cons.cons _ h) ?_ ?_
  · rintro i x env S hx ⟨o4, o5, pgs, pg, rfl, h, hp⟩
    obtain ⟨y, g1, rfl⟩ := enumD_get hx
    rw [List.getElem?_map] at g1
    obtain ⟨k, gk, rfl⟩ := Option.map_eq_some_iff.mp g1
    rw [Nat.zero_add]
    simp (decide := true) [wpe_ret, wpe_exc, wpe_bind, wps_nx, wps_ret, wps_bk, wps_ct, wps_exc, wps_bindS, wps_seq, wps_xSeq, wps_toS, wpe_nox, defQ_ret, defQ_exc, wps_if, cn_k, cn_x, cx_n, cx_q, wpe_lst, wpe_dnew, wps_xSetF, wps_xAugF, wps_xDPut, gSub_eq, wpe_xMake, wps_xFor, wps_xForE, wpe_xLc, loopQ_ct, loopQ_bk, loopQ_ret, loopQ_exc, wpe_iteBad, wps_iteBad, oIC_wp, bList_wp, bListT_wp, oSlL_wp, oCat_wp, bListD_wp, mkRg_wp, bSet_wp, xSortSet_wp, cDiv_lit, cMul_litL, cMul_litR, rngOk_lit, rngOk_m1, -bList_tup, iR3, xLRg1, xLRg2, xErrF, xIsE, xRaise, RS.unset, RS.noexc, xNext, xAsg, gNameX, gConsX, gNilX, gTupX, xVar, xC, xOp, xUn, oI_int, oNeg_int, xB, asB_bl, xRet, xRetN, xDrop, xBreak, xCont, xCons, xNil, xTup, xCB, xCall, xCallX, xAnd, xOr, xNot, xAndV, xOrV, xNotV, xIf, xYes, xTru, truD, xIsN, xNotN, nonD, xFld, xMeth, xMethX, xBM, xDGet, xDIn, xPart, xNoPart, xSl, nox_ok, toS_ok, finX, iR1, iR2, iL, iT, iE, iZ, xAug, xAssert, str_beq, insX, putFX, putX, valX, keyD_int, keyD_str, List.lookup, oInSet, xDisp, xPCons, xPNil, keysX, mergeX, rdL_app_ge, rdL_app_self, rdL_zero, rdL_succ, at_app_ge, at_app_self, at_zero, at_succ]
    refine wps_k (phases_turn (Q := fun _ => False) hm (by omega) gk hp h) ?_ ?_
    · rintro e S ⟨pgs', pg', rfl, h, hp⟩
      exact ⟨_, _, _, _, rfl, h, hp⟩
    · intro r hr
      cases r with
      | ct e S =>
        obtain ⟨pgs', pg', rfl, h, hp⟩ := hr
        exact ⟨_, _, _, _, rfl, h, hp⟩
      | _ => exact hr.elim
  · rintro _ S ⟨o4, o5, pgs, pg, rfl, h, hp⟩
    rw [enumD_len, List.length_map] at h
    replace h := h.drop
    simp (decide := true) [wpe_ret, wpe_exc, wpe_bind, wps_nx, wps_ret, wps_bk, wps_ct, wps_exc, wps_bindS, wps_seq, wps_xSeq, wps_toS, wpe_nox, defQ_ret, defQ_exc, wps_if, cn_k, cn_x, cx_n, cx_q, wpe_lst, wpe_dnew, wps_xSetF, wps_xAugF, wps_xDPut, gSub_eq, wpe_xMake, wps_xFor, wps_xForE, wpe_xLc, loopQ_ct, loopQ_bk, loopQ_ret, loopQ_exc, wpe_iteBad, wps_iteBad, oIC_wp, bList_wp, bListT_wp, oSlL_wp, oCat_wp, bListD_wp, mkRg_wp, bSet_wp, xSortSet_wp, cDiv_lit, cMul_litL, cMul_litR, rngOk_lit, rngOk_m1, -bList_tup, iR3, xLRg1, xLRg2, xErrF, xIsE, xRaise, RS.unset, RS.noexc, xNext, xAsg, gNameX, gConsX, gNilX, gTupX, xVar, xC, xOp, xUn, oI_int, oNeg_int, xB, asB_bl, xRet, xRetN, xDrop, xBreak, xCont, xCons, xNil, xTup, xCB, xCall, xCallX, xAnd, xOr, xNot, xAndV, xOrV, xNotV, xIf, xYes, xTru, truD, xIsN, xNotN, nonD, xFld, xMeth, xMethX, xBM, xDGet, xDIn, xPart, xNoPart, xSl, nox_ok, toS_ok, finX, iR1, iR2, iL, iT, iE, iZ, xAug, xAssert, str_beq, insX, putFX, putX, valX, keyD_int, keyD_str, List.lookup, oInSet, xDisp, xPCons, xPNil, keysX, mergeX, rdL_app_ge, rdL_app_self, rdL_zero, rdL_succ, at_app_ge, at_app_self, at_zero, at_succ]
    refine wpe_k (parting_ok h hr.cons (Mi.Rd.pt 0) hz hm) ?_
    rintro _ S ⟨rfl, h⟩
    simp (decide := true) [wpe_ret, wpe_exc, wpe_bind, wps_nx, wps_ret, wps_bk, wps_ct, wps_exc, wps_bindS, wps_seq, wps_xSeq, wps_toS, wpe_nox, defQ_ret, defQ_exc, wps_if, cn_k, cn_x, cx_n, cx_q, wpe_lst, wpe_dnew, wps_xSetF, wps_xAugF, wps_xDPut, gSub_eq, wpe_xMake, wps_xFor, wps_xForE, wpe_xLc, loopQ_ct, loopQ_bk, loopQ_ret, loopQ_exc, wpe_iteBad, wps_iteBad, oIC_wp, bList_wp, bListT_wp, oSlL_wp, oCat_wp, bListD_wp, mkRg_wp, bSet_wp, xSortSet_wp, cDiv_lit, cMul_litL, cMul_litR, rngOk_lit, rngOk_m1, -bList_tup, iR3, xLRg1, xLRg2, xErrF, xIsE, xRaise, RS.unset, RS.noexc, xNext, xAsg, gNameX, gConsX, gNilX, gTupX, xVar, xC, xOp, xUn, oI_int, oNeg_int, xB, asB_bl, xRet, xRetN, xDrop, xBreak, xCont, xCons, xNil, xTup, xCB, xCall, xCallX, xAnd, xOr, xNot, xAndV, xOrV, xNotV, xIf, xYes, xTru, truD, xIsN, xNotN, nonD, xFld, xMeth, xMethX, xBM, xDGet, xDIn, xPart, xNoPart, xSl, nox_ok, toS_ok, finX, iR1, iR2, iL, iT, iE, iZ, xAug, xAssert, str_beq, insX, putFX, putX, valX, keyD_int, keyD_str, List.lookup, oInSet, xDisp, xPCons, xPNil, keysX, mergeX, rdL_app_ge, rdL_app_self, rdL_zero, rdL_succ, at_app_ge, at_app_self, at_zero, at_succ]
    exact h
def bestL (ns : List Int) (m t : Nat) : List Int := (List.range (t + 1)).map fun i => (Bn ns m i : Int)
theorem best_get {t b : Nat} (h : b ≤ t) : (bestL ns m t)[b]? = some (Bn ns m b : Int) := by
  unfold bestL
  rw [List.getElem?_map, List.getElem?_range (by omega)]
  rfl
theorem best_snoc {t : Nat} : bestL ns m t ++ [(Bn ns m (t + 1) : Int)] = bestL ns m (t + 1) := by
  unfold bestL
  rw [List.range_succ (n := t + 1), List.map_append]
  rfl
theorem cnt_cons {x : Int} {ks : List Int} : Mi.cnt (x :: ks) = if x ∈ ks then Mi.cnt ks else Mi.cnt ks + 1 := by
  rw [Mi.cnt_congr (l := x :: ks) (l' := ks ++ [x]) (by simp [or_comm]), Mi.cnt_snoc]
theorem sl_cons {a b : Nat} {x : Int} (h : a < b) (e : ns[a]? = some x) : sl ns a b = x :: sl ns (a + 1) b := by
  have hl := (List.getElem?_eq_some_iff.mp e)
  unfold sl
  rw [List.drop_eq_getElem_cons hl.1, hl.2, show b - a = (b - (a + 1)) + 1 by omega, List.take_succ_cons]
/-- the inner turns, from t - 1 down -/
structure Fw (ns : List Int) (m t j : Nat) (sn : List Int) (lo : Int) : Prop where
  nd : sn.Nodup
  me : ∀ k, k ∈ sn ↔ k ∈ sl ns (t - j) t
  ge : (Bn ns m t : Int) ≤ lo
  le : lo ≤ t
  hit : ∀ b, Lst ns m t b → t - j ≤ b → lo = Bn ns m t
theorem fewest_inner (hm : 1 ≤ m ∧ m ≤ 100) (hz : ns.length ≤ 55) (hr : Mi.Rd As l (ns.map .int)) {t bs sn : Nat} (ht : 1 ≤ t ∧ t ≤ ns.length) {o6 : Option D} {Q : RS → Prop}
    (h : Hs (pt sn (.lst []) :: pt bs (.lst ((bestL ns m (t - 1)).map .int)) :: As) S) :
    wps (K := ⟨fun e S' => ∃ o6, e = [some (.ref l), some (.int m), some (.ref bs), some (.int t), some (.ref sn), some (.int (Bn ns m t : Int)), o6] ∧ Hs (pt bs (.lst ((bestL ns m (t - 1)).map .int)) :: As) S', Q⟩)
      (f_l_fewest_stretches_l1 [some (.ref l), some (.int m), some (.ref bs), some (.int t), some (.ref sn), some (.int t), o6] S) := by
  unfold f_l_fewest_stretches_l1
  simp (decide := true) [wpe_ret, wpe_exc, wpe_bind, wps_nx, wps_ret, wps_bk, wps_ct, wps_exc, wps_bindS, wps_seq, wps_xSeq, wps_toS, wpe_nox, defQ_ret, defQ_exc, wps_if, cn_k, cn_x, cx_n, cx_q, wpe_lst, wpe_dnew, wps_xSetF, wps_xAugF, wps_xDPut, gSub_eq, wpe_xMake, wps_xFor, wps_xForE, wpe_xLc, loopQ_ct, loopQ_bk, loopQ_ret, loopQ_exc, wpe_iteBad, wps_iteBad, oIC_wp, bList_wp, bListT_wp, oSlL_wp, oCat_wp, bListD_wp, mkRg_wp, bSet_wp, xSortSet_wp, cDiv_lit, cMul_litL, cMul_litR, rngOk_lit, rngOk_m1, -bList_tup, iR3, xLRg1, xLRg2, xErrF, xIsE, xRaise, RS.unset, RS.noexc, xNext, xAsg, gNameX, gConsX, gNilX, gTupX, xVar, xC, xOp, xUn, oI_int, oNeg_int, xB, asB_bl, xRet, xRetN, xDrop, xBreak, xCont, xCons, xNil, xTup, xCB, xCall, xCallX, xAnd, xOr, xNot, xAndV, xOrV, xNotV, xIf, xYes, xTru, truD, xIsN, xNotN, nonD, xFld, xMeth, xMethX, xBM, xDGet, xDIn, xPart, xNoPart, xSl, nox_ok, toS_ok, finX, iR1, iR2, iL, iT, iE, iZ, xAug, xAssert, str_beq, insX, putFX, putX, valX, keyD_int, keyD_str, List.lookup, oInSet, xDisp, xPCons, xPNil, keysX, mergeX, rdL_app_ge, rdL_app_self, rdL_zero, rdL_succ, at_app_ge, at_app_self, at_zero, at_succ]
  refine ⟨rngOk (by omega), ?_⟩
  refine wps_loop (fun j env S => ∃ o6 sv lo, env = [some (.ref l), some (.int m), some (.ref bs), some (.int t), some (.ref sn), some (.int lo), o6] ∧ Hs (pt sn (.lst (sv.map .int)) :: pt bs (.lst ((bestL ns m (t - 1)).map .int)) :: As) S ∧ Fw ns m t j sv lo ∧ j ≤ t) ⟨_, [], _, rfl, h, ⟨by simp, by simp [sl_self], by have := bn_le (ns := ns) hm.1 t; omega, Int.le_refl _, fun b hb hj => absurd hb.lt (by omega)⟩, Nat.zero_le _⟩ (fun _ _ _ _ => trivial) ?_ ?_
  · rintro j x env S hx ⟨o6, sv, lo, rfl, h, hf, hj⟩
    obtain ⟨hlt, rfl⟩ := dwnD_get hx
    obtain ⟨b, hb⟩ : ∃ b : Nat, b = t - 1 - j := ⟨_, rfl⟩
    have hbt : b < t := by omega
    have eb : (t : Int) - 1 - (j : Int) = (b : Int) := by omega
    rw [eb]
    obtain ⟨x, hx⟩ : ∃ x, ns[b]? = some x := ⟨_, List.getElem?_eq_getElem (by omega)⟩
    have tj : t - j = b + 1 := by omega
    have tj1 : t - (j + 1) = b := by omega
    have hsl := sl_cons hbt hx
    have hme := hf.me
    rw [tj] at hme
    have hsz : sv.length = Mi.cnt (sl ns (b + 1) t) := cnt_uniq hf.nd hme
    have hcz : Mi.cnt (sl ns (b + 1) t) ≤ 100 := Nat.le_trans cnt_le (by rw [sl_len (by omega)]; omega)
    simp (decide := true) [wpe_ret, wpe_exc, wpe_bind, wps_nx, wps_ret, wps_bk, wps_ct, wps_exc, wps_bindS, wps_seq, wps_xSeq, wps_toS, wpe_nox, defQ_ret, defQ_exc, wps_if, cn_k, cn_x, cx_n, cx_q, wpe_lst, wpe_dnew, wps_xSetF, wps_xAugF, wps_xDPut, gSub_eq, wpe_xMake, wps_xFor, wps_xForE, wpe_xLc, loopQ_ct, loopQ_bk, loopQ_ret, loopQ_exc, wpe_iteBad, wps_iteBad, oIC_wp, bList_wp, bListT_wp, oSlL_wp, oCat_wp, bListD_wp, mkRg_wp, bSet_wp, xSortSet_wp, cDiv_lit, cMul_litL, cMul_litR, rngOk_lit, rngOk_m1, -bList_tup, iR3, xLRg1, xLRg2, xErrF, xIsE, xRaise, RS.unset, RS.noexc, xNext, xAsg, gNameX, gConsX, gNilX, gTupX, xVar, xC, xOp, xUn, oI_int, oNeg_int, xB, asB_bl, xRet, xRetN, xDrop, xBreak, xCont, xCons, xNil, xTup, xCB, xCall, xCallX, xAnd, xOr, xNot, xAndV, xOrV, xNotV, xIf, xYes, xTru, truD, xIsN, xNotN, nonD, xFld, xMeth, xMethX, xBM, xDGet, xDIn, xPart, xNoPart, xSl, nox_ok, toS_ok, finX, iR1, iR2, iL, iT, iE, iZ, xAug, xAssert, str_beq, insX, putFX, putX, valX, keyD_int, keyD_str, List.lookup, oInSet, xDisp, xPCons, xPNil, keysX, mergeX, rdL_app_ge, rdL_app_self, rdL_zero, rdL_succ, at_app_ge, at_app_self, at_zero, at_succ, f_l_fewest_stretches_b1, oIxL, hr.cons.cons _ h, atI_int (show (0 : Int) ≤ (b : Int) by omega) (show ns[((b : Int)).toNat]? = some x by rw [Int.toNat_natCast]; exact hx), oIn, scV, scal, itemsOf, h.rp 0, scVs_ints, inV_ints, memI_eq]
    refine wps_k (N := fun e S' => ∃ sv' : List Int, e = [some (.ref l), some (.int m), some (.ref bs), some (.int t), some (.ref sn), some (.int lo), some (.int (b : Int))] ∧ Hs (pt sn (.lst (sv'.map .int)) :: pt bs (.lst ((bestL ns m (t - 1)).map .int)) :: As) S' ∧ sv'.Nodup ∧ (∀ k, k ∈ sv' ↔ k ∈ sl ns b t)) (Q := fun _ => False) ?_ ?_ (fun _ z => z.elim)
    · by_cases hin : x ∈ sv
      · simp (decide := true) [wpe_ret, wpe_exc, wpe_bind, wps_nx, wps_ret, wps_bk, wps_ct, wps_exc, wps_bindS, wps_seq, wps_xSeq, wps_toS, wpe_nox, defQ_ret, defQ_exc, wps_if, cn_k, cn_x, cx_n, cx_q, wpe_lst, wpe_dnew, wps_xSetF, wps_xAugF, wps_xDPut, gSub_eq, wpe_xMake, wps_xFor, wps_xForE, wpe_xLc, loopQ_ct, loopQ_bk, loopQ_ret, loopQ_exc, wpe_iteBad, wps_iteBad, oIC_wp, bList_wp, bListT_wp, oSlL_wp, oCat_wp, bListD_wp, mkRg_wp, bSet_wp, xSortSet_wp, cDiv_lit, cMul_litL, cMul_litR, rngOk_lit, rngOk_m1, -bList_tup, iR3, xLRg1, xLRg2, xErrF, xIsE, xRaise, RS.unset, RS.noexc, xNext, xAsg, gNameX, gConsX, gNilX, gTupX, xVar, xC, xOp, xUn, oI_int, oNeg_int, xB, asB_bl, xRet, xRetN, xDrop, xBreak, xCont, xCons, xNil, xTup, xCB, xCall, xCallX, xAnd, xOr, xNot, xAndV, xOrV, xNotV, xIf, xYes, xTru, truD, xIsN, xNotN, nonD, xFld, xMeth, xMethX, xBM, xDGet, xDIn, xPart, xNoPart, xSl, nox_ok, toS_ok, finX, iR1, iR2, iL, iT, iE, iZ, xAug, xAssert, str_beq, insX, putFX, putX, valX, keyD_int, keyD_str, List.lookup, oInSet, xDisp, xPCons, xPNil, keysX, mergeX, rdL_app_ge, rdL_app_self, rdL_zero, rdL_succ, at_app_ge, at_app_self, at_zero, at_succ, hin]
        refine ⟨sv, h, hf.nd, fun k => ?_⟩
        rw [hme, hsl, List.mem_cons]
        constructor
        · exact .inr
        · rintro (rfl | z)
          · exact (hme k).mp hin
          · exact z
      · simp (decide := true) [wpe_ret, wpe_exc, wpe_bind, wps_nx, wps_ret, wps_bk, wps_ct, wps_exc, wps_bindS, wps_seq, wps_xSeq, wps_toS, wpe_nox, defQ_ret, defQ_exc, wps_if, cn_k, cn_x, cx_n, cx_q, wpe_lst, wpe_dnew, wps_xSetF, wps_xAugF, wps_xDPut, gSub_eq, wpe_xMake, wps_xFor, wps_xForE, wpe_xLc, loopQ_ct, loopQ_bk, loopQ_ret, loopQ_exc, wpe_iteBad, wps_iteBad, oIC_wp, bList_wp, bListT_wp, oSlL_wp, oCat_wp, bListD_wp, mkRg_wp, bSet_wp, xSortSet_wp, cDiv_lit, cMul_litL, cMul_litR, rngOk_lit, rngOk_m1, -bList_tup, iR3, xLRg1, xLRg2, xErrF, xIsE, xRaise, RS.unset, RS.noexc, xNext, xAsg, gNameX, gConsX, gNilX, gTupX, xVar, xC, xOp, xUn, oI_int, oNeg_int, xB, asB_bl, xRet, xRetN, xDrop, xBreak, xCont, xCons, xNil, xTup, xCB, xCall, xCallX, xAnd, xOr, xNot, xAndV, xOrV, xNotV, xIf, xYes, xTru, truD, xIsN, xNotN, nonD, xFld, xMeth, xMethX, xBM, xDGet, xDIn, xPart, xNoPart, xSl, nox_ok, toS_ok, finX, iR1, iR2, iL, iT, iE, iZ, xAug, xAssert, str_beq, insX, putFX, putX, valX, keyD_int, keyD_str, List.lookup, oInSet, xDisp, xPCons, xPNil, keysX, mergeX, rdL_app_ge, rdL_app_self, rdL_zero, rdL_succ, at_app_ge, at_app_self, at_zero, at_succ, hin, isLst, h.rp 0, oIxL, hr.cons.cons _ h, atI_int (show (0 : Int) ≤ (b : Int) by omega) (show ns[((b : Int)).toNat]? = some x by rw [Int.toNat_natCast]; exact hx)]
        refine wpe_append h (by rw [List.length_map]; omega) ?_
        intro S h
        refine ⟨sv ++ [x], rfl, by rw [List.map_append]; exact h, List.nodup_append.mpr ⟨hf.nd, by simp, fun a ha c hc z => ?_⟩, fun k => ?_⟩
        · obtain rfl : c = x := by simpa using hc
          exact hin (z ▸ ha)
        · rw [List.mem_append, hme, hsl]
          simp [or_comm]
    rintro _ S ⟨sv', rfl, h, nd', me'⟩
    have hsz' : sv'.length = Mi.cnt (sl ns b t) := cnt_uniq nd' me'
    simp (decide := true) [wpe_ret, wpe_exc, wpe_bind, wps_nx, wps_ret, wps_bk, wps_ct, wps_exc, wps_bindS, wps_seq, wps_xSeq, wps_toS, wpe_nox, defQ_ret, defQ_exc, wps_if, cn_k, cn_x, cx_n, cx_q, wpe_lst, wpe_dnew, wps_xSetF, wps_xAugF, wps_xDPut, gSub_eq, wpe_xMake, wps_xFor, wps_xForE, wpe_xLc, loopQ_ct, loopQ_bk, loopQ_ret, loopQ_exc, wpe_iteBad, wps_iteBad, oIC_wp, bList_wp, bListT_wp, oSlL_wp, oCat_wp, bListD_wp, mkRg_wp, bSet_wp, xSortSet_wp, cDiv_lit, cMul_litL, cMul_litR, rngOk_lit, rngOk_m1, -bList_tup, iR3, xLRg1, xLRg2, xErrF, xIsE, xRaise, RS.unset, RS.noexc, xNext, xAsg, gNameX, gConsX, gNilX, gTupX, xVar, xC, xOp, xUn, oI_int, oNeg_int, xB, asB_bl, xRet, xRetN, xDrop, xBreak, xCont, xCons, xNil, xTup, xCB, xCall, xCallX, xAnd, xOr, xNot, xAndV, xOrV, xNotV, xIf, xYes, xTru, truD, xIsN, xNotN, nonD, xFld, xMeth, xMethX, xBM, xDGet, xDIn, xPart, xNoPart, xSl, nox_ok, toS_ok, finX, iR1, iR2, iL, iT, iE, iZ, xAug, xAssert, str_beq, insX, putFX, putX, valX, keyD_int, keyD_str, List.lookup, oInSet, xDisp, xPCons, xPNil, keysX, mergeX, rdL_app_ge, rdL_app_self, rdL_zero, rdL_succ, at_app_ge, at_app_self, at_zero, at_succ, len_ok (h.rp 0)]
    obtain ⟨b0, L⟩ := gr_lst hm.1 (ns := ns) (t := t) ht.1
    by_cases hc : m < sv'.length
    · simp (decide := true) [wpe_ret, wpe_exc, wpe_bind, wps_nx, wps_ret, wps_bk, wps_ct, wps_exc, wps_bindS, wps_seq, wps_xSeq, wps_toS, wpe_nox, defQ_ret, defQ_exc, wps_if, cn_k, cn_x, cx_n, cx_q, wpe_lst, wpe_dnew, wps_xSetF, wps_xAugF, wps_xDPut, gSub_eq, wpe_xMake, wps_xFor, wps_xForE, wpe_xLc, loopQ_ct, loopQ_bk, loopQ_ret, loopQ_exc, wpe_iteBad, wps_iteBad, oIC_wp, bList_wp, bListT_wp, oSlL_wp, oCat_wp, bListD_wp, mkRg_wp, bSet_wp, xSortSet_wp, cDiv_lit, cMul_litL, cMul_litR, rngOk_lit, rngOk_m1, -bList_tup, iR3, xLRg1, xLRg2, xErrF, xIsE, xRaise, RS.unset, RS.noexc, xNext, xAsg, gNameX, gConsX, gNilX, gTupX, xVar, xC, xOp, xUn, oI_int, oNeg_int, xB, asB_bl, xRet, xRetN, xDrop, xBreak, xCont, xCons, xNil, xTup, xCB, xCall, xCallX, xAnd, xOr, xNot, xAndV, xOrV, xNotV, xIf, xYes, xTru, truD, xIsN, xNotN, nonD, xFld, xMeth, xMethX, xBM, xDGet, xDIn, xPart, xNoPart, xSl, nox_ok, toS_ok, finX, iR1, iR2, iL, iT, iE, iZ, xAug, xAssert, str_beq, insX, putFX, putX, valX, keyD_int, keyD_str, List.lookup, oInSet, xDisp, xPCons, xPNil, keysX, mergeX, rdL_app_ge, rdL_app_self, rdL_zero, rdL_succ, at_app_ge, at_app_self, at_zero, at_succ, hc]
      have hb0 : b + 1 ≤ b0 := by
        refine Classical.byContradiction fun z => ?_
        have := cnt_sl_mono (ns := ns) (show b0 ≤ b by omega) (Nat.le_refl t)
        have := L.le
        omega
      have e := hf.hit b0 L (by omega)
      subst e
      exact ⟨rfl, h.drop⟩
    · have hb1 : Bn ns m t ≤ Bn ns m b + 1 := bn_opt hm.1 hbt (by omega)
      simp (decide := true) [wpe_ret, wpe_exc, wpe_bind, wps_nx, wps_ret, wps_bk, wps_ct, wps_exc, wps_bindS, wps_seq, wps_xSeq, wps_toS, wpe_nox, defQ_ret, defQ_exc, wps_if, cn_k, cn_x, cx_n, cx_q, wpe_lst, wpe_dnew, wps_xSetF, wps_xAugF, wps_xDPut, gSub_eq, wpe_xMake, wps_xFor, wps_xForE, wpe_xLc, loopQ_ct, loopQ_bk, loopQ_ret, loopQ_exc, wpe_iteBad, wps_iteBad, oIC_wp, bList_wp, bListT_wp, oSlL_wp, oCat_wp, bListD_wp, mkRg_wp, bSet_wp, xSortSet_wp, cDiv_lit, cMul_litL, cMul_litR, rngOk_lit, rngOk_m1, -bList_tup, iR3, xLRg1, xLRg2, xErrF, xIsE, xRaise, RS.unset, RS.noexc, xNext, xAsg, gNameX, gConsX, gNilX, gTupX, xVar, xC, xOp, xUn, oI_int, oNeg_int, xB, asB_bl, xRet, xRetN, xDrop, xBreak, xCont, xCons, xNil, xTup, xCB, xCall, xCallX, xAnd, xOr, xNot, xAndV, xOrV, xNotV, xIf, xYes, xTru, truD, xIsN, xNotN, nonD, xFld, xMeth, xMethX, xBM, xDGet, xDIn, xPart, xNoPart, xSl, nox_ok, toS_ok, finX, iR1, iR2, iL, iT, iE, iZ, xAug, xAssert, str_beq, insX, putFX, putX, valX, keyD_int, keyD_str, List.lookup, oInSet, xDisp, xPCons, xPNil, keysX, mergeX, rdL_app_ge, rdL_app_self, rdL_zero, rdL_succ, at_app_ge, at_app_self, at_zero, at_succ, hc, oIxL, h.rp 1, atI_int (show (0 : Int) ≤ (b : Int) by omega) (show (bestL ns m (t - 1))[((b : Int)).toNat]? = some (Bn ns m b : Int) by rw [Int.toNat_natCast]; exact best_get (by omega))]
      refine ⟨_, sv', _, ⟨rfl, rfl⟩, h, ⟨nd', by rw [tj1]; exact me', by have := hf.ge; split <;> omega, by have := hf.le; split <;> omega, fun b' hb' hj' => ?_⟩, by omega⟩
      have he : b' = b0 := by
        have q := hb'.get
        rw [L.get] at q
        exact (Option.some.inj q).symm
      subst he
      have := hf.ge
      by_cases hb2 : t - j ≤ b'
      · rw [hf.hit b' hb' hb2]
        split <;> omega
      · have : b' = b := by omega
        subst this
        rw [hb'.bn]
        have := hb'.bn
        split <;> omega
  · rintro _ S ⟨o6, sv, lo, rfl, h, hf, hj⟩
    obtain ⟨b0, L⟩ := gr_lst hm.1 (ns := ns) (t := t) ht.1
    have e := hf.hit b0 L (by rw [dwnD_len]; omega)
    subst e
    exact ⟨_, rfl, h.drop⟩
theorem fewest_ok (h : Hs As S) (hr : Mi.Rd As l (ns.map .int)) (hz : ns.length ≤ 55) (hm : 1 ≤ m ∧ m ≤ 100) : Ok (f_l_fewest_stretches [.ref l, .int m] S) fun v S' => v = .int (Bn ns m ns.length : Nat) ∧ Hs As S' := by
  rw [f_l_fewest_stretches_eq]
  refine Ok.def rfl ?_
  simp (decide := true) [wpe_ret, wpe_exc, wpe_bind, wps_nx, wps_ret, wps_bk, wps_ct, wps_exc, wps_bindS, wps_seq, wps_xSeq, wps_toS, wpe_nox, defQ_ret, defQ_exc, wps_if, cn_k, cn_x, cx_n, cx_q, wpe_lst, wpe_dnew, wps_xSetF, wps_xAugF, wps_xDPut, gSub_eq, wpe_xMake, wps_xFor, wps_xForE, wpe_xLc, loopQ_ct, loopQ_bk, loopQ_ret, loopQ_exc, wpe_iteBad, wps_iteBad, oIC_wp, bList_wp, bListT_wp, oSlL_wp, oCat_wp, bListD_wp, mkRg_wp, bSet_wp, xSortSet_wp, cDiv_lit, cMul_litL, cMul_litR, rngOk_lit, rngOk_m1, -bList_tup, iR3, xLRg1, xLRg2, xErrF, xIsE, xRaise, RS.unset, RS.noexc, xNext, xAsg, gNameX, gConsX, gNilX, gTupX, xVar, xC, xOp, xUn, oI_int, oNeg_int, xB, asB_bl, xRet, xRetN, xDrop, xBreak, xCont, xCons, xNil, xTup, xCB, xCall, xCallX, xAnd, xOr, xNot, xAndV, xOrV, xNotV, xIf, xYes, xTru, truD, xIsN, xNotN, nonD, xFld, xMeth, xMethX, xBM, xDGet, xDIn, xPart, xNoPart, xSl, nox_ok, toS_ok, finX, iR1, iR2, iL, iT, iE, iZ, xAug, xAssert, str_beq, insX, putFX, putX, valX, keyD_int, keyD_str, List.lookup, oInSet, xDisp, xPCons, xPNil, keysX, mergeX, rdL_app_ge, rdL_app_self, rdL_zero, rdL_succ, at_app_ge, at_app_self, at_zero, at_succ]
  refine wpe_allo h ?_
  intro bs S h
  simp (decide := true) [wpe_ret, wpe_exc, wpe_bind, wps_nx, wps_ret, wps_bk, wps_ct, wps_exc, wps_bindS, wps_seq, wps_xSeq, wps_toS, wpe_nox, defQ_ret, defQ_exc, wps_if, cn_k, cn_x, cx_n, cx_q, wpe_lst, wpe_dnew, wps_xSetF, wps_xAugF, wps_xDPut, gSub_eq, wpe_xMake, wps_xFor, wps_xForE, wpe_xLc, loopQ_ct, loopQ_bk, loopQ_ret, loopQ_exc, wpe_iteBad, wps_iteBad, oIC_wp, bList_wp, bListT_wp, oSlL_wp, oCat_wp, bListD_wp, mkRg_wp, bSet_wp, xSortSet_wp, cDiv_lit, cMul_litL, cMul_litR, rngOk_lit, rngOk_m1, -bList_tup, iR3, xLRg1, xLRg2, xErrF, xIsE, xRaise, RS.unset, RS.noexc, xNext, xAsg, gNameX, gConsX, gNilX, gTupX, xVar, xC, xOp, xUn, oI_int, oNeg_int, xB, asB_bl, xRet, xRetN, xDrop, xBreak, xCont, xCons, xNil, xTup, xCB, xCall, xCallX, xAnd, xOr, xNot, xAndV, xOrV, xNotV, xIf, xYes, xTru, truD, xIsN, xNotN, nonD, xFld, xMeth, xMethX, xBM, xDGet, xDIn, xPart, xNoPart, xSl, nox_ok, toS_ok, finX, iR1, iR2, iL, iT, iE, iZ, xAug, xAssert, str_beq, insX, putFX, putX, valX, keyD_int, keyD_str, List.lookup, oInSet, xDisp, xPCons, xPNil, keysX, mergeX, rdL_app_ge, rdL_app_self, rdL_zero, rdL_succ, at_app_ge, at_app_self, at_zero, at_succ, f_l_fewest_stretches_l2, len_ok (hr.cons _ h)]
  refine ⟨rngOk (by omega), ?_⟩
  refine wps_loop (fun i env S => ∃ o3 o4 o5 o6, env = [some (.ref l), some (.int m), some (.ref bs), o3, o4, o5, o6] ∧ Hs (pt bs (.lst ((bestL ns m i).map .int)) :: As) S) ⟨_, _, _, _, rfl, h⟩ (fun _ _ _ _ => trivial) ?_ ?_
  · rintro i x env S hx ⟨o3, o4, o5, o6, rfl, h⟩
    obtain ⟨hlt, rfl⟩ := rngD_get hx
    obtain ⟨a, ha⟩ : ∃ a : Int, a = 1 + (i : Int) := ⟨_, rfl⟩
    rw [← ha]
    simp (decide := true) [wpe_ret, wpe_exc, wpe_bind, wps_nx, wps_ret, wps_bk, wps_ct, wps_exc, wps_bindS, wps_seq, wps_xSeq, wps_toS, wpe_nox, defQ_ret, defQ_exc, wps_if, cn_k, cn_x, cx_n, cx_q, wpe_lst, wpe_dnew, wps_xSetF, wps_xAugF, wps_xDPut, gSub_eq, wpe_xMake, wps_xFor, wps_xForE, wpe_xLc, loopQ_ct, loopQ_bk, loopQ_ret, loopQ_exc, wpe_iteBad, wps_iteBad, oIC_wp, bList_wp, bListT_wp, oSlL_wp, oCat_wp, bListD_wp, mkRg_wp, bSet_wp, xSortSet_wp, cDiv_lit, cMul_litL, cMul_litR, rngOk_lit, rngOk_m1, -bList_tup, iR3, xLRg1, xLRg2, xErrF, xIsE, xRaise, RS.unset, RS.noexc, xNext, xAsg, gNameX, gConsX, gNilX, gTupX, xVar, xC, xOp, xUn, oI_int, oNeg_int, xB, asB_bl, xRet, xRetN, xDrop, xBreak, xCont, xCons, xNil, xTup, xCB, xCall, xCallX, xAnd, xOr, xNot, xAndV, xOrV, xNotV, xIf, xYes, xTru, truD, xIsN, xNotN, nonD, xFld, xMeth, xMethX, xBM, xDGet, xDIn, xPart, xNoPart, xSl, nox_ok, toS_ok, finX, iR1, iR2, iL, iT, iE, iZ, xAug, xAssert, str_beq, insX, putFX, putX, valX, keyD_int, keyD_str, List.lookup, oInSet, xDisp, xPCons, xPNil, keysX, mergeX, rdL_app_ge, rdL_app_self, rdL_zero, rdL_succ, at_app_ge, at_app_self, at_zero, at_succ, f_l_fewest_stretches_b2]
    refine wpe_allo h ?_
    intro sn S h
    simp (decide := true) [wpe_ret, wpe_exc, wpe_bind, wps_nx, wps_ret, wps_bk, wps_ct, wps_exc, wps_bindS, wps_seq, wps_xSeq, wps_toS, wpe_nox, defQ_ret, defQ_exc, wps_if, cn_k, cn_x, cx_n, cx_q, wpe_lst, wpe_dnew, wps_xSetF, wps_xAugF, wps_xDPut, gSub_eq, wpe_xMake, wps_xFor, wps_xForE, wpe_xLc, loopQ_ct, loopQ_bk, loopQ_ret, loopQ_exc, wpe_iteBad, wps_iteBad, oIC_wp, bList_wp, bListT_wp, oSlL_wp, oCat_wp, bListD_wp, mkRg_wp, bSet_wp, xSortSet_wp, cDiv_lit, cMul_litL, cMul_litR, rngOk_lit, rngOk_m1, -bList_tup, iR3, xLRg1, xLRg2, xErrF, xIsE, xRaise, RS.unset, RS.noexc, xNext, xAsg, gNameX, gConsX, gNilX, gTupX, xVar, xC, xOp, xUn, oI_int, oNeg_int, xB, asB_bl, xRet, xRetN, xDrop, xBreak, xCont, xCons, xNil, xTup, xCB, xCall, xCallX, xAnd, xOr, xNot, xAndV, xOrV, xNotV, xIf, xYes, xTru, truD, xIsN, xNotN, nonD, xFld, xMeth, xMethX, xBM, xDGet, xDIn, xPart, xNoPart, xSl, nox_ok, toS_ok, finX, iR1, iR2, iL, iT, iE, iZ, xAug, xAssert, str_beq, insX, putFX, putX, valX, keyD_int, keyD_str, List.lookup, oInSet, xDisp, xPCons, xPNil, keysX, mergeX, rdL_app_ge, rdL_app_self, rdL_zero, rdL_succ, at_app_ge, at_app_self, at_zero, at_succ]
    have e : a = ((i + 1 : Nat) : Int) := by omega
    rw [e]
    refine wps_k (Q := fun _ => False) (fewest_inner (Q := fun _ => False) (t := i + 1) hm hz hr ⟨by omega, by omega⟩ h) ?_ (fun _ z => z.elim)
    rintro _ S ⟨o6, rfl, h⟩
    rw [Nat.add_sub_cancel] at h
    have bl : (bestL ns m i).length < 100000 := by unfold bestL; rw [List.length_map, List.length_range]; omega
    simp (decide := true) only [wpe_ret, wpe_exc, wpe_bind, wps_nx, wps_ret, wps_bk, wps_ct, wps_exc, wps_bindS, wps_seq, wps_xSeq, wps_toS, wpe_nox, defQ_ret, defQ_exc, wps_if, cn_k, cn_x, cx_n, cx_q, wpe_lst, wpe_dnew, wps_xSetF, wps_xAugF, wps_xDPut, gSub_eq, wpe_xMake, wps_xFor, wps_xForE, wpe_xLc, loopQ_ct, loopQ_bk, loopQ_ret, loopQ_exc, wpe_iteBad, wps_iteBad, oIC_wp, bList_wp, bListT_wp, oSlL_wp, oCat_wp, bListD_wp, mkRg_wp, bSet_wp, xSortSet_wp, cDiv_lit, cMul_litL, cMul_litR, rngOk_lit, rngOk_m1, -bList_tup, iR3, xLRg1, xLRg2, xErrF, xIsE, xRaise, RS.unset, RS.noexc, xNext, xAsg, gNameX, gConsX, gNilX, gTupX, xVar, xC, xOp, xUn, oI_int, oNeg_int, xB, asB_bl, xRet, xRetN, xDrop, xBreak, xCont, xCons, xNil, xTup, xCB, xCall, xCallX, xAnd, xOr, xNot, xAndV, xOrV, xNotV, xIf, xYes, xTru, truD, xIsN, xNotN, nonD, xFld, xMeth, xMethX, xBM, xDGet, xDIn, xPart, xNoPart, xSl, nox_ok, toS_ok, finX, iR1, iR2, iL, iT, iE, iZ, xAug, xAssert, str_beq, insX, putFX, putX, valX, keyD_int, keyD_str, List.lookup, oInSet, xDisp, xPCons, xPNil, keysX, mergeX, rdL_app_ge, rdL_app_self, rdL_zero, rdL_succ, at_app_ge, at_app_self, at_zero, at_succ, List.getElem?_cons_zero, List.getElem?_cons_succ, isLst, h.rp 0, Option.isSome_some, if_true]
    refine wpe_append h (by rw [List.length_map]; exact bl) ?_
    intro S h
    refine ⟨_, _, _, _, rfl, ?_⟩
    rw [← best_snoc, List.map_append]
    exact h
  · rintro _ S ⟨o3, o4, o5, o6, rfl, h⟩
    rw [rngD_len] at h
    simp (decide := true) [wpe_ret, wpe_exc, wpe_bind, wps_nx, wps_ret, wps_bk, wps_ct, wps_exc, wps_bindS, wps_seq, wps_xSeq, wps_toS, wpe_nox, defQ_ret, defQ_exc, wps_if, cn_k, cn_x, cx_n, cx_q, wpe_lst, wpe_dnew, wps_xSetF, wps_xAugF, wps_xDPut, gSub_eq, wpe_xMake, wps_xFor, wps_xForE, wpe_xLc, loopQ_ct, loopQ_bk, loopQ_ret, loopQ_exc, wpe_iteBad, wps_iteBad, oIC_wp, bList_wp, bListT_wp, oSlL_wp, oCat_wp, bListD_wp, mkRg_wp, bSet_wp, xSortSet_wp, cDiv_lit, cMul_litL, cMul_litR, rngOk_lit, rngOk_m1, -bList_tup, iR3, xLRg1, xLRg2, xErrF, xIsE, xRaise, RS.unset, RS.noexc, xNext, xAsg, gNameX, gConsX, gNilX, gTupX, xVar, xC, xOp, xUn, oI_int, oNeg_int, xB, asB_bl, xRet, xRetN, xDrop, xBreak, xCont, xCons, xNil, xTup, xCB, xCall, xCallX, xAnd, xOr, xNot, xAndV, xOrV, xNotV, xIf, xYes, xTru, truD, xIsN, xNotN, nonD, xFld, xMeth, xMethX, xBM, xDGet, xDIn, xPart, xNoPart, xSl, nox_ok, toS_ok, finX, iR1, iR2, iL, iT, iE, iZ, xAug, xAssert, str_beq, insX, putFX, putX, valX, keyD_int, keyD_str, List.lookup, oInSet, xDisp, xPCons, xPNil, keysX, mergeX, rdL_app_ge, rdL_app_self, rdL_zero, rdL_succ, at_app_ge, at_app_self, at_zero, at_succ, oIxL, len_ok (hr.cons _ h), h.rp 0, atI_int (show (0 : Int) ≤ (ns.length : Int) by omega) (show (bestL ns m ns.length)[((ns.length : Int)).toNat]? = some (Bn ns m ns.length : Int) by rw [Int.toNat_natCast]; exact best_get (Nat.le_refl _))]
    exact h.drop
end
end

section
open Mi
section
variable {As : List Asn} {S : Sto} {l : Nat} {ns : List Int}
theorem due_ok {w : Nat} (h : Hs As S) (hr : Mi.Rd As l (ns.map .int)) (hz : ns.length ≤ 55) (hw : 1 ≤ w ∧ w ≤ 100) {o0 o2 o4 o5 o6 o7 o8 : Option D} : Ok (f_law_c1 [o0, some (.ref l), o2, some (.int w), o4, o5, o6, o7, o8] S) fun v S' => ∃ p, v = .ref p ∧ Hs (pt p (.lst ((wsL ns w).map .int)) :: As) S' := by
  unfold Ok
  simp (decide := true) [wpe_ret, wpe_exc, wpe_bind, wps_nx, wps_ret, wps_bk, wps_ct, wps_exc, wps_bindS, wps_seq, wps_xSeq, wps_toS, wpe_nox, defQ_ret, defQ_exc, wps_if, cn_k, cn_x, cx_n, cx_q, wpe_lst, wpe_dnew, wps_xSetF, wps_xAugF, wps_xDPut, gSub_eq, wpe_xMake, wps_xFor, wps_xForE, wpe_xLc, loopQ_ct, loopQ_bk, loopQ_ret, loopQ_exc, wpe_iteBad, wps_iteBad, oIC_wp, bList_wp, bListT_wp, oSlL_wp, oCat_wp, bListD_wp, mkRg_wp, bSet_wp, xSortSet_wp, cDiv_lit, cMul_litL, cMul_litR, rngOk_lit, rngOk_m1, -bList_tup, iR3, xLRg1, xLRg2, xErrF, xIsE, xRaise, RS.unset, RS.noexc, xNext, xAsg, gNameX, gConsX, gNilX, gTupX, xVar, xC, xOp, xUn, oI_int, oNeg_int, xB, asB_bl, xRet, xRetN, xDrop, xBreak, xCont, xCons, xNil, xTup, xCB, xCall, xCallX, xAnd, xOr, xNot, xAndV, xOrV, xNotV, xIf, xYes, xTru, truD, xIsN, xNotN, nonD, xFld, xMeth, xMethX, xBM, xDGet, xDIn, xPart, xNoPart, xSl, nox_ok, toS_ok, finX, iR1, iR2, iL, iT, iE, iZ, xAug, xAssert, str_beq, insX, putFX, putX, valX, keyD_int, keyD_str, List.lookup, oInSet, xDisp, xPCons, xPNil, keysX, mergeX, rdL_app_ge, rdL_app_self, rdL_zero, rdL_succ, at_app_ge, at_app_self, at_zero, at_succ, f_law_c1, len_ok (hr _ h)]
  refine ⟨rngOk (by omega), ?_⟩
  have wg : (rngD 0 ns.length).filterMap (fun x => match x with
      | D.int e => wsG ns w (.int (e + 1))
      | _ => none) = (wsL ns w).map .int := by
    rw [← wsG_map]
    unfold rngD
    rw [List.filterMap_map, List.filterMap_map]
    congr 1
    funext i
    simp only [Function.comp]
    congr 2
    omega
  refine wpe_comp (fun x => match x with
      | .int e => wsG ns w (.int (e + 1))
      | _ => none) h (fun _ _ _ => trivial) ?_ (by rw [rngD_len]; omega) ?_
  · intro x hx Bs S h
    obtain ⟨i, hi, rfl⟩ := rngD_mem hx
    obtain ⟨e, he⟩ : ∃ e : Int, e = 0 + (i : Int) := ⟨_, rfl⟩
    have hg : wsG ns w (.int (e + 1)) = some (.int (Mi.cnt (sl ns (i + 1 - w) (i + 1)) : Int)) := by
      have : (e + 1).toNat = i + 1 := by omega
      simp only [wsG, this]
    have hcut : cutX (ns.map D.int) (some (if 0 < e - (w : Int) + 1 then e - (w : Int) + 1 else 0)) (some (e + 1)) = (sl ns (i + 1 - w) (i + 1)).map .int := by
      rw [← cut_sl (show i + 1 - w ≤ i + 1 by omega) (show i + 1 ≤ ns.length by omega)]
      congr 2
      · split <;> omega
      · omega
    have hs := sl_len (ns := ns) (a := i + 1 - w) (b := i + 1) (by omega)
    rw [← he]
    simp (decide := true) [wpe_ret, wpe_exc, wpe_bind, wps_nx, wps_ret, wps_bk, wps_ct, wps_exc, wps_bindS, wps_seq, wps_xSeq, wps_toS, wpe_nox, defQ_ret, defQ_exc, wps_if, cn_k, cn_x, cx_n, cx_q, wpe_lst, wpe_dnew, wps_xSetF, wps_xAugF, wps_xDPut, gSub_eq, wpe_xMake, wps_xFor, wps_xForE, wpe_xLc, loopQ_ct, loopQ_bk, loopQ_ret, loopQ_exc, wpe_iteBad, wps_iteBad, oIC_wp, bList_wp, bListT_wp, oSlL_wp, oCat_wp, bListD_wp, mkRg_wp, bSet_wp, xSortSet_wp, cDiv_lit, cMul_litL, cMul_litR, rngOk_lit, rngOk_m1, -bList_tup, iR3, xLRg1, xLRg2, xErrF, xIsE, xRaise, RS.unset, RS.noexc, xNext, xAsg, gNameX, gConsX, gNilX, gTupX, xVar, xC, xOp, xUn, oI_int, oNeg_int, xB, asB_bl, xRet, xRetN, xDrop, xBreak, xCont, xCons, xNil, xTup, xCB, xCall, xCallX, xAnd, xOr, xNot, xAndV, xOrV, xNotV, xIf, xYes, xTru, truD, xIsN, xNotN, nonD, xFld, xMeth, xMethX, xBM, xDGet, xDIn, xPart, xNoPart, xSl, nox_ok, toS_ok, finX, iR1, iR2, iL, iT, iE, iZ, xAug, xAssert, str_beq, insX, putFX, putX, valX, keyD_int, keyD_str, List.lookup, oInSet, xDisp, xPCons, xPNil, keysX, mergeX, rdL_app_ge, rdL_app_self, rdL_zero, rdL_succ, at_app_ge, at_app_self, at_zero, at_succ, wipeE, hr.app _ h, hcut, hg]
    refine wpe_allo h ?_
    intro q S h
    simp (decide := true) [wpe_ret, wpe_exc, wpe_bind, wps_nx, wps_ret, wps_bk, wps_ct, wps_exc, wps_bindS, wps_seq, wps_xSeq, wps_toS, wpe_nox, defQ_ret, defQ_exc, wps_if, cn_k, cn_x, cx_n, cx_q, wpe_lst, wpe_dnew, wps_xSetF, wps_xAugF, wps_xDPut, gSub_eq, wpe_xMake, wps_xFor, wps_xForE, wpe_xLc, loopQ_ct, loopQ_bk, loopQ_ret, loopQ_exc, wpe_iteBad, wps_iteBad, oIC_wp, bList_wp, bListT_wp, oSlL_wp, oCat_wp, bListD_wp, mkRg_wp, bSet_wp, xSortSet_wp, cDiv_lit, cMul_litL, cMul_litR, rngOk_lit, rngOk_m1, -bList_tup, iR3, xLRg1, xLRg2, xErrF, xIsE, xRaise, RS.unset, RS.noexc, xNext, xAsg, gNameX, gConsX, gNilX, gTupX, xVar, xC, xOp, xUn, oI_int, oNeg_int, xB, asB_bl, xRet, xRetN, xDrop, xBreak, xCont, xCons, xNil, xTup, xCB, xCall, xCallX, xAnd, xOr, xNot, xAndV, xOrV, xNotV, xIf, xYes, xTru, truD, xIsN, xNotN, nonD, xFld, xMeth, xMethX, xBM, xDGet, xDIn, xPart, xNoPart, xSl, nox_ok, toS_ok, finX, iR1, iR2, iL, iT, iE, iZ, xAug, xAssert, str_beq, insX, putFX, putX, valX, keyD_int, keyD_str, List.lookup, oInSet, xDisp, xPCons, xPNil, keysX, mergeX, rdL_app_ge, rdL_app_self, rdL_zero, rdL_succ, at_app_ge, at_app_self, at_zero, at_succ]
    refine wpe_k (dif_ok h (Mi.Rd.pt 0) (by omega)) ?_
    rintro _ S ⟨rfl, h⟩
    exact ⟨hg, h.drop⟩
  · intro p S h
    rw [wg] at h
    exact ⟨p, rfl, h⟩
theorem wsL_len {w : Nat} : (wsL ns w).length = ns.length := by simp [wsL]
theorem law_turn {w m du : Nat} {sz : Int} (h : Hs (pt du (.lst ((wsL ns w).map .int)) :: pt l (.lst (ns.map .int)) :: As) S) (hz : ns.length ≤ 55) (hw : 1 ≤ w ∧ w ≤ 100) (hm : 1 ≤ m ∧ m ≤ 100) (hsz : sz = (m : Int)) {o0 o2 o5 o7 o8 : Option D} {Q : RS → Prop} :
    wps (K := ⟨fun e S' => ∃ o7 o8, e = [o0, some (.ref l), o2, some (.int w), some (.ref du), o5, some (.int sz), o7, o8] ∧ Hs (pt du (.lst ((wsL ns w).map .int)) :: pt l (.lst (ns.map .int)) :: As) S', Q⟩) (f_law_b1 [o0, some (.ref l), o2, some (.int w), some (.ref du), o5, some (.int sz), o7, o8] S) := by
  subst hsz
  unfold f_law_b1
  simp (decide := true) [wpe_ret, wpe_exc, wpe_bind, wps_nx, wps_ret, wps_bk, wps_ct, wps_exc, wps_bindS, wps_seq, wps_xSeq, wps_toS, wpe_nox, defQ_ret, defQ_exc, wps_if, cn_k, cn_x, cx_n, cx_q, wpe_lst, wpe_dnew, wps_xSetF, wps_xAugF, wps_xDPut, gSub_eq, wpe_xMake, wps_xFor, wps_xForE, wpe_xLc, loopQ_ct, loopQ_bk, loopQ_ret, loopQ_exc, wpe_iteBad, wps_iteBad, oIC_wp, bList_wp, bListT_wp, oSlL_wp, oCat_wp, bListD_wp, mkRg_wp, bSet_wp, xSortSet_wp, cDiv_lit, cMul_litL, cMul_litR, rngOk_lit, rngOk_m1, -bList_tup, iR3, xLRg1, xLRg2, xErrF, xIsE, xRaise, RS.unset, RS.noexc, xNext, xAsg, gNameX, gConsX, gNilX, gTupX, xVar, xC, xOp, xUn, oI_int, oNeg_int, xB, asB_bl, xRet, xRetN, xDrop, xBreak, xCont, xCons, xNil, xTup, xCB, xCall, xCallX, xAnd, xOr, xNot, xAndV, xOrV, xNotV, xIf, xYes, xTru, truD, xIsN, xNotN, nonD, xFld, xMeth, xMethX, xBM, xDGet, xDIn, xPart, xNoPart, xSl, nox_ok, toS_ok, finX, iR1, iR2, iL, iT, iE, iZ, xAug, xAssert, str_beq, insX, putFX, putX, valX, keyD_int, keyD_str, List.lookup, oInSet, xDisp, xPCons, xPNil, keysX, mergeX, rdL_app_ge, rdL_app_self, rdL_zero, rdL_succ, at_app_ge, at_app_self, at_zero, at_succ, h.rp 1]
  refine wpe_allo h ?_
  intro hd S h
  simp (decide := true) [wpe_ret, wpe_exc, wpe_bind, wps_nx, wps_ret, wps_bk, wps_ct, wps_exc, wps_bindS, wps_seq, wps_xSeq, wps_toS, wpe_nox, defQ_ret, defQ_exc, wps_if, cn_k, cn_x, cx_n, cx_q, wpe_lst, wpe_dnew, wps_xSetF, wps_xAugF, wps_xDPut, gSub_eq, wpe_xMake, wps_xFor, wps_xForE, wpe_xLc, loopQ_ct, loopQ_bk, loopQ_ret, loopQ_exc, wpe_iteBad, wps_iteBad, oIC_wp, bList_wp, bListT_wp, oSlL_wp, oCat_wp, bListD_wp, mkRg_wp, bSet_wp, xSortSet_wp, cDiv_lit, cMul_litL, cMul_litR, rngOk_lit, rngOk_m1, -bList_tup, iR3, xLRg1, xLRg2, xErrF, xIsE, xRaise, RS.unset, RS.noexc, xNext, xAsg, gNameX, gConsX, gNilX, gTupX, xVar, xC, xOp, xUn, oI_int, oNeg_int, xB, asB_bl, xRet, xRetN, xDrop, xBreak, xCont, xCons, xNil, xTup, xCB, xCall, xCallX, xAnd, xOr, xNot, xAndV, xOrV, xNotV, xIf, xYes, xTru, truD, xIsN, xNotN, nonD, xFld, xMeth, xMethX, xBM, xDGet, xDIn, xPart, xNoPart, xSl, nox_ok, toS_ok, finX, iR1, iR2, iL, iT, iE, iZ, xAug, xAssert, str_beq, insX, putFX, putX, valX, keyD_int, keyD_str, List.lookup, oInSet, xDisp, xPCons, xPNil, keysX, mergeX, rdL_app_ge, rdL_app_self, rdL_zero, rdL_succ, at_app_ge, at_app_self, at_zero, at_succ]
  refine wpe_k (wset_ok h (Mi.Rd.pt 0) (by omega) hw) ?_
  rintro _ S ⟨td, rfl, h⟩
  have s1 := same_ints (h.rp 0) (h.rp 2) (by rw [wsL_len]; omega)
  have s2 := oEqD_ints (neg := true) (h.rp 1) (h.rp 3)
  simp (decide := true) [wpe_ret, wpe_exc, wpe_bind, wps_nx, wps_ret, wps_bk, wps_ct, wps_exc, wps_bindS, wps_seq, wps_xSeq, wps_toS, wpe_nox, defQ_ret, defQ_exc, wps_if, cn_k, cn_x, cx_n, cx_q, wpe_lst, wpe_dnew, wps_xSetF, wps_xAugF, wps_xDPut, gSub_eq, wpe_xMake, wps_xFor, wps_xForE, wpe_xLc, loopQ_ct, loopQ_bk, loopQ_ret, loopQ_exc, wpe_iteBad, wps_iteBad, oIC_wp, bList_wp, bListT_wp, oSlL_wp, oCat_wp, bListD_wp, mkRg_wp, bSet_wp, xSortSet_wp, cDiv_lit, cMul_litL, cMul_litR, rngOk_lit, rngOk_m1, -bList_tup, iR3, xLRg1, xLRg2, xErrF, xIsE, xRaise, RS.unset, RS.noexc, xNext, xAsg, gNameX, gConsX, gNilX, gTupX, xVar, xC, xOp, xUn, oI_int, oNeg_int, xB, asB_bl, xRet, xRetN, xDrop, xBreak, xCont, xCons, xNil, xTup, xCB, xCall, xCallX, xAnd, xOr, xNot, xAndV, xOrV, xNotV, xIf, xYes, xTru, truD, xIsN, xNotN, nonD, xFld, xMeth, xMethX, xBM, xDGet, xDIn, xPart, xNoPart, xSl, nox_ok, toS_ok, finX, iR1, iR2, iL, iT, iE, iZ, xAug, xAssert, str_beq, insX, putFX, putX, valX, keyD_int, keyD_str, List.lookup, oInSet, xDisp, xPCons, xPNil, keysX, mergeX, rdL_app_ge, rdL_app_self, rdL_zero, rdL_succ, at_app_ge, at_app_self, at_zero, at_succ, f_law_t1, s1, s2, isLst, h.rp 0]
  refine wpe_append h (by rw [List.length_map, wsL_len]; omega) ?_
  intro S h
  replace h := h.drop
  simp (decide := true) [wpe_ret, wpe_exc, wpe_bind, wps_nx, wps_ret, wps_bk, wps_ct, wps_exc, wps_bindS, wps_seq, wps_xSeq, wps_toS, wpe_nox, defQ_ret, defQ_exc, wps_if, cn_k, cn_x, cx_n, cx_q, wpe_lst, wpe_dnew, wps_xSetF, wps_xAugF, wps_xDPut, gSub_eq, wpe_xMake, wps_xFor, wps_xForE, wpe_xLc, loopQ_ct, loopQ_bk, loopQ_ret, loopQ_exc, wpe_iteBad, wps_iteBad, oIC_wp, bList_wp, bListT_wp, oSlL_wp, oCat_wp, bListD_wp, mkRg_wp, bSet_wp, xSortSet_wp, cDiv_lit, cMul_litL, cMul_litR, rngOk_lit, rngOk_m1, -bList_tup, iR3, xLRg1, xLRg2, xErrF, xIsE, xRaise, RS.unset, RS.noexc, xNext, xAsg, gNameX, gConsX, gNilX, gTupX, xVar, xC, xOp, xUn, oI_int, oNeg_int, xB, asB_bl, xRet, xRetN, xDrop, xBreak, xCont, xCons, xNil, xTup, xCB, xCall, xCallX, xAnd, xOr, xNot, xAndV, xOrV, xNotV, xIf, xYes, xTru, truD, xIsN, xNotN, nonD, xFld, xMeth, xMethX, xBM, xDGet, xDIn, xPart, xNoPart, xSl, nox_ok, toS_ok, finX, iR1, iR2, iL, iT, iE, iZ, xAug, xAssert, str_beq, insX, putFX, putX, valX, keyD_int, keyD_str, List.lookup, oInSet, xDisp, xPCons, xPNil, keysX, mergeX, rdL_app_ge, rdL_app_self, rdL_zero, rdL_succ, at_app_ge, at_app_self, at_zero, at_succ]
  refine wpe_k (phases_ok h (Mi.Rd.pt 0) hz hm) ?_
  rintro _ S ⟨td, rfl, h⟩
  simp (decide := true) [wpe_ret, wpe_exc, wpe_bind, wps_nx, wps_ret, wps_bk, wps_ct, wps_exc, wps_bindS, wps_seq, wps_xSeq, wps_toS, wpe_nox, defQ_ret, defQ_exc, wps_if, cn_k, cn_x, cx_n, cx_q, wpe_lst, wpe_dnew, wps_xSetF, wps_xAugF, wps_xDPut, gSub_eq, wpe_xMake, wps_xFor, wps_xForE, wpe_xLc, loopQ_ct, loopQ_bk, loopQ_ret, loopQ_exc, wpe_iteBad, wps_iteBad, oIC_wp, bList_wp, bListT_wp, oSlL_wp, oCat_wp, bListD_wp, mkRg_wp, bSet_wp, xSortSet_wp, cDiv_lit, cMul_litL, cMul_litR, rngOk_lit, rngOk_m1, -bList_tup, iR3, xLRg1, xLRg2, xErrF, xIsE, xRaise, RS.unset, RS.noexc, xNext, xAsg, gNameX, gConsX, gNilX, gTupX, xVar, xC, xOp, xUn, oI_int, oNeg_int, xB, asB_bl, xRet, xRetN, xDrop, xBreak, xCont, xCons, xNil, xTup, xCB, xCall, xCallX, xAnd, xOr, xNot, xAndV, xOrV, xNotV, xIf, xYes, xTru, truD, xIsN, xNotN, nonD, xFld, xMeth, xMethX, xBM, xDGet, xDIn, xPart, xNoPart, xSl, nox_ok, toS_ok, finX, iR1, iR2, iL, iT, iE, iZ, xAug, xAssert, str_beq, insX, putFX, putX, valX, keyD_int, keyD_str, List.lookup, oInSet, xDisp, xPCons, xPNil, keysX, mergeX, rdL_app_ge, rdL_app_self, rdL_zero, rdL_succ, at_app_ge, at_app_self, at_zero, at_succ, f_law_t2]
  refine wpe_k (stretch_ok h (Mi.Rd.pt 3) (by omega) hm) ?_
  rintro _ S ⟨tq, rfl, h⟩
  have gl := gr_len (ns := ns) hm.1 (i := ns.length)
  have s1 := same_ints (h.rp 1) (h.rp 0) (by omega)
  have s2 := oEqD_ints (neg := true) (h.rp 2) (h.rp 4)
  simp (decide := true) [wpe_ret, wpe_exc, wpe_bind, wps_nx, wps_ret, wps_bk, wps_ct, wps_exc, wps_bindS, wps_seq, wps_xSeq, wps_toS, wpe_nox, defQ_ret, defQ_exc, wps_if, cn_k, cn_x, cx_n, cx_q, wpe_lst, wpe_dnew, wps_xSetF, wps_xAugF, wps_xDPut, gSub_eq, wpe_xMake, wps_xFor, wps_xForE, wpe_xLc, loopQ_ct, loopQ_bk, loopQ_ret, loopQ_exc, wpe_iteBad, wps_iteBad, oIC_wp, bList_wp, bListT_wp, oSlL_wp, oCat_wp, bListD_wp, mkRg_wp, bSet_wp, xSortSet_wp, cDiv_lit, cMul_litL, cMul_litR, rngOk_lit, rngOk_m1, -bList_tup, iR3, xLRg1, xLRg2, xErrF, xIsE, xRaise, RS.unset, RS.noexc, xNext, xAsg, gNameX, gConsX, gNilX, gTupX, xVar, xC, xOp, xUn, oI_int, oNeg_int, xB, asB_bl, xRet, xRetN, xDrop, xBreak, xCont, xCons, xNil, xTup, xCB, xCall, xCallX, xAnd, xOr, xNot, xAndV, xOrV, xNotV, xIf, xYes, xTru, truD, xIsN, xNotN, nonD, xFld, xMeth, xMethX, xBM, xDGet, xDIn, xPart, xNoPart, xSl, nox_ok, toS_ok, finX, iR1, iR2, iL, iT, iE, iZ, xAug, xAssert, str_beq, insX, putFX, putX, valX, keyD_int, keyD_str, List.lookup, oInSet, xDisp, xPCons, xPNil, keysX, mergeX, rdL_app_ge, rdL_app_self, rdL_zero, rdL_succ, at_app_ge, at_app_self, at_zero, at_succ, s1, s2, len_ok (h.rp 1)]
  refine wpe_k (fewest_ok h (Mi.Rd.pt 4) hz hm) ?_
  rintro _ S ⟨rfl, h⟩
  replace h := h.drop
  have e : (gi (Gr ns m ns.length)).length = Bn ns m ns.length := gi_len
  simp (decide := true) [wpe_ret, wpe_exc, wpe_bind, wps_nx, wps_ret, wps_bk, wps_ct, wps_exc, wps_bindS, wps_seq, wps_xSeq, wps_toS, wpe_nox, defQ_ret, defQ_exc, wps_if, cn_k, cn_x, cx_n, cx_q, wpe_lst, wpe_dnew, wps_xSetF, wps_xAugF, wps_xDPut, gSub_eq, wpe_xMake, wps_xFor, wps_xForE, wpe_xLc, loopQ_ct, loopQ_bk, loopQ_ret, loopQ_exc, wpe_iteBad, wps_iteBad, oIC_wp, bList_wp, bListT_wp, oSlL_wp, oCat_wp, bListD_wp, mkRg_wp, bSet_wp, xSortSet_wp, cDiv_lit, cMul_litL, cMul_litR, rngOk_lit, rngOk_m1, -bList_tup, iR3, xLRg1, xLRg2, xErrF, xIsE, xRaise, RS.unset, RS.noexc, xNext, xAsg, gNameX, gConsX, gNilX, gTupX, xVar, xC, xOp, xUn, oI_int, oNeg_int, xB, asB_bl, xRet, xRetN, xDrop, xBreak, xCont, xCons, xNil, xTup, xCB, xCall, xCallX, xAnd, xOr, xNot, xAndV, xOrV, xNotV, xIf, xYes, xTru, truD, xIsN, xNotN, nonD, xFld, xMeth, xMethX, xBM, xDGet, xDIn, xPart, xNoPart, xSl, nox_ok, toS_ok, finX, iR1, iR2, iL, iT, iE, iZ, xAug, xAssert, str_beq, insX, putFX, putX, valX, keyD_int, keyD_str, List.lookup, oInSet, xDisp, xPCons, xPNil, keysX, mergeX, rdL_app_ge, rdL_app_self, rdL_zero, rdL_succ, at_app_ge, at_app_self, at_zero, at_succ, e, isLst, h.rp 0]
  refine wpe_append h (by rw [List.length_map]; omega) ?_
  intro S h
  exact ⟨_, _, rfl, h.drop.drop⟩
end
theorem law_sp : ∀ (o : O) (ns : List Int), (o = .lst (ns.map .int) ∨ o = .rol (ns.map .int)) → ns.length ≤ 63 → ∃ S', f_law [.ref 0] [o] = .ok (.bl true) S' := by
  intro o ns ho hl
  have h : Hs [rl 0 (ns.map .int)] [o] := Hs.oneRl (by rcases ho with rfl | rfl <;> rfl)
  generalize [o] = S at h
  suffices Ok (f_law [.ref 0] S) (fun v _ => v = .bl true) by
    obtain ⟨v, S', e, rfl⟩ := this.ex
    exact ⟨S', e⟩
  rw [f_law_eq]
  refine Ok.def rfl ?_
  simp (decide := true) [wpe_ret, wpe_exc, wpe_bind, wps_nx, wps_ret, wps_bk, wps_ct, wps_exc, wps_bindS, wps_seq, wps_xSeq, wps_toS, wpe_nox, defQ_ret, defQ_exc, wps_if, cn_k, cn_x, cx_n, cx_q, wpe_lst, wpe_dnew, wps_xSetF, wps_xAugF, wps_xDPut, gSub_eq, wpe_xMake, wps_xFor, wps_xForE, wpe_xLc, loopQ_ct, loopQ_bk, loopQ_ret, loopQ_exc, wpe_iteBad, wps_iteBad, oIC_wp, bList_wp, bListT_wp, oSlL_wp, oCat_wp, bListD_wp, mkRg_wp, bSet_wp, xSortSet_wp, cDiv_lit, cMul_litL, cMul_litR, rngOk_lit, rngOk_m1, -bList_tup, iR3, xLRg1, xLRg2, xErrF, xIsE, xRaise, RS.unset, RS.noexc, xNext, xAsg, gNameX, gConsX, gNilX, gTupX, xVar, xC, xOp, xUn, oI_int, oNeg_int, xB, asB_bl, xRet, xRetN, xDrop, xBreak, xCont, xCons, xNil, xTup, xCB, xCall, xCallX, xAnd, xOr, xNot, xAndV, xOrV, xNotV, xIf, xYes, xTru, truD, xIsN, xNotN, nonD, xFld, xMeth, xMethX, xBM, xDGet, xDIn, xPart, xNoPart, xSl, nox_ok, toS_ok, finX, iR1, iR2, iL, iT, iE, iZ, xAug, xAssert, str_beq, insX, putFX, putX, valX, keyD_int, keyD_str, List.lookup, oInSet, xDisp, xPCons, xPNil, keysX, mergeX, rdL_app_ge, rdL_app_self, rdL_zero, rdL_succ, at_app_ge, at_app_self, at_zero, at_succ]
  refine wpe_k (names_ok h (Mi.Rd.rl 0) hl (by omega)) ?_
  rintro _ S ⟨nm, xs, rfl, h, x0, x1⟩
  simp (decide := true) [wpe_ret, wpe_exc, wpe_bind, wps_nx, wps_ret, wps_bk, wps_ct, wps_exc, wps_bindS, wps_seq, wps_xSeq, wps_toS, wpe_nox, defQ_ret, defQ_exc, wps_if, cn_k, cn_x, cx_n, cx_q, wpe_lst, wpe_dnew, wps_xSetF, wps_xAugF, wps_xDPut, gSub_eq, wpe_xMake, wps_xFor, wps_xForE, wpe_xLc, loopQ_ct, loopQ_bk, loopQ_ret, loopQ_exc, wpe_iteBad, wps_iteBad, oIC_wp, bList_wp, bListT_wp, oSlL_wp, oCat_wp, bListD_wp, mkRg_wp, bSet_wp, xSortSet_wp, cDiv_lit, cMul_litL, cMul_litR, rngOk_lit, rngOk_m1, -bList_tup, iR3, xLRg1, xLRg2, xErrF, xIsE, xRaise, RS.unset, RS.noexc, xNext, xAsg, gNameX, gConsX, gNilX, gTupX, xVar, xC, xOp, xUn, oI_int, oNeg_int, xB, asB_bl, xRet, xRetN, xDrop, xBreak, xCont, xCons, xNil, xTup, xCB, xCall, xCallX, xAnd, xOr, xNot, xAndV, xOrV, xNotV, xIf, xYes, xTru, truD, xIsN, xNotN, nonD, xFld, xMeth, xMethX, xBM, xDGet, xDIn, xPart, xNoPart, xSl, nox_ok, toS_ok, finX, iR1, iR2, iL, iT, iE, iZ, xAug, xAssert, str_beq, insX, putFX, putX, valX, keyD_int, keyD_str, List.lookup, oInSet, xDisp, xPCons, xPNil, keysX, mergeX, rdL_app_ge, rdL_app_self, rdL_zero, rdL_succ, at_app_ge, at_app_self, at_zero, at_succ]
  refine wpe_k (trace_ok h (Mi.Rd.rl 1) hl (Mi.Rd.pt 0) ⟨x0, x1⟩) ?_
  rintro _ S ⟨tr, ts, rfl, h, tz⟩
  simp (decide := true) [wpe_ret, wpe_exc, wpe_bind, wps_nx, wps_ret, wps_bk, wps_ct, wps_exc, wps_bindS, wps_seq, wps_xSeq, wps_toS, wpe_nox, defQ_ret, defQ_exc, wps_if, cn_k, cn_x, cx_n, cx_q, wpe_lst, wpe_dnew, wps_xSetF, wps_xAugF, wps_xDPut, gSub_eq, wpe_xMake, wps_xFor, wps_xForE, wpe_xLc, loopQ_ct, loopQ_bk, loopQ_ret, loopQ_exc, wpe_iteBad, wps_iteBad, oIC_wp, bList_wp, bListT_wp, oSlL_wp, oCat_wp, bListD_wp, mkRg_wp, bSet_wp, xSortSet_wp, cDiv_lit, cMul_litL, cMul_litR, rngOk_lit, rngOk_m1, -bList_tup, iR3, xLRg1, xLRg2, xErrF, xIsE, xRaise, RS.unset, RS.noexc, xNext, xAsg, gNameX, gConsX, gNilX, gTupX, xVar, xC, xOp, xUn, oI_int, oNeg_int, xB, asB_bl, xRet, xRetN, xDrop, xBreak, xCont, xCons, xNil, xTup, xCB, xCall, xCallX, xAnd, xOr, xNot, xAndV, xOrV, xNotV, xIf, xYes, xTru, truD, xIsN, xNotN, nonD, xFld, xMeth, xMethX, xBM, xDGet, xDIn, xPart, xNoPart, xSl, nox_ok, toS_ok, finX, iR1, iR2, iL, iT, iE, iZ, xAug, xAssert, str_beq, insX, putFX, putX, valX, keyD_int, keyD_str, List.lookup, oInSet, xDisp, xPCons, xPNil, keysX, mergeX, rdL_app_ge, rdL_app_self, rdL_zero, rdL_succ, at_app_ge, at_app_self, at_zero, at_succ]
  refine wpe_k (num_ok (h.rd 2) hl (by unfold NumOk; omega)) ?_
  rintro _ S ⟨rfl, m, rfl, m0, m1⟩
  simp (decide := true) [wpe_ret, wpe_exc, wpe_bind, wps_nx, wps_ret, wps_bk, wps_ct, wps_exc, wps_bindS, wps_seq, wps_xSeq, wps_toS, wpe_nox, defQ_ret, defQ_exc, wps_if, cn_k, cn_x, cx_n, cx_q, wpe_lst, wpe_dnew, wps_xSetF, wps_xAugF, wps_xDPut, gSub_eq, wpe_xMake, wps_xFor, wps_xForE, wpe_xLc, loopQ_ct, loopQ_bk, loopQ_ret, loopQ_exc, wpe_iteBad, wps_iteBad, oIC_wp, bList_wp, bListT_wp, oSlL_wp, oCat_wp, bListD_wp, mkRg_wp, bSet_wp, xSortSet_wp, cDiv_lit, cMul_litL, cMul_litR, rngOk_lit, rngOk_m1, -bList_tup, iR3, xLRg1, xLRg2, xErrF, xIsE, xRaise, RS.unset, RS.noexc, xNext, xAsg, gNameX, gConsX, gNilX, gTupX, xVar, xC, xOp, xUn, oI_int, oNeg_int, xB, asB_bl, xRet, xRetN, xDrop, xBreak, xCont, xCons, xNil, xTup, xCB, xCall, xCallX, xAnd, xOr, xNot, xAndV, xOrV, xNotV, xIf, xYes, xTru, truD, xIsN, xNotN, nonD, xFld, xMeth, xMethX, xBM, xDGet, xDIn, xPart, xNoPart, xSl, nox_ok, toS_ok, finX, iR1, iR2, iL, iT, iE, iZ, xAug, xAssert, str_beq, insX, putFX, putX, valX, keyD_int, keyD_str, List.lookup, oInSet, xDisp, xPCons, xPNil, keysX, mergeX, rdL_app_ge, rdL_app_self, rdL_zero, rdL_succ, at_app_ge, at_app_self, at_zero, at_succ]
  refine wpe_k (num_ok (h.rd 2) hl (by unfold NumOk; omega)) ?_
  rintro _ S ⟨rfl, w, rfl, w0, w1⟩
  obtain ⟨m', rfl⟩ : ∃ m' : Nat, m = (m' : Int) - 1 := ⟨(1 + m).toNat, by omega⟩
  obtain ⟨w', rfl⟩ : ∃ w' : Nat, w = (w' : Int) - 1 := ⟨(1 + w).toNat, by omega⟩
  simp (decide := true) [wpe_ret, wpe_exc, wpe_bind, wps_nx, wps_ret, wps_bk, wps_ct, wps_exc, wps_bindS, wps_seq, wps_xSeq, wps_toS, wpe_nox, defQ_ret, defQ_exc, wps_if, cn_k, cn_x, cx_n, cx_q, wpe_lst, wpe_dnew, wps_xSetF, wps_xAugF, wps_xDPut, gSub_eq, wpe_xMake, wps_xFor, wps_xForE, wpe_xLc, loopQ_ct, loopQ_bk, loopQ_ret, loopQ_exc, wpe_iteBad, wps_iteBad, oIC_wp, bList_wp, bListT_wp, oSlL_wp, oCat_wp, bListD_wp, mkRg_wp, bSet_wp, xSortSet_wp, cDiv_lit, cMul_litL, cMul_litR, rngOk_lit, rngOk_m1, -bList_tup, iR3, xLRg1, xLRg2, xErrF, xIsE, xRaise, RS.unset, RS.noexc, xNext, xAsg, gNameX, gConsX, gNilX, gTupX, xVar, xC, xOp, xUn, oI_int, oNeg_int, xB, asB_bl, xRet, xRetN, xDrop, xBreak, xCont, xCons, xNil, xTup, xCB, xCall, xCallX, xAnd, xOr, xNot, xAndV, xOrV, xNotV, xIf, xYes, xTru, truD, xIsN, xNotN, nonD, xFld, xMeth, xMethX, xBM, xDGet, xDIn, xPart, xNoPart, xSl, nox_ok, toS_ok, finX, iR1, iR2, iL, iT, iE, iZ, xAug, xAssert, str_beq, insX, putFX, putX, valX, keyD_int, keyD_str, List.lookup, oInSet, xDisp, xPCons, xPNil, keysX, mergeX, rdL_app_ge, rdL_app_self, rdL_zero, rdL_succ, at_app_ge, at_app_self, at_zero, at_succ, show (1 : Int) + ((m' : Int) - 1) = m' by omega, show (1 : Int) + ((w' : Int) - 1) = w' by omega]
  refine wpe_k (due_ok h (Mi.Rd.pt 0) (by omega) (w := w') (by omega)) ?_
  rintro _ S ⟨du, rfl, h⟩
  simp (decide := true) [wpe_ret, wpe_exc, wpe_bind, wps_nx, wps_ret, wps_bk, wps_ct, wps_exc, wps_bindS, wps_seq, wps_xSeq, wps_toS, wpe_nox, defQ_ret, defQ_exc, wps_if, cn_k, cn_x, cx_n, cx_q, wpe_lst, wpe_dnew, wps_xSetF, wps_xAugF, wps_xDPut, gSub_eq, wpe_xMake, wps_xFor, wps_xForE, wpe_xLc, loopQ_ct, loopQ_bk, loopQ_ret, loopQ_exc, wpe_iteBad, wps_iteBad, oIC_wp, bList_wp, bListT_wp, oSlL_wp, oCat_wp, bListD_wp, mkRg_wp, bSet_wp, xSortSet_wp, cDiv_lit, cMul_litL, cMul_litR, rngOk_lit, rngOk_m1, -bList_tup, iR3, xLRg1, xLRg2, xErrF, xIsE, xRaise, RS.unset, RS.noexc, xNext, xAsg, gNameX, gConsX, gNilX, gTupX, xVar, xC, xOp, xUn, oI_int, oNeg_int, xB, asB_bl, xRet, xRetN, xDrop, xBreak, xCont, xCons, xNil, xTup, xCB, xCall, xCallX, xAnd, xOr, xNot, xAndV, xOrV, xNotV, xIf, xYes, xTru, truD, xIsN, xNotN, nonD, xFld, xMeth, xMethX, xBM, xDGet, xDIn, xPart, xNoPart, xSl, nox_ok, toS_ok, finX, iR1, iR2, iL, iT, iE, iZ, xAug, xAssert, str_beq, insX, putFX, putX, valX, keyD_int, keyD_str, List.lookup, oInSet, xDisp, xPCons, xPNil, keysX, mergeX, rdL_app_ge, rdL_app_self, rdL_zero, rdL_succ, at_app_ge, at_app_self, at_zero, at_succ, f_law_l1]
  refine wpe_allo h ?_
  intro sz S h
  simp (decide := true) [wpe_ret, wpe_exc, wpe_bind, wps_nx, wps_ret, wps_bk, wps_ct, wps_exc, wps_bindS, wps_seq, wps_xSeq, wps_toS, wpe_nox, defQ_ret, defQ_exc, wps_if, cn_k, cn_x, cx_n, cx_q, wpe_lst, wpe_dnew, wps_xSetF, wps_xAugF, wps_xDPut, gSub_eq, wpe_xMake, wps_xFor, wps_xForE, wpe_xLc, loopQ_ct, loopQ_bk, loopQ_ret, loopQ_exc, wpe_iteBad, wps_iteBad, oIC_wp, bList_wp, bListT_wp, oSlL_wp, oCat_wp, bListD_wp, mkRg_wp, bSet_wp, xSortSet_wp, cDiv_lit, cMul_litL, cMul_litR, rngOk_lit, rngOk_m1, -bList_tup, iR3, xLRg1, xLRg2, xErrF, xIsE, xRaise, RS.unset, RS.noexc, xNext, xAsg, gNameX, gConsX, gNilX, gTupX, xVar, xC, xOp, xUn, oI_int, oNeg_int, xB, asB_bl, xRet, xRetN, xDrop, xBreak, xCont, xCons, xNil, xTup, xCB, xCall, xCallX, xAnd, xOr, xNot, xAndV, xOrV, xNotV, xIf, xYes, xTru, truD, xIsN, xNotN, nonD, xFld, xMeth, xMethX, xBM, xDGet, xDIn, xPart, xNoPart, xSl, nox_ok, toS_ok, finX, iR1, iR2, iL, iT, iE, iZ, xAug, xAssert, str_beq, insX, putFX, putX, valX, keyD_int, keyD_str, List.lookup, oInSet, xDisp, xPCons, xPNil, keysX, mergeX, rdL_app_ge, rdL_app_self, rdL_zero, rdL_succ, at_app_ge, at_app_self, at_zero, at_succ, h.rp 0]
  refine wps_loop (fun i env S => ∃ o6 o7 o8, env = [some (.ref 0), some (.ref tr), some (.int m'), some (.int w'), some (.ref du), none, o6, o7, o8] ∧ Hs (pt du (.lst ((wsL ts w').map .int)) :: pt tr (.lst (ts.map .int)) :: pt sz (.lst [.int m', .int (m' + 2), .int m']) :: []) S) ⟨_, _, _, rfl, ?_⟩ ?_ ?_ ?_
  · exact (((((h.up 3).drop.up 3).drop.up 1).up 2).up 1)
  · rintro i e S ⟨o6, o7, o8, rfl, h⟩
    exact h.rp 2
  · rintro i x env S hx ⟨o6, o7, o8, rfl, h⟩
    obtain ⟨z, rfl, hz⟩ : ∃ z : Nat, x = .int (z : Int) ∧ (z = m' ∨ z = m' + 2) := by
      rcases i with _ | _ | _ | i
      · cases hx
        exact ⟨m', rfl, .inl rfl⟩
      · cases hx
        exact ⟨m' + 2, rfl, .inr rfl⟩
      · cases hx
        exact ⟨m', rfl, .inl rfl⟩
      · cases hx
    simp (decide := true) [wpe_ret, wpe_exc, wpe_bind, wps_nx, wps_ret, wps_bk, wps_ct, wps_exc, wps_bindS, wps_seq, wps_xSeq, wps_toS, wpe_nox, defQ_ret, defQ_exc, wps_if, cn_k, cn_x, cx_n, cx_q, wpe_lst, wpe_dnew, wps_xSetF, wps_xAugF, wps_xDPut, gSub_eq, wpe_xMake, wps_xFor, wps_xForE, wpe_xLc, loopQ_ct, loopQ_bk, loopQ_ret, loopQ_exc, wpe_iteBad, wps_iteBad, oIC_wp, bList_wp, bListT_wp, oSlL_wp, oCat_wp, bListD_wp, mkRg_wp, bSet_wp, xSortSet_wp, cDiv_lit, cMul_litL, cMul_litR, rngOk_lit, rngOk_m1, -bList_tup, iR3, xLRg1, xLRg2, xErrF, xIsE, xRaise, RS.unset, RS.noexc, xNext, xAsg, gNameX, gConsX, gNilX, gTupX, xVar, xC, xOp, xUn, oI_int, oNeg_int, xB, asB_bl, xRet, xRetN, xDrop, xBreak, xCont, xCons, xNil, xTup, xCB, xCall, xCallX, xAnd, xOr, xNot, xAndV, xOrV, xNotV, xIf, xYes, xTru, truD, xIsN, xNotN, nonD, xFld, xMeth, xMethX, xBM, xDGet, xDIn, xPart, xNoPart, xSl, nox_ok, toS_ok, finX, iR1, iR2, iL, iT, iE, iZ, xAug, xAssert, str_beq, insX, putFX, putX, valX, keyD_int, keyD_str, List.lookup, oInSet, xDisp, xPCons, xPNil, keysX, mergeX, rdL_app_ge, rdL_app_self, rdL_zero, rdL_succ, at_app_ge, at_app_self, at_zero, at_succ]
    refine wps_k (Q := fun _ => False) (law_turn h (by omega) (by omega) (by omega) rfl (m := z)) ?_ (fun _ z => z.elim)
    rintro _ S ⟨o7, o8, rfl, h⟩
    exact ⟨_, _, _, rfl, h⟩
  · rintro _ S ⟨o6, o7, o8, rfl, h⟩
    simp (decide := true) [wpe_ret, wpe_exc, wpe_bind, wps_nx, wps_ret, wps_bk, wps_ct, wps_exc, wps_bindS, wps_seq, wps_xSeq, wps_toS, wpe_nox, defQ_ret, defQ_exc, wps_if, cn_k, cn_x, cx_n, cx_q, wpe_lst, wpe_dnew, wps_xSetF, wps_xAugF, wps_xDPut, gSub_eq, wpe_xMake, wps_xFor, wps_xForE, wpe_xLc, loopQ_ct, loopQ_bk, loopQ_ret, loopQ_exc, wpe_iteBad, wps_iteBad, oIC_wp, bList_wp, bListT_wp, oSlL_wp, oCat_wp, bListD_wp, mkRg_wp, bSet_wp, xSortSet_wp, cDiv_lit, cMul_litL, cMul_litR, rngOk_lit, rngOk_m1, -bList_tup, iR3, xLRg1, xLRg2, xErrF, xIsE, xRaise, RS.unset, RS.noexc, xNext, xAsg, gNameX, gConsX, gNilX, gTupX, xVar, xC, xOp, xUn, oI_int, oNeg_int, xB, asB_bl, xRet, xRetN, xDrop, xBreak, xCont, xCons, xNil, xTup, xCB, xCall, xCallX, xAnd, xOr, xNot, xAndV, xOrV, xNotV, xIf, xYes, xTru, truD, xIsN, xNotN, nonD, xFld, xMeth, xMethX, xBM, xDGet, xDIn, xPart, xNoPart, xSl, nox_ok, toS_ok, finX, iR1, iR2, iL, iT, iE, iZ, xAug, xAssert, str_beq, insX, putFX, putX, valX, keyD_int, keyD_str, List.lookup, oInSet, xDisp, xPCons, xPNil, keysX, mergeX, rdL_app_ge, rdL_app_self, rdL_zero, rdL_succ, at_app_ge, at_app_self, at_zero, at_succ]
end

theorem fn_lawS {P : Program} {w : World} {K : PySem.W.Frag} {mg : Str → Option Value} {base : Heap} (T : TX K mg) : ∃ fd, FunD K "law" "law" (defArgs s_law) (defBody s_law) (defScope s_law) [] [] (He.ga K "law") fd ∧ FnOk P w K mg base CX0 (6) (He.ga K "law") fd ["_law_script"] (My.spLaw K) := by
  obtain ⟨fd, F, h⟩ := fn_law (P := P) (w := w) (base := base) T
  exact ⟨fd, F, h.imp (Mi.law_in law_sp)⟩
/-! ### the head -/
def loose : List PySem.Str := (["working_set", "phases", "is_parting", "_law_number", "_law_is_whole", "_law_same", "_law_names", "_law_trace", "_law_different", "_law_stretches", "_law_fewest_stretches"] : List PySem.Str)
abbrev R : PySem.W.OpenRow := PySem.W.OpenLaw.row PySem.Challenge.rw_lentpages_k24_phases
abbrev hk : PySem.W.Hook := He.hookD 5 fas fns
def ob (s : PySem.W.SharedT) : He.AlD := He.obsDG 5 fas fns (HandSHeadRun.getT s)
theorem ob_eq (s : PySem.W.SharedT) : ob s = hk.obs s.abs := He.obsDG_eq (HandSHeadRun.getT_eq s)
theorem run (w : World) : HandSHeadRun.RunEq R (PySem.W.view R.prog [13]) hk ob 20000 loose w := by
  intro os
  kernel_rfl
end Law
open PySem PySem.W PySem.Calls PyProof.Rows
theorem PySem.Challenge.cw_lentpages_k24_phases_holds : PySem.Challenge.rw_lentpages_k24_phases.Holds := by
  w_on; o_law
  refine HandSHeadRun.head_any (r := OpenLaw.row PySem.Challenge.rw_lentpages_k24_phases) (q := view (OpenLaw.row PySem.Challenge.rw_lentpages_k24_phases).prog [13]) (H := Law.hk) (ob := Law.ob) (M := 20000) (loose := Law.loose) (d := HandSHeadRun.topDef (OpenLaw.row PySem.Challenge.rw_lentpages_k24_phases).prog 13) (kwd := []) Law.ob_eq
    (by kernel_rfl) (fun s => by kernel_rfl) Law.run (by kernel_rfl) (by kernel_rfl) (by kernel_rfl) (by rfl) (by first | assumption | decide +kernel) (by decide +kernel) ⟨rfl, rfl, rfl, rfl, rfl, by decide +kernel⟩ ?hw ?hc
  case hw => w_witness2
  case hc =>
    refine L2.walk_ofE (l := PySem.Challenge.rw_lentpages_k24_phases) (n := 63) (k := 6) (x := "_law_script") (CX := L2.CX0) rfl (by decide) (by kernel_rfl) ⟨rfl, by decide, by decide⟩ ?F (fun _ _ _ _ z => z)
    intro w mg fa h Y G hmg0
    obtain ⟨K, KX, c⟩ := Y
    have hmg : mg ("law" : PySem.Str) = some (.ref fa) := by
      have e : (HandSHeadRun.topDef (OpenLaw.row PySem.Challenge.rw_lentpages_k24_phases).prog 13).name = ("law" : PySem.Str) := by kernel_rfl
      rw [← e]
      exact hmg0
    have T : Law.TX K mg := My.Tx.mk' KX G c
    have e := hmg.symm.trans (Law.gl_law T)
    cases e
    obtain ⟨fd, F, _⟩ := Law.fn_lawS (P := (PySem.Challenge.rw_lentpages_k24_phases).prog) (w := w) (base := h) T
    exact ⟨K, fd, My.spLaw K, KX, fun s v => L2.FunD.bindsA (ps := ["_law_script"]) F (fun _ _ _ _ _ _ us hl => match us, hl with | [_], _ => rfl) s [v] rfl, fun H a ns hl _ hS => ⟨a, ns, rfl, hS, hl, fun _ => rfl⟩, fun base _ _ => by
      obtain ⟨fd2, F2, h2⟩ := Law.fn_lawS (P := (PySem.Challenge.rw_lentpages_k24_phases).prog) (w := w) (base := base) T
      have ef := My.FunD.same F F2
      subst ef
      exact h2⟩
#print axioms PySem.Challenge.cw_lentpages_k24_phases_holds
