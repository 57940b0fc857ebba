import PyProof.Rows.All
import Wide.All
import OpenK.AllK
import Wide.FinOn
import PyProof.EqAt
import PyProof.EqKinds
import PyProof.TupleCall
import KE.KStateDown
import Lean
import HandS.ForMost
import HandS.Evl
import HandS.Steps
import HandS.Wide
import HandS.IsInst
import HandS.Defaults
import HandS.Flow
import HandS.HeadEnd
import HandS.HeadHook1
import HandS.HeadHook2
import HandS.Head0
import HandS.Head1
import HandS.Head2
import HandS.Exc
import HandS.ExcOwn
import HandS.ExcInit
import HandS.ExcField
import HandS.ExcIs
import HandS.FStr
import HandS.TryMany
import HandS.TryOnly
import HandS.HeadHook3
import HandS.HeadHook4
import KE.KExcIs
import OpenK.KCls
import HandS.Rev
import HandS.Zip
import HandS.DictComp
import HandS.StrMore
import HandS.More
import HandS.Conv
import PyProof.StrOps2
import PyProof.FitsStr
import PySem.Challenge.RW_lentpages_k29_device
set_option Elab.async false
set_option linter.all false
set_option maxRecDepth 100000
set_option maxHeartbeats 4000000
namespace My
open PySem PySem.Spec PyProof.Rows L2 Evl
/-! ### a def by its name -/
structure DefOk (P : Program) (w : World) (K : PySem.W.Frag) (mg : Str → Option Value) (base : Heap) (k : Nat) (x : Str) (ps : List Str) (dvs : List V) (sp : Sp) : Prop where
  ex : ∃ (f : Addr) (fd : FuncData) (ds : List Value), mg x = some (.ref f) ∧ PySem.W.keepIn K (.ref f) = true ∧ Binds K fd ps ds ∧ Vals dvs ds ∧ FnOk P w K mg base CX0 k f fd ps sp
section
variable {X : Cx} {k j : Nat} {x : Str} {ps : List Str} {dvs : List V} {sp : Sp} {p pos : Pos} {e : Expr} {es : List Expr} {t : TA}
theorem pe_callN (D : DefOk X.prog X.w X.K X.mg X.base k x ps dvs sp) (hr : Room j X.A)
    (ha : PA X (e :: es) t) (hk : k ≤ j := by decide) (hg : Gl X x := by rfl) (hdb : (x == ("__debug__" : Str)) = false := by decide) (he : starEach (e :: es) X.env = (false, eval e X.env) :: starEach es X.env := by rfl) (hpl : (backTo pos (starEach es X.env)).any (·.1) = false := by rfl) :
    PE X (.Call (.Name x p) (e :: es) [] pos) (tCall sp dvs E0 t) := by
  obtain ⟨f, fd, ds, h1, h2, h3, h4, h5⟩ := D.ex
  exact pe_call h5 (hr.mono hk) hg h1 h2 h3 h4 pass0 ha hdb he hpl
theorem pe_callN0 (D : DefOk X.prog X.w X.K X.mg X.base k x ps dvs sp) (hr : Room j X.A)
    (hk : k ≤ j := by decide) (hg : Gl X x := by rfl) (hdb : (x == ("__debug__" : Str)) = false := by decide) :
    PE X (.Call (.Name x p) [] [] pos) (tCall sp dvs E0 tNil) := by
  obtain ⟨f, fd, ds, h1, h2, h3, h4, h5⟩ := D.ex
  exact pe_call0 h5 (hr.mono hk) hg h1 h2 h3 h4 pass0 hdb
end
theorem DefOk.of {P : Program} {w : World} {K : PySem.W.Frag} {mg : Str → Option Value} {base : Heap} {k : Nat} {x : Str} {ps : List Str} {sp : Sp} {st : Stmt} {fd : FuncData} {f : Addr} (F : FunD K x x (defArgs st) (defBody st) (defScope st) [] [] f fd)
    (g : mg x = some (.ref f)) (b : Binds K fd ps []) (h : FnOk P w K mg base CX0 k f fd ps sp) : DefOk P w K mg base k x ps [] sp := ⟨f, fd, [], g, F.kp, b, .nil, h⟩
theorem FunD.ok0 {P : Program} {w : World} {K : PySem.W.Frag} {mg : Str → Option Value} {base : Heap} {x qual : Str} {params : Arguments} {body : List Stmt} {scope : Scope} {dvs : List V} {kws : List (Str × V)} {f : Addr} {fd : FuncData}
    {N ps : List Str} {k : Nat} {sp : Sp} (F : FunD K x qual params body scope dvs kws f fd) (S : FnScope N ps scope) (len : ∀ vs H Q E, sp vs H Q E → vs.length = ps.length)
    (hbody : ∀ (cdv : Value) (A : Around) (outer : List Env) (s : Shared) (H : Hp) (vs : List V) (Q : VK) (E : XK), Room k (A.deeper (envOfC qual scope s.heap.objs.size f cdv)) → sp vs H Q E →
      ∃ t, PSs (cxOf CX0 P w K mg base N qual scope f cdv A outer s H E).nox body t ∧ t { nx := fun _ H' => Q .non H', rt := Q } (start N vs) H) : FnOk P w K mg base CX0 (k + 1) f fd ps sp :=
  F.ok S len fun cdv A outer s H vs Q E hr h => by
    obtain ⟨t, h1, h2⟩ := hbody cdv A outer s H vs Q E hr h
    exact ⟨t, h1.nox, h2⟩
/-! ### the facts of a top by names -/
structure Tx (fa : List He.Fa) (fn : List He.DefD) (K : PySem.W.Frag) (mg : Str → Option Value) : Prop where
  says : He.SaysD fa fn K
  glo : ∀ x, (He.Fa.glo x).ok K = true → mg x = some (.ref (He.ga K x))
  fre : ∀ x, (He.Fa.free x).ok K = true → mg x = none
theorem Tx.mk' {fa : List He.Fa} {fn : List He.DefD} {K : PySem.W.Frag} {h : Heap} {mg : Str → Option Value} (X : K.In h) (G : h.Ns mainGlobals mg) (c : He.SaysD fa fn K) : Tx fa fn K mg :=
  ⟨c, fun _ h => He.glo_ok X G h, fun _ h => He.free_ok X G h⟩
/-! ### rules with their fragment named (within a block X.K is not seen as K) -/
def rLenQ (K : PySem.W.Frag) : List V → Hp → VK → Prop := fun xs H Q => ∃ p ys, xs = [.ref p] ∧ (SqL K H p ys ∨ SqT K H p ys) ∧ Q (.int ys.length) H
def rListQ (K : PySem.W.Frag) : List V → Hp → VK → Prop := fun xs H Q => ∃ p ys, xs = [.ref p] ∧ (SqL K H p ys ∨ SqT K H p ys) ∧ ∀ l, H l = none → Q (.ref l) (upd H l (.lst ys))
def rTupQ (K : PySem.W.Frag) : List V → Hp → VK → Prop := fun xs H Q => ∃ p ys, xs = [.ref p] ∧ ((SqL K H p ys ∧ ∀ l, H l = none → Q (.ref l) (upd H l (.tup ys))) ∨ (SqT K H p ys ∧ Q (.ref p) H))
section
variable {X : Cx} {K : PySem.W.Frag}
theorem ixL (K : PySem.W.Frag) (h : X.K = K := by rfl) : IxR X (rIxL K) := h ▸ ix_list
theorem ixT (K : PySem.W.Frag) (h : X.K = K := by rfl) : IxR X (rIxT K) := h ▸ ix_tup
theorem ixQ (K : PySem.W.Frag) (h : X.K = K := by rfl) : IxR X (rIx K) := h ▸ ix_seq
theorem inQ (K : PySem.W.Frag) (h : X.K = K := by rfl) : OpR X (compareOp .In) (rIn K false) := h ▸ op_in_seq
theorem niQ (K : PySem.W.Frag) (h : X.K = K := by rfl) : OpR X (compareOp .NotIn) (rIn K true) := h ▸ op_notIn_seq
theorem eqD (K : PySem.W.Frag) (hu : X.A.units + 64 < cLine) (h : X.K = K := by rfl) : OpR X (compareOp .Eq) (rEqD K) := h ▸ op_eqD hu
theorem neD (K : PySem.W.Frag) (hu : X.A.units + 64 < cLine) (h : X.K = K := by rfl) : OpR X (compareOp .NotEq) (rNeD K) := h ▸ op_neD hu
theorem catT (K : PySem.W.Frag) (h : X.K = K := by rfl) : OpR X (binaryOp .Add) (rCatT K) := h ▸ op_catT
theorem lenQ (K : PySem.W.Frag) (h : X.K = K := by rfl) : CallR X (.builtin "len") (rLenQ K) := h ▸ call_len_seq
theorem listQ (K : PySem.W.Frag) (h : X.K = K := by rfl) : CallR X (.type "list") (rListQ K) := h ▸ call_list_of
theorem tupQ (K : PySem.W.Frag) (h : X.K = K := by rfl) : CallR X (.type "tuple") (rTupQ K) := h ▸ call_tuple_of
theorem isiK (K : PySem.W.Frag) (h : X.K = K := by rfl) : CallR X (.builtin "isinstance") (rIsi K) := h ▸ call_isi
theorem isiTK (K : PySem.W.Frag) (h : X.K = K := by rfl) : CallR X (.builtin "isinstance") (rIsiT K) := h ▸ call_isiT
theorem sumK (K : PySem.W.Frag) (hc : X.calm = true) (h : X.K = K := by rfl) : CallR X (.builtin "sum") (rSum K) := h ▸ cr_sum hc
theorem maxK (K : PySem.W.Frag) (hc : X.calm = true) (h : X.K = K := by rfl) : CallR X (.builtin "max") (rMax K) := h ▸ cr_max hc
theorem minK (K : PySem.W.Frag) (hc : X.calm = true) (h : X.K = K := by rfl) : CallR X (.builtin "min") (rMin K) := h ▸ cr_min hc
theorem slL (K : PySem.W.Frag) (h : X.K = K := by rfl) : SlR X (rSlL K) := h ▸ sl_list
theorem slT (K : PySem.W.Frag) (h : X.K = K := by rfl) : SlR X (rSlT K) := h ▸ sl_tup
theorem pe_fldK (K : PySem.W.Frag) {e : Expr} {ta : TE} {f : Str} {pos : Pos} (he : PE X e ta) (hb : attributeBase e f X.env (eval e X.env) = eval e X.env) (h : X.K = K := by rfl) : PE X (.Attribute e f pos) (tFld K ta f) := h ▸ pe_fld he hb
theorem pt_truthK (K : PySem.W.Frag) {a : Expr} {ta : TE} (ha : PE X a ta) (he : ∀ whole, isTrue a X.env whole = (do let v ← whole; standAt a.pos; holding [v] (truthy v))) (h : X.K = K := by rfl) : PT X a (tTru K ta) := h ▸ pt_truth ha he
theorem pg_tupK (K : PySem.W.Frag) {es : List Expr} {k : Nat} {t : TGs} {n : Nat} {pos : Pos} (hc : X.calm = true) (hl : PGs X es t) (hn : (assignEach es X.env).length = n := by rfl) (hst : (assignEach es X.env).findIdx? (·.1) = none := by rfl) (h : X.K = K := by rfl) : PG X (.Tuple es k pos) (gTup K n t) := by
  subst h
  exact pg_tup hc hl hn hst
end
/-! ### further values -/
section
variable {K : PySem.W.Frag} {σ : L2.St} {H H' : Hp} {ta tb te tx : TE} {t u : TT} {x y z v : V} {r : R2}
theorem rv_pow {i j : Int} (h : CPow i j) : RV (rI CPow fun i j => .int (i ^ j.toNat)) (.int i) (.int j) H (.int (i ^ j.toNat)) := rv_I h
theorem rv_str {i j : Str} (h : i.length + j.length ≤ sizeLine) : RV (fun x y H Q => ∃ i j, x = .str i ∧ y = .str j ∧ i.length + j.length ≤ sizeLine ∧ Q (.str (i ++ j)) H) (.str i) (.str j) H (.str (i ++ j)) := fun H1 _ _ q => ⟨i, j, rfl, rfl, h, q H1 (Ex.refl H1)⟩
theorem rc_abs {i : Int} : RC (fun xs H Q => ∃ i, xs = [.int i] ∧ Q (.int (if i < 0 then -i else i)) H) [.int i] H (.int (if i < 0 then -i else i)) := fun H1 _ _ q => ⟨i, rfl, q H1 (Ex.refl H1)⟩
theorem rc_int {i : Int} : RC (fun xs H Q => (∃ i, xs = [.int i] ∧ Q (.int i) H) ∨ ∃ k, xs = [.bl k] ∧ Q (.int (if k then 1 else 0)) H) [.int i] H (.int i) := fun H1 _ _ q => .inl ⟨i, rfl, q H1 (Ex.refl H1)⟩
theorem rc_intb {k : Bool} : RC (fun xs H Q => (∃ i, xs = [.int i] ∧ Q (.int i) H) ∨ ∃ k, xs = [.bl k] ∧ Q (.int (if k then 1 else 0)) H) [.bl k] H (.int (if k then 1 else 0)) := fun H1 _ _ q => .inr ⟨k, rfl, q H1 (Ex.refl H1)⟩
theorem rc_max2 {i j : Int} : RC (fun xs H Q => ∃ i j, xs = [.int i, .int j] ∧ Q (.int (if j > i then j else i)) H) [.int i, .int j] H (.int (if j > i then j else i)) := fun H1 _ _ q => ⟨i, j, rfl, q H1 (Ex.refl H1)⟩
theorem rc_min2 {i j : Int} : RC (fun xs H Q => ∃ i j, xs = [.int i, .int j] ∧ Q (.int (if j < i then j else i)) H) [.int i, .int j] H (.int (if j < i then j else i)) := fun H1 _ _ q => ⟨i, j, rfl, q H1 (Ex.refl H1)⟩
theorem rc_lenL {p : Addr} {ys : List V} (h : SqL K H p ys) : RC (rLenQ K) [.ref p] H (.int ys.length) := fun H1 e _ q => ⟨p, ys, rfl, .inl (ex_l e h), q H1 (Ex.refl H1)⟩
theorem rc_lenT {p : Addr} {ys : List V} (h : SqT K H p ys) : RC (rLenQ K) [.ref p] H (.int ys.length) := fun H1 e _ q => ⟨p, ys, rfl, .inr (ex_t e h), q H1 (Ex.refl H1)⟩
theorem rc_isi {x c : V} {t u : Value} {b : Bool} (hc : ClsV c u) (ht : ∀ H1, Ex H H1 → TyX K H1 x t) (hk : PySem.W.kitOne K t u = some b) : RC (rIsi K) [x, c] H (.bl b) := fun H1 e _ q => ⟨x, c, t, u, b, rfl, hc, ht H1 e, hk, q H1 (Ex.refl H1)⟩
end
end My

namespace My
open PySem PySem.Spec PyProof.Rows L2 Evl
/-! ### data -/
section
variable {K : PySem.W.Frag} {H H' : Hp}
mutual
theorem dp_ex (e : Ex H H') : ∀ {v : V} {d : PyData}, Dp K H v d → Dp K H' v d
  | _, _, .non => .non
  | _, _, .bl b => .bl b
  | _, _, .int i => .int i
  | _, _, .str x => .str x
  | _, _, .lst h t => .lst (ex_l e h) (dpa_ex e t)
  | _, _, .tup h t => .tup (ex_t e h) (dpa_ex e t)
theorem dpa_ex (e : Ex H H') : ∀ {vs : List V} {ds : List PyData}, DpAll K H vs ds → DpAll K H' vs ds
  | _, _, .nil => .nil
  | _, _, .cons h t => .cons (dp_ex e h) (dpa_ex e t)
end
theorem dpa_len : ∀ {vs : List V} {ds : List PyData}, DpAll K H vs ds → vs.length = ds.length
  | _, _, .nil => rfl
  | _, _, .cons _ t => congrArg Nat.succ (dpa_len t)
theorem dpa_at : ∀ {vs : List V} {ds : List PyData} {i : Nat}, DpAll K H vs ds → (h : i < ds.length) → ∃ v, vs[i]? = some v ∧ Dp K H v ds[i]
  | _, _, 0, .cons h _, _ => ⟨_, rfl, h⟩
  | _, _, i + 1, .cons _ t, l => by
    obtain ⟨v, e, q⟩ := dpa_at (i := i) t (Nat.lt_of_succ_lt_succ l)
    exact ⟨v, e, q⟩
theorem dpa_app : ∀ {vs ws : List V} {ds es : List PyData}, DpAll K H vs ds → DpAll K H ws es → DpAll K H (vs ++ ws) (ds ++ es)
  | _, _, _, _, .nil, h => h
  | _, _, _, _, .cons a t, h => .cons a (dpa_app t h)
theorem dpa_ints : ∀ ns : List Int, DpAll K H (ns.map V.int) (ns.map PyData.int)
  | [] => .nil
  | n :: r => .cons (.int n) (dpa_ints r)
/-- nested at most so deep, no dict, no list over 40,000 items -/
def Dn : Nat → PyData → Prop
  | _, .none => True
  | _, .bool _ => True
  | _, .int _ => True
  | _, .str _ => True
  | n + 1, .list ds => ds.length ≤ 40000 ∧ ∀ d ∈ ds, Dn n d
  | n + 1, .tuple ds => ds.length ≤ 40000 ∧ ∀ d ∈ ds, Dn n d
  | _, _ => False
theorem Dn.up : ∀ {n : Nat} {d : PyData}, Dn n d → Dn (n + 1) d
  | _, .none, _ => by simp [Dn]
  | _, .bool _, _ => by simp [Dn]
  | _, .int _, _ => by simp [Dn]
  | _, .str _, _ => by simp [Dn]
  | 0, .list _, h => by simp [Dn] at h
  | 0, .tuple _, h => by simp [Dn] at h
  | n + 1, .list ds, h => by
    simp only [Dn] at h ⊢
    exact ⟨h.1, fun d hd => Dn.up (h.2 d hd)⟩
  | n + 1, .tuple ds, h => by
    simp only [Dn] at h ⊢
    exact ⟨h.1, fun d hd => Dn.up (h.2 d hd)⟩
  | 0, .dict _, h => by simp [Dn] at h
  | n + 1, .dict _, h => by simp [Dn] at h
theorem Dn.le {n m : Nat} {d : PyData} (h : Dn n d) (l : n ≤ m) : Dn m d := by
  induction l with
  | refl => exact h
  | step _ ih => exact ih.up
theorem dn_ints {ns : List Int} (h : ns.length ≤ 40000) : Dn 1 (.list (ns.map PyData.int)) := by
  simp only [Dn, List.length_map]
  refine ⟨h, fun d hd => ?_⟩
  obtain ⟨n, _, rfl⟩ := List.mem_map.mp hd
  simp [Dn]
/-! ### types -/
def tyN : PyData → String
  | .none => "NoneType"
  | .bool _ => "bool"
  | .int _ => "int"
  | .str _ => "str"
  | .list _ => "list"
  | .tuple _ => "tuple"
  | .dict _ => "dict"
theorem ty_l {a : Addr} {xs : List V} (h : SqL K H a xs) : TyX K H (.ref a) (.type "list") := by
  rcases h with (h | ⟨o, h⟩) | ⟨o, its, n, h1, h2, _⟩
  · exact .base (.lst h)
  · exact .base (.frz h)
  · exact .kList h1 h2
theorem ty_t {a : Addr} {xs : List V} (h : SqT K H a xs) : TyX K H (.ref a) (.type "tuple") := by
  rcases h with (h | ⟨o, h⟩) | ⟨o, its, n, h1, h2, _⟩
  · exact .base (.tup h)
  · exact .fTuple h
  · exact .kTuple h1 h2
theorem dp_ty {v : V} {d : PyData} (h : Dp K H v d) : TyX K H v (.type (tyN d)) := by
  cases h with
  | non => exact .base .non
  | bl b => exact .base (.bl b)
  | int i => exact .base (.int i)
  | str x => exact .base (.str x)
  | lst h _ => exact ty_l h
  | tup h _ => exact ty_t h
def isB (c t : String) : Bool := kitB t c == some true
/-- the classes that laws ask for -/
def askL : List String := ["int", "bool", "str", "list", "tuple"]
def askd (c : String) : Bool := askL.contains c
theorem kitB_all : ∀ t ∈ ["NoneType", "bool", "int", "str", "list", "tuple"], ∀ c ∈ askL, kitB t c = some (isB c t) := by decide +kernel
theorem kit_all {d : PyData} {v : V} (h : Dp K H v d) {c : String} (hc : askd c = true) : PySem.W.kitOne K (.type (tyN d)) (.type c) = some (isB c (tyN d)) := by
  have hm : c ∈ askL := by
    have h2 : askL.contains c = true := hc
    simpa using h2
  have ht : tyN d ∈ ["NoneType", "bool", "int", "str", "list", "tuple"] := by cases h <;> simp [tyN]
  exact kitB_all _ ht c hm
end
section
variable {K : PySem.W.Frag} {σ : L2.St} {H H' : Hp} {ta tb te tx : TE} {t u : TT} {x y z v : V} {d d2 : PyData}
theorem ev_isiD {c : String} (hx : Ev tx σ H v) (h : Dp K H v d) (hc : askd c = true) : Ev (tCB (rIsi K) (tCons tx (tCons (tC (.ty c)) tNil))) σ H (.bl (isB c (tyN d))) := fun H1 e Q q =>
  hx H1 e _ fun H2 e2 => ⟨v, .ty c, _, _, _, rfl, .ty c, dp_ty (dp_ex (e.trans e2) h), kit_all h hc, q H2 e2⟩
theorem ev_isiD2 {c1 c2 : String} (hx : Ev tx σ H v) (h : Dp K H v d) (h1 : askd c1 = true) (h2 : askd c2 = true) :
    Ev (tCB (rIsiT K) (tCons tx (tCons (tTup (tCons (tC (.ty c1)) (tCons (tC (.ty c2)) tNil))) tNil))) σ H (.bl (isB c1 (tyN d) || isB c2 (tyN d))) := fun H1 e Q q =>
  hx H1 e _ fun H2 e2 => ⟨by show 2 ≤ sizeLine; decide, fun p hp =>
    ⟨v, p, [.ty c1, .ty c2], .type (tyN d), [.type c1, .type c2], _, rfl, upd_same, .cons (.ty c1) (.cons (.ty c2) .nil), dp_ty (dp_ex ((e.trans e2).trans (Ex.new hp)) h), by
      refine kitAny_cons (b := isB c1 (tyN d)) (kit_all h h1) (fun e1 => ?_) (fun e1 => by rw [e1] <;> rfl)
      refine kitAny_cons (b := isB c2 (tyN d)) (kit_all h h2) (fun e2 => ?_) (fun e2 => by rw [e1, e2] <;> rfl)
      rw [e1, e2]
      exact kitAny_nil, q _ (e2.trans (Ex.new hp))⟩⟩
end
end My
namespace My
open PySem PySem.Spec PyProof.Rows L2 Evl
theorem FunD.same {K : PySem.W.Frag} {x qual : Str} {params : Arguments} {body : List Stmt} {scope : Scope} {dvs : List V} {kws : List (Str × V)} {f : Addr} {fd fd2 : FuncData} (F : FunD K x qual params body scope dvs kws f fd) (F2 : FunD K x qual params body scope dvs kws f fd2) : fd = fd2 := by
  obtain ⟨_, _, _, _, _, _, _, _, _, _, _, l1, _⟩ := F.ex
  obtain ⟨_, _, _, _, _, _, _, _, _, _, _, l2, _⟩ := F2.ex
  have e := l1.symm.trans l2
  injection e with e
  injection e with _ _ e _
  injection e
def spLaw (K : PySem.W.Frag) : Sp := fun vs H Q _ => ∃ (a : Addr) (ns : List Int), vs = [.ref a] ∧ SqL K H a (ns.map V.int) ∧ ns.length ≤ 63 ∧ ∀ H', Q (.bl true) H'
end My

namespace My
open PySem PySem.Spec PyProof.Rows L2 Evl
section
variable {K : PySem.W.Frag} {σ : L2.St} {H H' : Hp} {ta tb te tx : TE} {t u : TT} {x y z v : V} {D : Ends} {tu tw tz : TS} {g : TG}
/-- for over range(n), any n; a word B for a break -/
theorem q_forR1' {ta : TA} {j : Nat} {n : Int} (h : EvA ta σ H [.int n]) (hn : -(2 ^ 62) ≤ n ∧ n < 2 ^ 62) (Pv : Nat → L2.St → Hp → Prop) (B : L2.St → Hp → Prop) (h0 : ∀ H1, Ex H H1 → Pv 0 σ H1)
    (hs : ∀ (i : Nat) σ' H', (i : Int) < n → Pv i σ' H' → tu { D with nx := Pv (i + 1), ct := Pv (i + 1), bk := B } (σ'.set j (some (.int (i : Int)))) H') (hd : ∀ σ' H', Pv n.toNat σ' H' → B σ' H')
    (hb : ∀ σ' H', B σ' H' → tz D σ' H') : tCut (tFor (iRng1 ta) (gName j) tu) tz D σ H :=
  ⟨B, h H (Ex.refl H) _ fun H1 e => ⟨n, rfl, hn.1, hn.2, for_range (lo := 0) (n := n.toNat) Pv (h0 H1 e) (fun i σ' H' hi p => by
    have e0 : (0 : Int) + (i : Int) = (i : Int) := Int.zero_add _
    show tu { D with nx := Pv (i + 1), ct := Pv (i + 1), bk := B } (σ'.set j (some (.int ((0 : Int) + (i : Int))))) H'
    rw [e0]
    exact hs i σ' H' (by omega) p) hd⟩, hb⟩
theorem q_forR2' {ta : TA} {j : Nat} {lo n : Int} (h : EvA ta σ H [.int lo, .int n]) (hn : -(2 ^ 62) ≤ lo ∧ lo < 2 ^ 62 ∧ -(2 ^ 62) ≤ n ∧ n < 2 ^ 62) (Pv : Nat → L2.St → Hp → Prop) (B : L2.St → Hp → Prop) (h0 : ∀ H1, Ex H H1 → Pv 0 σ H1)
    (hs : ∀ (i : Nat) σ' H', lo + (i : Int) < n → Pv i σ' H' → tu { D with nx := Pv (i + 1), ct := Pv (i + 1), bk := B } (σ'.set j (some (.int (lo + (i : Int))))) H') (hd : ∀ σ' H', Pv (n - lo).toNat σ' H' → B σ' H')
    (hb : ∀ σ' H', B σ' H' → tz D σ' H') : tCut (tFor (iRng2 ta) (gName j) tu) tz D σ H :=
  ⟨B, h H (Ex.refl H) _ fun H1 e => ⟨lo, n, rfl, hn, for_range (lo := lo) (n := (n - lo).toNat) Pv (h0 H1 e) (fun i σ' H' hi p => hs i σ' H' (by omega) p) hd⟩, hb⟩
end
end My

namespace My
open PySem PySem.Spec PyProof.Rows L2 Evl
theorem isB_tab : isB "int" "NoneType" = false ∧ isB "bool" "NoneType" = false ∧ isB "str" "NoneType" = false ∧ isB "list" "NoneType" = false ∧ isB "tuple" "NoneType" = false ∧ isB "int" "bool" = true ∧ isB "bool" "bool" = true ∧ isB "str" "bool" = false ∧ isB "list" "bool" = false ∧ isB "tuple" "bool" = false ∧ isB "int" "int" = true ∧ isB "bool" "int" = false ∧ isB "str" "int" = false ∧ isB "list" "int" = false ∧ isB "tuple" "int" = false ∧ isB "int" "str" = false ∧ isB "bool" "str" = false ∧ isB "str" "str" = true ∧ isB "list" "str" = false ∧ isB "tuple" "str" = false ∧ isB "int" "list" = false ∧ isB "bool" "list" = false ∧ isB "str" "list" = false ∧ isB "list" "list" = true ∧ isB "tuple" "list" = false ∧ isB "int" "tuple" = false ∧ isB "bool" "tuple" = false ∧ isB "str" "tuple" = false ∧ isB "list" "tuple" = false ∧ isB "tuple" "tuple" = true := by decide +kernel
section
variable {K : PySem.W.Frag} {σ : L2.St} {H H' : Hp} {ta tb te tx : TE} {t u : TT} {x y z v : V} {D : Ends} {tu tw tz : TS} {g : TG}
theorem ev_isN (h : Ev ta σ H x) : Ev (tIsN ta) σ H (.bl (decide (x = .non))) := fun H1 e Q q => h H1 e _ fun H2 e2 => q H2 e2
theorem ev_notN (h : Ev ta σ H x) : Ev (tNotN ta) σ H (.bl (!decide (x = .non))) := fun H1 e Q q => h H1 e _ fun H2 e2 => q H2 e2
end
end My

namespace My
open PySem PySem.Spec PyProof.Rows L2 Evl
section
variable {K : PySem.W.Frag} {σ : L2.St} {H H' : Hp} {ta tb te tx : TE} {t u : TT} {x y z v : V} {D : Ends} {tu tw tz : TS} {g : TG}
theorem ev_lenN' {xs : List V} (ha : EvL ta σ H xs) : Ev (tCB (rLenQ K) (tCons ta tNil)) σ H (.int (xs.length : Int)) := fun H1 e Q q =>
  ha H1 e _ fun p H2 _ e2 h2 => ⟨p, xs, rfl, Or.inl (sq_of h2), q H2 e2⟩
theorem rv_ixQL {p : Addr} {xs : List V} {i : Int} (h : SqL K H p xs) (ha : atI xs i = some v) : RV (rIx K) (.ref p) (.int i) H v := fun H1 e _ q => .inl ⟨p, xs, i, v, rfl, rfl, ex_l e h, ha, q H1 (Ex.refl H1)⟩
theorem rv_ixQT {p : Addr} {xs : List V} {i : Int} (h : SqT K H p xs) (ha : atI xs i = some v) : RV (rIx K) (.ref p) (.int i) H v := fun H1 e _ q => .inr (.inl ⟨p, xs, i, v, rfl, rfl, ex_t e h, ha, q H1 (Ex.refl H1)⟩)
/-- a list or a tuple, by its kind -/
def SqB (K : PySem.W.Frag) (H : Hp) (b : Bool) (a : Addr) (xs : List V) : Prop := if b = true then SqL K H a xs else SqT K H a xs
theorem SqB.ex {b : Bool} {a : Addr} {xs : List V} (e : Ex H H') (h : SqB K H b a xs) : SqB K H' b a xs := by
  cases b with
  | true => exact ex_l e h
  | false => exact ex_t e h
theorem rv_ixB {b : Bool} {p : Addr} {xs : List V} {i : Int} (h : SqB K H b p xs) (ha : atI xs i = some v) : RV (rIx K) (.ref p) (.int i) H v := by
  cases b with
  | true => exact rv_ixQL h ha
  | false => exact rv_ixQT h ha
theorem rc_lenB {b : Bool} {p : Addr} {ys : List V} (h : SqB K H b p ys) : RC (rLenQ K) [.ref p] H (.int ys.length) := by
  cases b with
  | true => exact rc_lenL h
  | false => exact rc_lenT h
end
theorem given_none {n : Nat} {f : Nat → Bool} {v : Nat → V} : (given n f v).length = 0 ↔ ∀ i, i < n → f i = false := by
  unfold given
  rw [List.length_map, List.length_eq_zero_iff, List.filter_eq_nil_iff]
  constructor
  · intro h i hi
    have := h i (List.mem_range.mpr hi)
    simpa using this
  · intro h i hi
    rw [h i (List.mem_range.mp hi)]
    exact Bool.false_ne_true
/-- the sequences of one kind -/
def seqD (b : Bool) (ds : List PyData) : PyData := if b = true then .list ds else .tuple ds
theorem seqD_inj {b : Bool} {ds es : List PyData} : seqD b ds = seqD b es ↔ ds = es := by
  cases b <;> simp [seqD]
theorem dp_seq {K : PySem.W.Frag} {H : Hp} {b : Bool} {v : V} {ds : List PyData} (h : Dp K H v (seqD b ds)) : ∃ a xs, v = .ref a ∧ SqB K H b a xs ∧ DpAll K H xs ds := by
  cases b with
  | true =>
    cases h with
    | lst h t => exact ⟨_, _, rfl, h, t⟩
  | false =>
    cases h with
    | tup h t => exact ⟨_, _, rfl, h, t⟩
theorem dn_seq {n : Nat} {b : Bool} {ds : List PyData} (h : Dn n (seqD b ds)) : ∃ m, n = m + 1 ∧ ds.length ≤ 40000 ∧ ∀ d ∈ ds, Dn m d := by
  cases n with
  | zero => cases b <;> simp [Dn, seqD] at h
  | succ m => cases b <;> (simp [Dn, seqD] at h; exact ⟨m, rfl, h⟩)
end My

namespace My
open PySem PySem.Spec PyProof.Rows L2 Evl
/-! ### expressions whose values are data -/
section
variable {K : PySem.W.Frag}
def EvD (K : PySem.W.Frag) (te : TE) (σ : L2.St) (H : Hp) (d : PyData) : Prop := ∀ H1, Ex H H1 → ∀ Q : VK, (∀ v H2, Ex H1 H2 → Dp K H2 v d → Q v H2) → te σ H1 Q
def EvDs (K : PySem.W.Frag) (ta : TA) (σ : L2.St) (H : Hp) (ds : List PyData) : Prop := ∀ H1, Ex H H1 → ∀ Q : List V → Hp → Prop, (∀ vs H2, Ex H1 H2 → DpAll K H2 vs ds → Q vs H2) → ta σ H1 Q
/-- what a call hands back is data d, all else as it was -/
def RetD (K : PySem.W.Frag) (d : PyData) (H : Hp) (Q : VK) : Prop := ∀ v H2, Ex H H2 → Dp K H2 v d → Q v H2
/-- a call over data -/
def SpD (K : PySem.W.Frag) (sp : Sp) (ds : List PyData) (d : PyData) : Prop := ∀ vs H1, DpAll K H1 vs ds → ∀ Q : VK, RetD K d H1 Q → ∀ E : XK, sp vs H1 Q E
/-- a def that is a function of data -/
def spFn (K : PySem.W.Frag) (pre : List PyData → Prop) (f : List PyData → PyData) : Sp := fun vs H Q _ => ∃ ds, DpAll K H vs ds ∧ pre ds ∧ RetD K (f ds) H Q
/-- .. of which only a relation is told -/
def spRel (K : PySem.W.Frag) (pre : List PyData → Prop) (R : List PyData → PyData → Prop) : Sp := fun vs H Q _ => ∃ ds, DpAll K H vs ds ∧ pre ds ∧ ∀ d, R ds d → RetD K d H Q
theorem spFn_D {pre : List PyData → Prop} {f : List PyData → PyData} {ds : List PyData} (h : pre ds) : SpD K (spFn K pre f) ds (f ds) := fun vs H1 hv Q q E => ⟨ds, hv, h, q⟩
theorem RetD.go {d : PyData} {H H1 : Hp} {Q : VK} (k : RetD K d H Q) (e : Ex H H1) : RetD K d H1 Q := fun v H2 e2 h => k v H2 (e.trans e2) h
variable {σ : L2.St} {H H' : Hp} {ta tb te tx : TE} {t u : TT} {x y z v : V} {D : Ends} {tu tw tz : TS} {g : TG} {d e : PyData} {ds es : List PyData} {i j : Int} {b : Bool}
theorem EvD.mono (e : Ex H H') (h : EvD K te σ H d) : EvD K te σ H' d := fun H1 a Q q => h H1 (e.trans a) Q q
theorem dp_int (h : Dp K H v (.int i)) : v = .int i := by cases h; rfl
theorem dp_str {s : Str} (h : Dp K H v (.str s)) : v = .str s := by cases h; rfl
theorem dp_bool (h : Dp K H v (.bool b)) : v = .bl b := by cases h; rfl
theorem dp_none (h : Dp K H v .none) : v = .non := by cases h; rfl
theorem dp_list (h : Dp K H v (.list ds)) : ∃ a xs, v = .ref a ∧ SqL K H a xs ∧ DpAll K H xs ds := by
  cases h with
  | lst h t => exact ⟨_, _, rfl, h, t⟩
theorem dp_tup (h : Dp K H v (.tuple ds)) : ∃ a xs, v = .ref a ∧ SqT K H a xs ∧ DpAll K H xs ds := by
  cases h with
  | tup h t => exact ⟨_, _, rfl, h, t⟩
/-- a value that is data at H stays so -/
theorem evd_of (h : Ev te σ H v) (hd : Dp K H v d) : EvD K te σ H d := fun H1 e Q q => h H1 e Q fun H2 e2 => q v H2 e2 (dp_ex (e.trans e2) hd)
theorem evd_i (h : Ev te σ H (.int i)) : EvD K te σ H (.int i) := evd_of h (.int i)
theorem evd_b (h : Ev te σ H (.bl b)) : EvD K te σ H (.bool b) := evd_of h (.bl b)
theorem evd_s {s : Str} (h : Ev te σ H (.str s)) : EvD K te σ H (.str s) := evd_of h (.str s)
theorem evd_n (h : Ev te σ H .non) : EvD K te σ H .none := evd_of h .non
theorem EvD.toI (h : EvD K te σ H (.int i)) : Ev te σ H (.int i) := fun H1 e Q q => h H1 e Q fun v H2 e2 hd => dp_int hd ▸ q H2 e2
theorem EvD.toB (h : EvD K te σ H (.bool b)) : Ev te σ H (.bl b) := fun H1 e Q q => h H1 e Q fun v H2 e2 hd => dp_bool hd ▸ q H2 e2
theorem EvD.toS {s : Str} (h : EvD K te σ H (.str s)) : Ev te σ H (.str s) := fun H1 e Q q => h H1 e Q fun v H2 e2 hd => dp_str hd ▸ q H2 e2
theorem evd_var {n : Nat} (h : σ[n]? = some (some v)) (hd : Dp K H v d) : EvD K (tVar n) σ H d := evd_of (ev_var h) hd
theorem evd_int : EvD K (tC (.int i)) σ H (.int i) := evd_i ev_c
theorem evd_str {s : Str} : EvD K (tC (.str s)) σ H (.str s) := evd_s ev_c
theorem evd_bl : EvD K (tC (.bl b)) σ H (.bool b) := evd_b ev_c
theorem evd_non : EvD K (tC .non) σ H .none := evd_n ev_c
theorem evds_nil : EvDs K tNil σ H [] := fun H1 _ Q q => q [] H1 (Ex.refl H1) .nil
theorem evds_cons {tr : TA} (h : EvD K te σ H d) (hr : EvDs K tr σ H ds) : EvDs K (tCons te tr) σ H (d :: ds) := fun H1 e Q q =>
  h H1 e _ fun v H2 e2 hv => hr H2 (e.trans e2) _ fun vs H3 e3 hvs => q _ H3 (e2.trans e3) (.cons (dp_ex e3 hv) hvs)
theorem evd_call {sp : Sp} {E : XK} {ta : TA} (h : EvDs K ta σ H ds) (hs : SpD K sp ds d) : EvD K (tCall sp [] E ta) σ H d := fun H1 e Q q =>
  h H1 e _ fun vs H2 e2 hv => by
    rw [List.append_nil]
    exact hs vs H2 hv Q (fun v H3 e3 h3 => q v H3 (e2.trans e3) h3) E
theorem evd_tup {ta : TA} (h : EvDs K ta σ H ds) (hl : ds.length ≤ 100000) : EvD K (tTup ta) σ H (.tuple ds) := fun H1 e Q q =>
  h H1 e _ fun vs H2 e2 hv => ⟨by rw [dpa_len hv]; exact sz_of hl, fun p hp => q _ _ (e2.trans (Ex.new hp)) (.tup (st_of upd_same) (dpa_ex (Ex.new hp) hv))⟩
theorem evd_lst {ta : TA} (h : EvDs K ta σ H ds) (hl : ds.length ≤ 100000) : EvD K (tLst ta) σ H (.list ds) := fun H1 e Q q =>
  h H1 e _ fun vs H2 e2 hv => ⟨by rw [dpa_len hv]; exact sz_of hl, fun p hp => q _ _ (e2.trans (Ex.new hp)) (.lst (sq_of upd_same) (dpa_ex (Ex.new hp) hv))⟩
/-- the item at an int place -/
theorem dpa_atI {vs : List V} (h : DpAll K H vs ds) (ha : atI ds i = some d) : ∃ v, atI vs i = some v ∧ Dp K H v d := by
  obtain ⟨n, hn, hd⟩ := Option.bind_eq_some_iff.mp (show (ixN ds.length i).bind (fun j => ds[j]?) = some d from ha)
  obtain ⟨hlt, he⟩ := List.getElem?_eq_some_iff.mp hd
  obtain ⟨v, hv, hp⟩ := dpa_at h hlt
  refine ⟨v, ?_, he ▸ hp⟩
  show (ixN vs.length i).bind (fun j => vs[j]?) = some v
  rw [dpa_len h, hn]
  exact hv
theorem evd_ixL (ha : EvD K ta σ H (.list ds)) (hb : Ev tb σ H (.int i)) (h : atI ds i = some d) : EvD K (tOp (rIxL K) ta tb) σ H d := fun H1 e Q q =>
  ha H1 e _ fun v H2 e2 hv => hb H2 (e.trans e2) _ fun H3 e3 => by
    obtain ⟨a, xs, rfl, hs, hx⟩ := dp_list hv
    obtain ⟨w, hw, hp⟩ := dpa_atI hx h
    exact ⟨a, xs, i, w, rfl, rfl, ex_l e3 hs, hw, q w H3 (e2.trans e3) (dp_ex e3 hp)⟩
theorem evd_ixT (ha : EvD K ta σ H (.tuple ds)) (hb : Ev tb σ H (.int i)) (h : atI ds i = some d) : EvD K (tOp (rIxT K) ta tb) σ H d := fun H1 e Q q =>
  ha H1 e _ fun v H2 e2 hv => hb H2 (e.trans e2) _ fun H3 e3 => by
    obtain ⟨a, xs, rfl, hs, hx⟩ := dp_tup hv
    obtain ⟨w, hw, hp⟩ := dpa_atI hx h
    exact ⟨a, xs, i, w, rfl, rfl, ex_t e3 hs, hw, q w H3 (e2.trans e3) (dp_ex e3 hp)⟩
theorem ev_lenD (ha : EvD K ta σ H (.list ds)) : Ev (tCB (rLenQ K) (tCons ta tNil)) σ H (.int (ds.length : Int)) := fun H1 e Q q =>
  ha H1 e _ fun v H2 e2 hv => by
    obtain ⟨a, xs, rfl, hs, hx⟩ := dp_list hv
    refine ⟨a, xs, rfl, .inl hs, ?_⟩
    rw [dpa_len hx]
    exact q H2 e2
theorem ev_lenDT (ha : EvD K ta σ H (.tuple ds)) : Ev (tCB (rLenQ K) (tCons ta tNil)) σ H (.int (ds.length : Int)) := fun H1 e Q q =>
  ha H1 e _ fun v H2 e2 hv => by
    obtain ⟨a, xs, rfl, hs, hx⟩ := dp_tup hv
    refine ⟨a, xs, rfl, .inr hs, ?_⟩
    rw [dpa_len hx]
    exact q H2 e2
theorem dpa_drop : ∀ {vs : List V} {ds : List PyData} (n : Nat), DpAll K H vs ds → DpAll K H (vs.drop n) (ds.drop n)
  | _, _, 0, h => h
  | _, _, _ + 1, .nil => .nil
  | _, _, n + 1, .cons _ t => dpa_drop n t
theorem dpa_take : ∀ {vs : List V} {ds : List PyData} (n : Nat), DpAll K H vs ds → DpAll K H (vs.take n) (ds.take n)
  | _, _, 0, _ => .nil
  | _, _, _ + 1, .nil => .nil
  | _, _, n + 1, .cons h t => .cons h (dpa_take n t)
def cutD (xs : List PyData) (lo hi : Option Int) : List PyData := (xs.drop (HT.sIx xs.length 0 lo)).take (HT.sIx xs.length xs.length hi - HT.sIx xs.length 0 lo)
theorem dpa_cut {vs : List V} {lo hi : Option Int} (h : DpAll K H vs ds) : DpAll K H (cutV vs lo hi) (cutD ds lo hi) := by
  unfold cutV cutD
  rw [dpa_len h]
  exact dpa_take _ (dpa_drop _ h)
theorem evd_slL {tl th : TO} {lo hi : Option Int} (h : EvD K te σ H (.list ds)) (h1 : EvO tl σ H lo) (h2 : EvO th σ H hi) : EvD K (tSl (rSlL K) te tl th) σ H (.list (cutD ds lo hi)) := fun H0 e Q q =>
  h H0 e _ fun v H1 e1 hv => h1 H1 (e.trans e1) _ fun H2 e2 => h2 H2 ((e.trans e1).trans e2) _ fun H3 e3 => by
    obtain ⟨a, xs, rfl, hs, hx⟩ := dp_list hv
    refine ⟨a, xs, rfl, ex_l (e2.trans e3) hs, fun p hp => q _ _ (((e1.trans e2).trans e3).trans (Ex.new hp)) (.lst (sq_of upd_same) ?_)⟩
    exact dpa_ex (Ex.new hp) (dpa_cut (dpa_ex (e2.trans e3) hx))
/-- ==, != of data -/
theorem ev_eqD (ha : EvD K ta σ H d) (hb : EvD K tb σ H e) (sd : SeqAt.shaped d = true) (se : SeqAt.shaped e = true) : Ev (tOp (rEqD K) ta tb) σ H (.bl (PyData.eqv d e)) := fun H1 x Q q =>
  ha H1 x _ fun v H2 e2 hv => hb H2 (x.trans e2) _ fun u H3 e3 hu => ⟨d, e, dp_ex e3 hv, hu, sd, se, q H3 (e2.trans e3)⟩
theorem ev_neD (ha : EvD K ta σ H d) (hb : EvD K tb σ H e) (sd : SeqAt.shaped d = true) (se : SeqAt.shaped e = true) : Ev (tOp (rNeD K) ta tb) σ H (.bl (!PyData.eqv d e)) := fun H1 x Q q =>
  ha H1 x _ fun v H2 e2 hv => hb H2 (x.trans e2) _ fun u H3 e3 hu => ⟨d, e, dp_ex e3 hv, hu, sd, se, q H3 (e2.trans e3)⟩
def isNone : PyData → Bool
  | .none => true
  | _ => false
theorem isNone_iff {d : PyData} : isNone d = true ↔ d = .none := by cases d <;> simp [isNone]
theorem ev_isND (ha : EvD K ta σ H d) : Ev (tIsN ta) σ H (.bl (isNone d)) := fun H1 x Q q =>
  ha H1 x _ fun v H2 e2 hv => by
    have : decide (v = .non) = isNone d := by cases hv <;> simp [isNone]
    rw [this]
    exact q H2 e2
theorem ev_notND (ha : EvD K ta σ H d) : Ev (tNotN ta) σ H (.bl (!isNone d)) := fun H1 x Q q =>
  ha H1 x _ fun v H2 e2 hv => by
    have : decide (v = .non) = isNone d := by cases hv <;> simp [isNone]
    rw [this]
    exact q H2 e2
/-- a new list of data -/
def EvLD (K : PySem.W.Frag) (te : TE) (σ : L2.St) (H : Hp) (ds : List PyData) : Prop := ∀ H1, Ex H H1 → ∀ Q : VK, (∀ p vs H2, H1 p = none → Ex H1 H2 → H2 p = some (.lst vs) → DpAll K H2 vs ds → Q (.ref p) H2) → te σ H1 Q
theorem EvLD.toD (h : EvLD K te σ H ds) : EvD K te σ H (.list ds) := fun H1 e Q q => h H1 e Q fun p vs H2 _ e2 h2 hd => q _ H2 e2 (.lst (sq_of h2) hd)
theorem eld_lst {ta : TA} (h : EvDs K ta σ H ds) (hl : ds.length ≤ 100000) : EvLD K (tLst ta) σ H ds := fun H1 e Q q =>
  h H1 e _ fun vs H2 e2 hv => ⟨by rw [dpa_len hv]; exact sz_of hl, fun p hp => q p vs _ (fresh_back e2 hp) (e2.trans (Ex.new hp)) upd_same (dpa_ex (Ex.new hp) hv)⟩
theorem eld_list (ha : EvD K ta σ H (.list ds)) : EvLD K (tCB (rListQ K) (tCons ta tNil)) σ H ds := fun H1 e Q q =>
  ha H1 e _ fun v H2 e2 hv => by
    obtain ⟨a, xs, rfl, hs, hx⟩ := dp_list hv
    exact ⟨a, xs, rfl, .inl hs, fun l hl => q l xs _ (fresh_back e2 hl) (e2.trans (Ex.new hl)) upd_same (dpa_ex (Ex.new hl) hx)⟩
theorem eld_listT (ha : EvD K ta σ H (.tuple ds)) : EvLD K (tCB (rListQ K) (tCons ta tNil)) σ H ds := fun H1 e Q q =>
  ha H1 e _ fun v H2 e2 hv => by
    obtain ⟨a, xs, rfl, hs, hx⟩ := dp_tup hv
    exact ⟨a, xs, rfl, .inr hs, fun l hl => q l xs _ (fresh_back e2 hl) (e2.trans (Ex.new hl)) upd_same (dpa_ex (Ex.new hl) hx)⟩
theorem eld_sl {tl th : TO} {lo hi : Option Int} (h : EvD K te σ H (.list ds)) (h1 : EvO tl σ H lo) (h2 : EvO th σ H hi) : EvLD K (tSl (rSlL K) te tl th) σ H (cutD ds lo hi) := fun H0 e Q q =>
  h H0 e _ fun v H1 e1 hv => h1 H1 (e.trans e1) _ fun H2 e2 => h2 H2 ((e.trans e1).trans e2) _ fun H3 e3 => by
    obtain ⟨a, xs, rfl, hs, hx⟩ := dp_list hv
    refine ⟨a, xs, rfl, ex_l (e2.trans e3) hs, fun p hp => q p _ _ (fresh_back ((e1.trans e2).trans e3) hp) (((e1.trans e2).trans e3).trans (Ex.new hp)) upd_same ?_⟩
    exact dpa_ex (Ex.new hp) (dpa_cut (dpa_ex (e2.trans e3) hx))
/-! ### statements -/
theorem sd_asg {i : Nat} (h : EvD K te σ H d) (k : ∀ v H1, Ex H H1 → Dp K H1 v d → D.nx (σ.set i (some v)) H1) : tAsg te (gName i) D σ H := h H (Ex.refl H) _ fun v H1 e hv => k v H1 e hv
theorem qd_asg {i : Nat} (h : EvD K te σ H d) (k : ∀ v H1, Ex H H1 → Dp K H1 v d → tz D (σ.set i (some v)) H1) : tSeq (tAsg te (gName i)) tz D σ H := h H (Ex.refl H) _ fun v H1 e hv => k v H1 e hv
theorem sd_ret (h : EvD K te σ H d) (k : RetD K d H D.rt) : tRet te D σ H := h H (Ex.refl H) _ k
theorem sl_asg {i : Nat} (h : EvLD K te σ H ds) (k : ∀ p vs H1, H p = none → Ex H H1 → H1 p = some (.lst vs) → DpAll K H1 vs ds → D.nx (σ.set i (some (.ref p))) H1) : tAsg te (gName i) D σ H := h H (Ex.refl H) _ fun p vs H1 hp e h1 hd => k p vs H1 hp e h1 hd
theorem ql_asg {i : Nat} (h : EvLD K te σ H ds) (k : ∀ p vs H1, H p = none → Ex H H1 → H1 p = some (.lst vs) → DpAll K H1 vs ds → tz D (σ.set i (some (.ref p))) H1) : tSeq (tAsg te (gName i)) tz D σ H := h H (Ex.refl H) _ fun p vs H1 hp e h1 hd => k p vs H1 hp e h1 hd
/-- l.append(e), the list l at H -/
theorem qd_app {l : Addr} {xs : List V} (hl : H l = some (.lst xs)) (ha : Ev ta σ H (.ref l)) (h : EvD K te σ H d) (hz : xs.length < 100000) (k : ∀ v H1, Ex H H1 → Dp K H1 v d → tz D σ (upd H1 l (.lst (xs ++ [v])))) :
    tSeq (tDrop (tBM K "list" rAppend ta (tCons te tNil))) tz D σ H := ha H (Ex.refl H) _ fun H1 e1 =>
  ⟨Or.inl ⟨rfl, xs, sq_of (e1 l _ hl)⟩, h H1 e1 _ fun v H2 e2 hv => ⟨l, xs, v, rfl, rfl, e2 l _ (e1 l _ hl), sz_lt hz, k v H2 (e1.trans e2) hv⟩⟩
theorem sd_app {l : Addr} {xs : List V} (hl : H l = some (.lst xs)) (ha : Ev ta σ H (.ref l)) (h : EvD K te σ H d) (hz : xs.length < 100000) (k : ∀ v H1, Ex H H1 → Dp K H1 v d → D.nx σ (upd H1 l (.lst (xs ++ [v])))) :
    tDrop (tBM K "list" rAppend ta (tCons te tNil)) D σ H := ha H (Ex.refl H) _ fun H1 e1 =>
  ⟨Or.inl ⟨rfl, xs, sq_of (e1 l _ hl)⟩, h H1 e1 _ fun v H2 e2 hv => ⟨l, xs, v, rfl, rfl, e2 l _ (e1 l _ hl), sz_lt hz, k v H2 (e1.trans e2) hv⟩⟩
end
/-- all but the objects at these places is as it was -/
def ExO (L : List Addr) (H H' : Hp) : Prop := ∀ a o, a ∉ L → H a = some o → H' a = some o
theorem ExO.refl (L : List Addr) (H : Hp) : ExO L H H := fun _ _ _ h => h
theorem ExO.trans {L : List Addr} {H H1 H2 : Hp} (a : ExO L H H1) (b : ExO L H1 H2) : ExO L H H2 := fun x o n h => b x o n (a x o n h)
theorem ExO.of {L : List Addr} {H H' : Hp} (e : Ex H H') : ExO L H H' := fun a o _ h => e a o h
theorem ExO.upd {L : List Addr} {H H' : Hp} {p : Addr} {o : HO} (e : ExO L H H') (hp : p ∈ L) : ExO L H (L2.upd H' p o) := fun a u n h => by
  rw [upd_ne (fun z => n (by rw [z]; exact hp))]
  exact e a u n h
/-- what was not there at all may change -/
theorem ExO.ex {L : List Addr} {H0 H H' : Hp} (e0 : Ex H0 H) (e : ExO L H H') (hn : ∀ p ∈ L, H0 p = none) : Ex H0 H' := fun a o h =>
  e a o (fun hm => by rw [hn a hm] at h; cases h) (e0 a o h)
end My

namespace My
open PySem PySem.Spec PyProof.Rows L2 Evl
section
variable {K : PySem.W.Frag} {σ : L2.St} {H H' : Hp} {ta tb te tx : TE} {t u : TT} {x y z v : V} {D : Ends} {tu tw tz : TS} {g : TG} {d e : PyData} {ds es : List PyData} {i j : Int} {b : Bool}
/-- a call whose first argument is a new list -/
theorem ev_callL {sp : Sp} {E : XK} {tr : TA} {xs vs : List V} (h : EvL te σ H xs) (hr : EvA tr σ H vs) (hs : ∀ p H1, Ex H H1 → H1 p = some (.lst xs) → SpV sp (.ref p :: vs) H1 z) : Ev (tCall sp [] E (tCons te tr)) σ H z := fun H1 e Q q =>
  h H1 e _ fun p H2 hp e2 h2 => hr H2 (e.trans e2) _ fun H3 e3 => by
    show sp ((V.ref p :: vs) ++ []) H3 Q E
    rw [List.append_nil]
    exact hs p H3 ((e.trans e2).trans e3) (e3 _ _ h2) H3 (Ex.refl H3) Q (fun H4 e4 => q H4 ((e2.trans e3).trans e4)) E
theorem dpa_strs : ∀ ws : List Str, DpAll K H (ws.map V.str) (ws.map PyData.str)
  | [] => .nil
  | n :: r => .cons (.str n) (dpa_strs r)
theorem dn_strs {ws : List Str} {n : Nat} (h : ws.length ≤ 40000) : Dn (n + 1) (.list (ws.map PyData.str)) := by
  simp only [Dn, List.length_map]
  refine ⟨h, fun d hd => ?_⟩
  obtain ⟨x, _, rfl⟩ := List.mem_map.mp hd
  simp [Dn]
theorem dp_strs {a : Addr} {ws : List Str} (h : SqL K H a (ws.map V.str)) : Dp K H (.ref a) (.list (ws.map PyData.str)) := .lst h (dpa_strs ws)
theorem dp_ints {a : Addr} {ns : List Int} (h : SqL K H a (ns.map V.int)) : Dp K H (.ref a) (.list (ns.map PyData.int)) := .lst h (dpa_ints ns)
theorem q_whenF (h : EvT t σ H false) (k : ∀ H1, Ex H H1 → tz D σ H1) : tSeq (tIfS t tu tNext) tz D σ H := q_when (b := false) h (fun z => nomatch z) fun _ H1 e => k H1 e
theorem s_whenF (h : EvT t σ H false) (k : ∀ H1, Ex H H1 → D.nx σ H1) : tIfS t tu tNext D σ H := s_when (b := false) h (fun z => nomatch z) fun _ H1 e => k H1 e
theorem et_notT (h : EvT t σ H true) : EvT (tNot t) σ H false := et_not h
/-- for over a list that stands, behind it a word B -/
theorem q_forL' {a : Addr} {xs : List V} {tl : TE} (h : Ev tl σ H (.ref a)) (hx : SqL K H a xs) (Pv : Nat → L2.St → Hp → Prop) (B : L2.St → Hp → Prop) (h0 : ∀ H1, Ex H H1 → Pv 0 σ H1) (hl : ∀ i σ' H', i ≤ xs.length → Pv i σ' H' → SqL K H' a xs)
    (hs : ∀ i x σ' H', xs[i]? = some x → Pv i σ' H' → g x σ' H' fun σ2 H2 => tu { D with nx := Pv (i + 1), ct := Pv (i + 1), bk := B } σ2 H2) (hd : ∀ σ' H', Pv xs.length σ' H' → B σ' H')
    (hb : ∀ σ' H', B σ' H' → tz D σ' H') : tCut (tFor (iList K tl) g tu) tz D σ H :=
  ⟨B, h H (Ex.refl H) _ fun H1 e => ⟨a, rfl, ⟨xs, ex_l e hx⟩, for_list Pv (h0 H1 e) hl hs hd⟩, hb⟩
/-- .. over what an expression gives -/
theorem q_forD' {tl : TE} (h : EvD K tl σ H (.list ds)) (Pv : Addr → List V → Nat → L2.St → Hp → Prop) (B : L2.St → Hp → Prop) (h0 : ∀ a vs H1, Ex H H1 → SqL K H1 a vs → DpAll K H1 vs ds → Pv a vs 0 σ H1) (hl : ∀ a vs i σ' H', i ≤ vs.length → Pv a vs i σ' H' → SqL K H' a vs)
    (hs : ∀ a vs i x σ' H', vs[i]? = some x → Pv a vs i σ' H' → g x σ' H' fun σ2 H2 => tu { D with nx := Pv a vs (i + 1), ct := Pv a vs (i + 1), bk := B } σ2 H2) (hd : ∀ a vs σ' H', Pv a vs vs.length σ' H' → B σ' H')
    (hb : ∀ σ' H', B σ' H' → tz D σ' H') : tCut (tFor (iList K tl) g tu) tz D σ H :=
  ⟨B, h H (Ex.refl H) _ fun v H1 e hv => by
    obtain ⟨a, vs, rfl, hs2, hx⟩ := dp_list hv
    exact ⟨a, rfl, ⟨vs, hs2⟩, for_list (Pv a vs) (h0 a vs H1 e hs2 hx) (hl a vs) (hs a vs) (hd a vs)⟩, hb⟩
end
end My
namespace My
open PySem PySem.Spec PyProof.Rows L2 Evl
section
variable {K : PySem.W.Frag} {σ : L2.St} {H H' : Hp} {ta tb te tx ti t1 t2 : TE} {t u : TT} {x y z v : V} {D : Ends} {tu tw tz : TS} {g : TG} {d e : PyData} {ds es : List PyData} {i j : Int} {b : Bool}
/-- one of two new lists, by a place -/
theorem el_two {xs x1 x2 : List V} (h1 : EvL t1 σ H x1) (h2 : EvL t2 σ H x2) (hi : Ev ti σ H (.int i)) (hc : (i = 0 ∧ xs = x1) ∨ (i = 1 ∧ xs = x2)) : EvL (tOp (rIxL K) (tLst (tCons t1 (tCons t2 tNil))) ti) σ H xs := fun H1 e Q q =>
  h1 H1 e _ fun p1 H2 n1 e2 l1 => h2 H2 (e.trans e2) _ fun p2 H3 n2 e3 l2 => ⟨by show 2 ≤ sizeLine; decide, fun p hp => by
    have E3 := (e2.trans e3).trans (Ex.new (o := .lst [.ref p1, .ref p2]) hp)
    refine hi _ (e.trans E3) _ fun H4 e4 => ?_
    have a1 : H4 p1 = some (.lst x1) := e4 _ _ ((Ex.new hp) _ _ (e3 _ _ l1))
    have a2 : H4 p2 = some (.lst x2) := e4 _ _ ((Ex.new hp) _ _ l2)
    rcases hc with ⟨rfl, rfl⟩ | ⟨rfl, rfl⟩
    · exact ⟨p, [.ref p1, .ref p2], 0, .ref p1, rfl, rfl, sq_of (e4 _ _ upd_same), rfl, q p1 H4 n1 (E3.trans e4) a1⟩
    · exact ⟨p, [.ref p1, .ref p2], 1, .ref p2, rfl, rfl, sq_of (e4 _ _ upd_same), rfl, q p2 H4 (fresh_back e2 n2) (E3.trans e4) a2⟩⟩
theorem q_forNL' {xs : List V} {tl : TE} (h : EvL tl σ H xs) (Pv : Addr → Nat → L2.St → Hp → Prop) (B : L2.St → Hp → Prop) (h0 : ∀ p H1, H p = none → Ex H H1 → H1 p = some (.lst xs) → Pv p 0 σ H1) (hl : ∀ p i σ' H', i ≤ xs.length → Pv p i σ' H' → SqL K H' p xs)
    (hs : ∀ p i x σ' H', xs[i]? = some x → Pv p i σ' H' → g x σ' H' fun σ2 H2 => tu { D with nx := Pv p (i + 1), ct := Pv p (i + 1), bk := B } σ2 H2) (hd : ∀ p σ' H', Pv p xs.length σ' H' → B σ' H')
    (hb : ∀ σ' H', B σ' H' → tz D σ' H') : tCut (tFor (iList K tl) g tu) tz D σ H :=
  ⟨B, h H (Ex.refl H) _ fun p H1 hp e h1 => ⟨p, rfl, ⟨xs, sq_of h1⟩, for_list (Pv p) (h0 p H1 hp e h1) (hl p) (hs p) (hd p)⟩, hb⟩
end
end My

namespace My
open PySem PySem.Spec PyProof.Rows L2 Evl
/-! ### classes by their names -/
structure MkOk (P : Program) (w : World) (K : PySem.W.Frag) (mg : Str → Option Value) (base : Heap) (k : Nat) (x : Str) (C : Addr) (ps : List Str) (dvs : List V) (sp : Sp) : Prop where
  ex : ∃ (f : Addr) (fd : FuncData) (ds : List Value), mg x = some (.ref C) ∧ Mk K C f ∧ Binds K fd ps ds ∧ Vals dvs ds ∧ FnOk P w K mg base CX0 k f fd ps sp
structure MethOk (P : Program) (w : World) (K : PySem.W.Frag) (mg : Str → Option Value) (base : Heap) (CX : CXT) (k : Nat) (C : Addr) (m : Str) (ps : List Str) (dvs : List V) (sp : Sp) : Prop where
  cls : Cls K C
  ex : ∃ (f : Addr) (fd : FuncData) (ds : List Value), Meth K C m f ∧ Binds K fd ps ds ∧ Vals dvs ds ∧ FnOk P w K mg base CX k f fd ps sp
structure DefOkX (P : Program) (w : World) (K : PySem.W.Frag) (mg : Str → Option Value) (base : Heap) (k : Nat) (x : Str) (ps : List Str) (sp : Sp) : Prop where
  ex : ∃ (f : Addr) (fd : FuncData), mg x = some (.ref f) ∧ PySem.W.keepIn K (.ref f) = true ∧ Binds K fd ps [] ∧ FnOk P w K mg base (L2.CX P w) k f fd ps sp
/-- o.m(..) that may raise: E at the slots -/
def tMethS (C : Addr) (m : Str) (sp : Sp) (E : L2.St → XK) (ta : TE) (t : TA) : TE := fun σ H Q => ta σ H fun x H1 => ∃ a dx fs, x = .ref a ∧ H1 a = some (.ins C dx fs) ∧ fs.lookup m = none ∧
  t σ H1 fun vs H2 => sp (x :: vs) H2 Q (E σ)
section
variable {X : Cx} {k j : Nat} {x m : Str} {C : Addr} {ps : List Str} {dvs : List V} {sp : Sp} {p pos apos : Pos} {e o : Expr} {es : List Expr} {ta : TE} {t : TA} {W : WX}
theorem pe_makeN (D : MkOk X.prog X.w X.K X.mg X.base k x C ps dvs sp) (hr : Room j X.A) (ha : PA X (e :: es) t) (hk : k + 1 ≤ j := by decide) (hg : Gl X x := by rfl) (hdb : (x == ("__debug__" : Str)) = false := by decide)
    (he : starEach (e :: es) X.env = (false, eval e X.env) :: starEach es X.env := by rfl) (hpl : (backTo pos (starEach es X.env)).any (·.1) = false := by rfl) : PE X (.Call (.Name x p) (e :: es) [] pos) (tMake C sp dvs E0 t) := by
  obtain ⟨f, fd, ds, h1, h2, h3, h4, h5⟩ := D.ex
  exact pe_make h2 h5 (hr.mono hk) hg h1 h3 h4 pass0 ha hdb he hpl
theorem pe_makeN0 (D : MkOk X.prog X.w X.K X.mg X.base k x C ps dvs sp) (hr : Room j X.A) (hk : k + 1 ≤ j := by decide) (hg : Gl X x := by rfl) (hdb : (x == ("__debug__" : Str)) = false := by decide) : PE X (.Call (.Name x p) [] [] pos) (tMake C sp dvs E0 tNil) := by
  obtain ⟨f, fd, ds, h1, h2, h3, h4, h5⟩ := D.ex
  exact pe_make0 h2 h5 (hr.mono hk) hg h1 h3 h4 pass0 hdb
theorem pe_methN {pl : Sem Bool} (D : MethOk X.prog X.w X.K X.mg X.base CX0 k C m ps dvs sp) (ho : PE X o ta) (hr : Room j X.A) (ha : PA X (e :: es) t) (hk : k ≤ j := by decide)
    (hst : starEach (e :: es) X.env = (false, eval e X.env) :: starEach es X.env := by rfl) (hpl : (backTo pos (starEach es X.env)).any (·.1) = false := by rfl)
    (ht : eval (.Call (.Attribute o m apos) (e :: es) [] pos) X.env = (do
      let ov ← eval o X.env
      standAt apos.atName
      let (f, first) ← holding [ov] (getMethod ov m pl)
      callWith pos f first (backTo pos (starEach (e :: es) X.env)) (backToKw pos (keywordEach [] X.env))) := by rfl) :
    PE X (.Call (.Attribute o m apos) (e :: es) [] pos) (tMeth C m sp dvs E0 ta t) := by
  obtain ⟨f, fd, ds, h1, h2, h3, h4⟩ := D.ex
  exact pe_meth ho D.cls h1 h4 (hr.mono hk) h2 h3 pass0 ha hst hpl ht
theorem pe_methN0 {pl : Sem Bool} (D : MethOk X.prog X.w X.K X.mg X.base CX0 k C m ps dvs sp) (ho : PE X o ta) (hr : Room j X.A) (hk : k ≤ j := by decide)
    (ht : eval (.Call (.Attribute o m apos) [] [] pos) X.env = (do
      let ov ← eval o X.env
      standAt apos.atName
      let (f, first) ← holding [ov] (getMethod ov m pl)
      callWith pos f first (backTo pos (starEach [] X.env)) (backToKw pos (keywordEach [] X.env))) := by rfl) :
    PE X (.Call (.Attribute o m apos) [] [] pos) (tMeth C m sp dvs E0 ta tNil) := by
  obtain ⟨f, fd, ds, h1, h2, h3, h4⟩ := D.ex
  exact pe_meth0 ho D.cls h1 h4 (hr.mono hk) h2 h3 pass0 ht
theorem pe_callNX (D : DefOkX X.prog X.w X.K X.mg X.base k x ps sp) (hr : Room j X.A) (tk : Takes X W)
    (ha : PA X (e :: es) t) (hk : k ≤ j := by decide) (hg : Gl X x := by rfl) (hdb : (x == ("__debug__" : Str)) = false := by decide) (he : starEach (e :: es) X.env = (false, eval e X.env) :: starEach es X.env := by rfl) (hpl : (backTo pos (starEach es X.env)).any (·.1) = false := by rfl) :
    PE X (.Call (.Name x p) (e :: es) [] pos) (tCallS sp (WE W) t) := by
  obtain ⟨f, fd, h1, h2, h3, h5⟩ := D.ex
  exact pe_callS h5 (hr.mono hk) hg h1 h2 h3 (fun σ => passAt tk σ) ha hdb he hpl
theorem pe_methNX {pl : Sem Bool} (D : MethOk X.prog X.w X.K X.mg X.base (L2.CX X.prog X.w) k C m ps [] sp) (ho : PE X o ta) (hr : Room j X.A) (tk : Takes X W) (ha : PA X (e :: es) t) (hk : k ≤ j := by decide)
    (hst : starEach (e :: es) X.env = (false, eval e X.env) :: starEach es X.env := by rfl) (hpl : (backTo pos (starEach es X.env)).any (·.1) = false := by rfl)
    (ht : eval (.Call (.Attribute o m apos) (e :: es) [] pos) X.env = (do
      let ov ← eval o X.env
      standAt apos.atName
      let (f, first) ← holding [ov] (getMethod ov m pl)
      callWith pos f first (backTo pos (starEach (e :: es) X.env)) (backToKw pos (keywordEach [] X.env))) := by rfl) :
    PE X (.Call (.Attribute o m apos) (e :: es) [] pos) (tMethS C m sp (WE W) ta t) := by
  obtain ⟨f, fd, ds, hm, hb, hd, F⟩ := D.ex
  cases hd
  refine ⟨fun pins s σ H Q I h => ?_⟩
  refine PySem.W.methodCall_KW (pl := pl) (thn (ho.run pins s σ H _ I h) fun u s1 ⟨x, H1, I1, rx, a, dx, fs, ex, ea, l, q⟩ => ?_) ht
  subst ex
  obtain rfl : u = Value.ref a := rx
  refine getmeth_ok I1 ea D.cls hm l ?_
  refine PySem.W.callWith_K (first := [.ref a]) (h₀ := X.base) I.ok.mod.kin hm.kp (thn (ha.run pos pins s1 σ H1 _ I1 q) fun us s2 ⟨vs, H2, I2, r, q2⟩ => ⟨I2.kIn, ?_⟩) hst hpl
  exact run_fnS (us := .ref a :: us) (vs := .ref a :: vs) (E := WE W) F (hr.mono hk) hb (passAt tk σ) I2 (.cons rfl r) q2
/-! ### own errors -/
/-- AccessError.__init__(self, ..), the base's own maker reached through a class of the program -/
theorem pe_baseinit (K : PySem.W.Frag) {B : Addr} {pl : Sem Bool} (hm : X.mg x = some (.ref B)) (rd : PySem.W.readsIn K B (.type "type") = true) (ga : PySem.W.specialIn K (.ref B) "__getattribute__" = some (some (.builtin "type.__getattribute__")))
    (vV : PySem.W.findCls K (.ref B) (.type "type") "__init__" = some (.val (.builtin "ValueError.__init__"))) (ha : PA X (e :: es) t) (hg : Gl X x := by rfl) (hdb : (x == ("__debug__" : Str)) = false := by decide) (hK : X.K = K := by rfl)
    (hc : eval (.Call (.Attribute (.Name x p) "__init__" apos) (e :: es) [] pos) X.env = (do
      let ov ← eval (.Name x p) X.env
      standAt apos.atName
      let (f, first) ← holding [ov] (getMethod ov "__init__" pl)
      callWith pos f first (backTo pos (starEach (e :: es) X.env)) (backToKw pos (keywordEach [] X.env))) := by rfl)
    (he : starEach (e :: es) X.env = (false, eval e X.env) :: starEach es X.env := by rfl) (hpl : (backTo pos (starEach es X.env)).any (·.1) = false := by rfl) :
    PE X (.Call (.Attribute (.Name x p) "__init__" apos) (e :: es) [] pos) (tVeI K t) := by
  subst hK
  refine ⟨fun pins s σ H Q I h => ?_⟩
  refine PySem.W.methodCall_KW (ld_glob I hg hm ?_ hdb) hc
  refine PySem.W.method_cls I.kIn ga (PySem.W.cls_value I.kIn rd vV (by decide +kernel) ?_)
  show wpAny _ _ (callWith pos (Value.builtin "ValueError.__init__") [] (backTo pos (starEach (e :: es) X.env)) []) _ _ _
  refine PyProof.Rows.callWith_method1 (thn (ha.run pos pins _ σ H _ (I.tok _) h) fun us s1 ⟨vs, H1, I1, r1, a, C, ws, ev, hl, T, ea, q⟩ => ?_) he hpl
  subst ev
  cases r1 with
  | @cons _ u0 _ ur ra rw' =>
    obtain rfl : u0 = Value.ref a := ra
    have hlen : ur.length ≤ sizeLine := by
      have := Paired.length rw'
      rw [sizeLine_eq]
      omega
    exact oinit_ok T I1 ea hlen fun s' J => ⟨.non, H1, J, rfl, q⟩
end
end My
namespace My
open PySem PySem.Spec PyProof.Rows L2 Evl
/-! ### facts of error classes, read off the top by a Bool -/
def eCls (K : PySem.W.Frag) (C : Addr) : Bool := match K.lookup C with
  | some o => (match o.cls, o.data with
    | .type ty, .cls cd => (match cd.mro, o.slots.toList with
      | .ref D :: bm, [_, _, _, _, some (.builtin n), _] => decide (ty = "type") && (decide (D = C) && (decide (n = "ValueError.__new__") && (!cd.hasDel && (cd.hasDict && PySem.HandSPX.refsVE bm))))
      | _, _ => false)
    | _, _ => false)
  | none => false
theorem eCls_ok {K : PySem.W.Frag} {C : Addr} (h : eCls K C = true) :
    ∃ nm q N bs bm sn sub ab col dd k0 k1 k2 k3 k5, K.lookup C = some (excClassObj nm q C N bs bm true sn sub ab col dd k0 k1 k2 k3 k5 "ValueError.__new__") ∧ PySem.HandSPX.refsVE bm = true := by
  unfold eCls at h
  split at h
  · rename_i o ho
    split at h
    · rename_i ty cd hc hd
      split at h
      · rename_i D bm k0 k1 k2 k3 n k5 hm hs
        simp only [Bool.and_eq_true, decide_eq_true_eq, Bool.not_eq_true'] at h
        obtain ⟨rfl, rfl, rfl, h4, h5, h6⟩ := h
        obtain ⟨oc, od, dt, sl⟩ := o
        obtain ⟨nm, bs, mro, N, q, hdct, sn, sub, ab, col, del⟩ := cd
        dsimp only at hc hd hm hs h4 h5
        subst hc hd hm h4 h5
        have e : sl = #[k0, k1, k2, k3, some (.builtin "ValueError.__new__"), k5] := by
          rw [← hs, Array.toArray_toList]
        subst e
        exact ⟨nm, q, N, bs, bm, sn, sub, ab, col, od, k0, k1, k2, k3, k5, ho, h6⟩
      · cases h
    · cases h
  · cases h
inductive Fx where
  | oex (x : Str)
  | base (x : Str)
  | xf (x : Str)
  | kit (x c : Str) (b : Bool)
  | kitT (x : Str) (n : String) (b : Bool)
def Fx.ok (K : PySem.W.Frag) : Fx → Bool
  | .oex x => eCls K (He.ga K x) && (decide (PySem.W.findIn K (.ref (He.ga K x)) "__setattr__" = some (some (.builtin "object.__setattr__"))) && (decide (PySem.W.subIn K (.ref (He.ga K x)) (.type "BaseException") = some true) &&
      (decide (PySem.W.typeIn K (.ref (He.ga K x)) = some (.type "type")) && (PySem.W.keepIn K (.ref (He.ga K x)) && (decide (PySem.W.findIn K (.ref (He.ga K x)) "__init__" = some (some (.ref (He.ma K (He.ga K x) "__init__")))) &&
      decide (PySem.W.typeIn K (.ref (He.ma K (He.ga K x) "__init__")) = some (.type "function")))))))
  | .base x => PySem.W.readsIn K (He.ga K x) (.type "type") && (decide (PySem.W.specialIn K (.ref (He.ga K x)) "__getattribute__" = some (some (.builtin "type.__getattribute__"))) && (match PySem.W.findCls K (.ref (He.ga K x)) (.type "type") "__init__" with
    | some (.val (.builtin n)) => decide (n = "ValueError.__init__")
    | _ => false))
  | .xf x => xfB K (He.ga K x) && (decide (PySem.W.findIn K (.ref (He.ga K x)) "__class__" = some (some (.builtin "object.__class__"))) && (decide (PySem.W.specialIn K (.builtin "object.__class__") "__get__" = some (some (.builtin "getset_descriptor.__get__"))) &&
      (decide (PySem.W.takesIn K (.builtin "object.__class__") = some true) && decide (PySem.W.mroIn K (He.ga K x) (.type "object") = some true))))
  | .kit x c b => decide (PySem.W.kitOne K (.ref (He.ga K x)) (.ref (He.ga K c)) = some b)
  | .kitT x n b => decide (PySem.W.kitOne K (.ref (He.ga K x)) (.type n) = some b)
section
variable {K : PySem.W.Frag}
theorem oex_ok {x : Str} (h : (Fx.oex x).ok K = true) : OexC K (He.ga K x) ∧ PySem.W.findIn K (.ref (He.ga K x)) "__init__" = some (some (.ref (He.ma K (He.ga K x) "__init__"))) ∧ PySem.W.typeIn K (.ref (He.ma K (He.ga K x) "__init__")) = some (.type "function") := by
  obtain ⟨h1, h⟩ := He.ba h
  obtain ⟨h2, h⟩ := He.ba h
  obtain ⟨h3, h⟩ := He.ba h
  obtain ⟨h4, h⟩ := He.ba h
  obtain ⟨h5, h⟩ := He.ba h
  obtain ⟨h6, h7⟩ := He.ba h
  exact ⟨⟨eCls_ok h1, of_decide_eq_true h2, of_decide_eq_true h3, of_decide_eq_true h4, h5⟩, of_decide_eq_true h6, of_decide_eq_true h7⟩
theorem base_ok {x : Str} (h : (Fx.base x).ok K = true) : PySem.W.readsIn K (He.ga K x) (.type "type") = true ∧ PySem.W.specialIn K (.ref (He.ga K x)) "__getattribute__" = some (some (.builtin "type.__getattribute__")) ∧
    PySem.W.findCls K (.ref (He.ga K x)) (.type "type") "__init__" = some (.val (.builtin "ValueError.__init__")) := by
  obtain ⟨h1, h⟩ := He.ba h
  obtain ⟨h2, h3⟩ := He.ba h
  refine ⟨h1, of_decide_eq_true h2, ?_⟩
  split at h3
  · rename_i n hn
    rw [hn, of_decide_eq_true h3]
  · cases h3
structure XcC (K : PySem.W.Frag) (C : Addr) : Prop where
  x : XfC K C
  c : PySem.W.findIn K (.ref C) "__class__" = some (some (.builtin "object.__class__"))
  n : PySem.W.specialIn K (.builtin "object.__class__") "__get__" = some (some (.builtin "getset_descriptor.__get__"))
  t : PySem.W.takesIn K (.builtin "object.__class__") = some true
  m : PySem.W.mroIn K C (.type "object") = some true
theorem xf_ok {x : Str} (h : (Fx.xf x).ok K = true) : XcC K (He.ga K x) := by
  obtain ⟨h1, h⟩ := He.ba h
  obtain ⟨h2, h⟩ := He.ba h
  obtain ⟨h3, h⟩ := He.ba h
  obtain ⟨h4, h5⟩ := He.ba h
  exact ⟨xfB_ok h1, of_decide_eq_true h2, of_decide_eq_true h3, of_decide_eq_true h4, of_decide_eq_true h5⟩
end
/-- isinstance(e, c), isinstance(e, (c, ..)) of the error that the suite holds -/
def rIsX (K : PySem.W.Frag) (D a : Addr) (cls : Value) (d : Option Addr) : List V → Hp → VK → Prop := fun xs H Q => cls = .ref D ∧ (∃ dd fs, d = some dd ∧ H dd = some (.xd fs)) ∧
  ((∃ (c : V) (cv : Value) (b : Bool), xs = [.ref a, c] ∧ ClsV c cv ∧ PySem.W.kitOne K (.ref D) cv = some b ∧ Q (.bl b) H) ∨
    ∃ (tp : Addr) (cs : List V) (us : List Value) (b : Bool), xs = [.ref a, .ref tp] ∧ H tp = some (.tup cs) ∧ Paired ClsV cs us ∧ PySem.W.kitAny K (.ref D) us = some b ∧ Q (.bl b) H)
theorem call_isX {X : Cx} (K : PySem.W.Frag) {a D : Addr} {oe : Obj} {cls : Value} {d : Option Addr} {pn : List (Addr × Obj)} (C : XcC K D) (hz : Zc cls d oe) (hf : ∃ vs, oe.data = .fields vs) (hK : X.K = K := by rfl) :
    CallR (X.suite a ((a, oe) :: pn)) (.builtin "isinstance") (rIsX K D a cls d) := by
  subst hK
  intro pins s σ H xs us Q I r h
  obtain ⟨ec, ⟨dd, fs, ed, hdd⟩, h⟩ := h
  subst ec
  subst ed
  obtain ⟨hget, _⟩ := I.pin (a, oe) (List.mem_append.mpr (.inl List.mem_cons_self))
  obtain ⟨vs, hv⟩ := hf
  have hx : ObjOk X.prog X.w H s.heap dd (.xd fs) := I.hok dd _ hdd
  obtain ⟨mA, hns, _⟩ := hx
  obtain ⟨od, ho, _⟩ := lookIn_ns hns
  have J : PySem.W.InstAt s.heap a oe D (some od) := ⟨hget, hz.1, by unfold PySem.W.notCls; rw [hv] <;> rfl, by rw [hz.2]; exact ho⟩
  have hcl : (PySem.W.clsIn X.K D).isSome = true := by
    obtain ⟨cd, hc, _⟩ := PySem.W.any_some C.x.hdC
    rw [hc]
    rfl
  have Z := PySem.W.kitx_exc (x := a) (ox := oe) (od := some od) hcl C.x.ga C.x.gg C.x.exC C.c C.n C.t C.m
  rcases h with ⟨c, cv, b, rfl, hc, e, q⟩ | ⟨tp, cs, ws, b, rfl, hT, hc, e, q⟩
  · cases r with
    | cons rx rr =>
      cases rr with
      | cons rt rr =>
        cases rr
        cases rx
        have ec := hc.eq rt
        subst ec
        exact PySem.W.kia_one Z I.kIn J e (fun z => nomatch z) fun tk => ⟨.bl b, H, I.tok tk, rfl, q⟩
  · obtain ⟨u1, u2, rfl, r1, r2⟩ := vals2 r
    cases r1
    cases r2
    obtain ⟨_, its, rv, o, h1, h2, n, h3⟩ := (show ObjOk X.prog X.w H s.heap tp (.tup cs) from I.hok tp _ hT)
    have e3 := ClsV.all hc rv
    subst e3
    obtain ⟨oc, od2, dt, sl⟩ := o
    simp only at h2 h3
    subst h2 h3
    exact PySem.W.kia_tup Z I.kIn J h1 e (fun z => nomatch z) fun tk => ⟨.bl b, H, I.tok tk, rfl, q⟩
/-- e.f of the error that the suite holds -/
theorem pe_xfK {X : Cx} (K : PySem.W.Frag) {a C : Addr} {oe : Obj} {cls : Value} {d : Option Addr} {pn : List (Addr × Obj)} {e : Expr} {te : TE} {pos : Pos} {n : Str} (T : XcC K C) (hno : PySem.W.findIn K (.ref C) n = some none)
    (hz : Zc cls d oe) (hf : ∃ vs, oe.data = .fields vs) (he : PE (X.suite a ((a, oe) :: pn)) e te) (hK : X.K = K := by rfl) (hb : attributeBase e n X.env (eval e X.env) = eval e X.env := by rfl) :
    PE (X.suite a ((a, oe) :: pn)) (.Attribute e n pos) (tXf a cls d C n te) := by
  subst hK
  exact pe_xf T.x hno hz hf he hb
/-! ### an error with two, one fields: __init__, raise -/
/-- what a def wishes of an error of the class C with these fields -/
def RaiseR (C : Addr) (fs : List (Str × V)) (H : Hp) (E : XK) : Prop := ∀ d H', H d = none → Ex H H' → H' d = some (.xd fs) → E (.ref C) (some d) H'
theorem RaiseR.go {C : Addr} {fs : List (Str × V)} {H H1 : Hp} {E : XK} (k : RaiseR C fs H E) (e : Ex H H1) : RaiseR C fs H1 E := fun d H' hd e2 h => k d H' (fresh_back e hd) (e.trans e2) h
/-- __init__ of an error of the class C: its arguments' values are vs, its fields afterwards fs -/
def spXinit (K : PySem.W.Frag) (C : Addr) (ok : List V → Prop) (fs : List V → List (Str × V)) : Sp := fun vs H Q _ => ∃ (a : Addr) (ws : List V), vs = .ref a :: ws ∧ ok ws ∧ H a = some (exo a C none) ∧
  ∀ (d : Addr) (H' : Hp), H d = none → d ≠ a → H' a = some (exo a C (some d)) → H' d = some (exd d (fs ws)) → (∀ b o, b ≠ a → H b = some o → H' b = some o) → Q .non H'
structure XMkOk (P : Program) (w : World) (K : PySem.W.Frag) (mg : Str → Option Value) (base : Heap) (k : Nat) (x : Str) (C : Addr) (ps : List Str) (sp : Sp) : Prop where
  ex : ∃ (f : Addr) (fd : FuncData), mg x = some (.ref C) ∧ OexC K C ∧ PySem.W.findIn K (.ref C) "__init__" = some (some (.ref f)) ∧ PySem.W.typeIn K (.ref f) = some (.type "function") ∧ Binds K fd ps [] ∧ FnOk P w K mg base CX0 k f fd ps sp
theorem ps_raiseX {X : Cx} {W : WX} {e : Expr} {es : List Expr} {t : TA} {k j : Nat} {x : Str} {C : Addr} {ps : List Str} {sp : Sp} {p pos pos2 : Pos} (D : XMkOk X.prog X.w X.K X.mg X.base k x C ps sp) (hr : Room j X.A) (hc : X.calm = true) (tk : Takes X W) (ha : PA X (e :: es) t)
    (hk : k + 1 ≤ j := by decide) (hg : Gl X x := by rfl) (hdb : (x == ("__debug__" : Str)) = false := by decide) (he : starEach (e :: es) X.env = (false, eval e X.env) :: starEach es X.env := by rfl) (hpl : (backTo pos (starEach es X.env)).any (·.1) = false := by rfl) :
    PS X (.Raise (some (.Call (.Name x p) (e :: es) [] pos)) none pos2) (fun _ σ H => tMkO C sp [] t σ H fun cls d H' => W cls d σ H') := by
  obtain ⟨f, fd, h1, h2, h3, h4, h5, h6⟩ := D.ex
  exact ps_raise hc tk (pmk_oex h2 h3 h4 h6 (hr.mono hk) h5 .nil (fun _ _ _ _ _ _ _ h => h.elim) hg h1 ha hdb he hpl)
/-- what raising asks -/
theorem raise_ask {K : PySem.W.Frag} {C : Addr} {ok : List V → Prop} {fs : List V → List (Str × V)} {ta : TA} {σ : L2.St} {H : Hp} {Q : XK} {vs : List V} (ha : EvA ta σ H vs) (h0 : ok vs) (hl : vs.length ≤ 1000)
    (q : ∀ H1, Ex H H1 → RaiseR C (fs vs) H1 Q) : tMkO C (spXinit K C ok fs) [] ta σ H Q := ha H (Ex.refl H) _ fun H1 e1 => ⟨hl, fun a na => ⟨a, vs, by rw [List.append_nil], h0, upd_same, fun d H' nd da h1 h2 kp => ⟨rfl, d, fs vs, h1, h2, by
    rw [upd_ne da] at nd
    exact nd, by
    have nd' : H1 d = none := by
      rw [upd_ne da] at nd
      exact nd
    refine q H1 e1 d _ nd' (fun b o hb => ?_) upd_same
    have hba : b ≠ a := ne_of_none hb na
    have hbd : b ≠ d := ne_of_none hb nd'
    rw [upd_ne hbd, del_ne hba]
    exact kp b o hba (by rw [upd_ne hba]; exact hb)⟩⟩⟩
end My
namespace My
open PySem PySem.Spec PyProof.Rows L2 Evl
/-! ### the facts of a top with classes and errors -/
structure TxE (fa : List He.Fa) (fn : List He.DefD) (fx : List Fx) (K : PySem.W.Frag) (mg : Str → Option Value) : Prop where
  tx : Tx fa fn K mg
  more : (fx.all fun f => f.ok K) = true
theorem TxE.fx {fa : List He.Fa} {fn : List He.DefD} {fx : List Fx} {K : PySem.W.Frag} {mg : Str → Option Value} (T : TxE fa fn fx K mg) (i : Nat) {f : Fx} (h : fx[i]? = some f := by rfl) : f.ok K = true :=
  List.all_eq_true.mp T.more f (List.mem_of_getElem? h)
theorem TxE.mk' {fa : List He.Fa} {fn : List He.DefD} {fx : List Fx} {K : PySem.W.Frag} {w : World} {h h0 : Heap} {mg : Str → Option Value} (X : K.In h) (G : h.Ns mainGlobals mg) (c : He.SaysX fa fn [] [] (fun K => fx.all fun f => f.ok K) w h0 K) : TxE fa fn fx K mg :=
  ⟨Tx.mk' X G c.t.d, c.more⟩
/-- what the names reach in n steps and the statics (readsIn asks them), and the facts there -/
def farE (g : Addr → Option Obj) (n : Nat) : PySem.W.Frag := He.frG g (He.asD g n ++ [cStatics])
def lookE (n : Nat) (fa : List He.Fa) (fn : List He.DefD) (fx : List Fx) (g : Addr → Option Obj) : Bool × He.AlD := (fx.all fun f => f.ok (farE g n), He.obsD fa fn (farE g n))
def hookE (n : Nat) (fa : List He.Fa) (fn : List He.DefD) (fx : List Fx) : PySem.W.Hook where
  α := Bool × He.AlD
  obs := fun s => lookE n fa fn fx s.heap.get?
  val := fun _ => (true, He.valD fn)
  says := fun _ h => ∃ K : PySem.W.Frag, K.In h ∧ ((fx.all fun f => f.ok K) = true ∧ He.SaysD fa fn K)
  of := fun _ _ e => ⟨_, He.frG_in, congrArg (fun z : Bool × He.AlD => z.1) e, congrArg (fun z : Bool × He.AlD => z.2) e⟩
  keeps := fun _ _ _ ⟨K, hK, c⟩ k => ⟨K, PySem.W.Frag.In.keeps hK k, c⟩
theorem lookE_eq {n : Nat} {fa : List He.Fa} {fn : List He.DefD} {fx : List Fx} {g : Addr → Option Obj} {s : Shared} (h : ∀ a, g a = s.heap.get? a) : lookE n fa fn fx g = (hookE n fa fn fx).obs s := by
  have e : g = s.heap.get? := funext h
  subst e
  rfl
theorem TxE.of {fa : List He.Fa} {fn : List He.DefD} {fx : List Fx} {K : PySem.W.Frag} {h : Heap} {mg : Str → Option Value} (X : K.In h) (G : h.Ns mainGlobals mg) (c : (fx.all fun f => f.ok K) = true ∧ He.SaysD fa fn K) : TxE fa fn fx K mg := ⟨Tx.mk' X G c.2, c.1⟩
theorem MethOk.of {P : Program} {w : World} {K : PySem.W.Frag} {mg : Str → Option Value} {base : Heap} {CX : CXT} {k : Nat} {C : Addr} {m qual : Str} {ps : List Str} {sp : Sp} {st : Stmt} {fd : FuncData} {f : Addr} (F : FunD K m qual (defArgs st) (defBody st) (defScope st) [] [] f fd)
    (c : Cls K C) (hm : Meth K C m f) (b : Binds K fd ps []) (h : FnOk P w K mg base CX k f fd ps sp) : MethOk P w K mg base CX k C m ps [] sp := ⟨c, f, fd, [], hm, b, .nil, h⟩
theorem DefOkX.of {P : Program} {w : World} {K : PySem.W.Frag} {mg : Str → Option Value} {base : Heap} {k : Nat} {x : Str} {ps : List Str} {sp : Sp} {st : Stmt} {fd : FuncData} {f : Addr} (F : FunD K x x (defArgs st) (defBody st) (defScope st) [] [] f fd)
    (g : mg x = some (.ref f)) (b : Binds K fd ps []) (h : FnOk P w K mg base (L2.CX P w) k f fd ps sp) : DefOkX P w K mg base k x ps sp := ⟨f, fd, g, F.kp, b, h⟩
end My
namespace My
open PySem PySem.Spec PyProof.Rows L2 Evl
/-! ### a op b op c op d, as a test -/
def tChain3 (r r' r'' : R2) (ta tb tc td : TE) : TE := fun σ H Q => ta σ H fun x H1 => tb σ H1 fun y H2 => r x y H2 fun z H3 => ∃ k, z = .bl k ∧
  (if k = true then tc σ H3 fun u H4 => r' y u H4 fun z' H5 => ∃ k', z' = .bl k' ∧ (if k' = true then td σ H5 fun v H6 => r'' u v H6 Q else Q (.bl false) H5) else Q (.bl false) H3)
theorem pt_chain3 {X : Cx} {a b c d : Expr} {pos : Pos} {op op' op'' : CmpOp} {r r' r'' : R2} {ta tb tc td : TE} (ho : OpR X (compareOp op) r) (ho' : OpR X (compareOp op') r') (ho'' : OpR X (compareOp op'') r'') (ha : PE X a ta) (hb : PE X b tb) (hc : PE X c tc) (hd : PE X d td)
    (hm : lastMarks [op, op', op''] [b, c, d] = false := by with_unfolding_all rfl) : PT X (.Compare a [op, op', op''] [b, c, d] pos) (tTest (tChain3 r r' r'' ta tb tc td)) := by
  refine ⟨fun pins s σ H Q I h => isTrue_chain (thn (ha.run pins s σ H _ I h) fun v s1 g1 => ?_) hm⟩
  obtain ⟨x, H1, I1, r1, q1⟩ := g1
  refine test_link (thn (hb.run pins s1 σ H1 _ I1 q1) fun u s2 g2 => ?_)
  obtain ⟨y, H2, I2, r2, q2⟩ := g2
  refine thn (ho pins s2 σ H2 x y v u _ I2 r1 r2 q2) fun w s3 g3 => ?_
  obtain ⟨z, H3, I3, r3, k, rfl, q3⟩ := g3
  cases r3
  refine wpAny_truthy_bool ?_
  cases k with
  | false =>
    obtain ⟨k', e', q'⟩ := q3
    cases e'
    exact ite_ff ⟨H3, I3, q'⟩
  | true =>
    refine ite_tt (test_link (thn (hc.run pins s3 σ H3 _ I3 q3) fun u' s4 g4 => ?_))
    obtain ⟨y', H4, I4, r4, q4⟩ := g4
    refine thn (ho' pins s4 σ H4 y y' u u' _ I4 r2 r4 q4) fun w' s5 g5 => ?_
    obtain ⟨z', H5, I5, r5, k5, rfl, q5⟩ := g5
    cases r5
    refine wpAny_truthy_bool ?_
    cases k5 with
    | false =>
      obtain ⟨k', e', q'⟩ := q5
      cases e'
      exact ite_ff ⟨H5, I5, q'⟩
    | true =>
      refine ite_tt (test_last (thn (hd.run pins s5 σ H5 _ I5 q5) fun u6 s6 g6 => ?_))
      obtain ⟨y6, H6, I6, r6, q6⟩ := g6
      refine thn (ho'' pins s6 σ H6 y' y6 u' u6 _ I6 r4 r6 q6) fun w7 s7 g7 => ?_
      obtain ⟨z7, H7, I7, r7, k7, rfl, q7⟩ := g7
      cases r7
      exact wpAny_truthy_bool ⟨H7, I7, q7⟩
section
variable {σ : L2.St} {H : Hp} {ta tb tc td : TE}
theorem et_chain3 {f g h : Int → Int → Bool} {i j k l : Int} (ha : Ev ta σ H (.int i)) (hb : Ev tb σ H (.int j)) (hc : Ev tc σ H (.int k)) (hd : Ev td σ H (.int l)) :
    EvT (tTest (tChain3 (rI0 fun i j => .bl (f i j)) (rI0 fun i j => .bl (g i j)) (rI0 fun i j => .bl (h i j)) ta tb tc td)) σ H (f i j && (g j k && h k l)) := fun H1 e1 Q q =>
  ha H1 e1 _ fun H2 e2 => hb H2 (e1.trans e2) _ fun H3 e3 => ⟨i, j, rfl, rfl, f i j, rfl, by
    revert q
    cases f i j with
    | false => exact fun q => iteF ⟨_, rfl, q H3 (e2.trans e3)⟩
    | true =>
      intro q
      refine iteT (hc H3 ((e1.trans e2).trans e3) _ fun H4 e4 => ⟨j, k, rfl, rfl, g j k, rfl, ?_⟩)
      revert q
      cases g j k with
      | false => exact fun q => iteF ⟨_, rfl, q H4 ((e2.trans e3).trans e4)⟩
      | true => exact fun q => iteT (hd H4 (((e1.trans e2).trans e3).trans e4) _ fun H5 e5 => ⟨k, l, rfl, rfl, _, rfl, q H5 (((e2.trans e3).trans e4).trans e5)⟩)⟩
theorem ev_chain {f g : Int → Int → Bool} {i j k : Int} (ha : Ev ta σ H (.int i)) (hb : Ev tb σ H (.int j)) (hc : Ev tc σ H (.int k)) :
    Ev (tChain (rI0 fun i j => .bl (f i j)) (rI0 fun i j => .bl (g i j)) ta tb tc) σ H (.bl (f i j && g j k)) := fun H1 e1 Q q =>
  ha H1 e1 _ fun H2 e2 => hb H2 (e1.trans e2) _ fun H3 e3 => ⟨i, j, rfl, rfl, f i j, rfl, by
    revert q
    cases f i j with
    | false => exact fun q => iteF (q H3 (e2.trans e3))
    | true => exact fun q => iteT (hc H3 ((e1.trans e2).trans e3) _ fun H4 e4 => ⟨j, k, rfl, rfl, q H4 ((e2.trans e3).trans e4)⟩)⟩
end
end My
namespace My
open PySem PySem.Spec PyProof.Rows L2 Evl
/-! ### f-strings -/
theorem str_len_app (a b : Str) : (a ++ b).length = a.length + b.length := by
  show (a.cps ++ b.cps).size = a.cps.size + b.cps.size
  exact Array.size_append
section
variable {σ : L2.St} {H : Hp} {t te : TE} {ts : List TE} {acc y out : Str}
def EvJ (ts : List TE) (acc : Str) (σ : L2.St) (H : Hp) (out : Str) : Prop := ∀ H1, Ex H H1 → ∀ Q : Str → Hp → Prop, (∀ H2, Ex H1 H2 → Q out H2) → tJs ts acc σ H1 Q
theorem ej_nil : EvJ [] acc σ H acc := fun H1 _ Q q => q H1 (Ex.refl H1)
theorem ej_cons (h : Ev t σ H (.str y)) (r : EvJ ts (acc ++ y) σ H out) (hl : (acc ++ y).length ≤ sizeLine) : EvJ (t :: ts) acc σ H out := fun H1 e Q q =>
  h H1 e _ fun H2 e2 => ⟨y, rfl, hl, r H2 (e.trans e2) Q fun H3 e3 => q H3 (e2.trans e3)⟩
theorem ev_joined (h : EvJ ts Str.empty σ H out) : Ev (fun σ H Q => tJs ts Str.empty σ H fun out H1 => Q (.str out) H1) σ H (.str out) := fun H1 e Q q => h H1 e _ q
def small (i : Int) : Prop := i.natAbs < 2 ^ 1000
theorem log_ok {i : Int} (h : small i) : i.natAbs.log2 < 1920 := Nat.lt_of_lt_of_le (PySem.Flt.log2_lt_of (by decide) h) (by decide)
theorem fmt_int {i : Int} (h : Ev te σ H (.int i)) (hs : small i) : Ev (tFmt te) σ H (.str (toString i)) := fun H1 e Q q => h H1 e _ fun H2 e2 => .inr ⟨i, rfl, log_ok hs, q H2 e2⟩
theorem fmt_str {x : Str} (h : Ev te σ H (.str x)) (hs : x.length ≤ 10000) : Ev (tFmt te) σ H (.str x) := fun H1 e Q q => h H1 e _ fun H2 e2 => .inl ⟨x, rfl, sz_of (by omega), q H2 e2⟩
theorem small_len {i : Int} (h : small i) : (Str.ofString (toString i)).length ≤ 1921 := int_text_len_1921 (log_ok h)
theorem small_of {i : Int} (h1 : -(2 ^ 62) ≤ i) (h2 : i ≤ 2 ^ 62) : small i := by
  have : i.natAbs ≤ 2 ^ 62 := by omega
  exact Nat.lt_of_le_of_lt this (by decide)
end
/-- an error's two fields, stored by its __init__ -/
theorem ost_first {K : PySem.W.Frag} {f : Str} {to te : TE} {σ : L2.St} {H : Hp} {D : Ends} {tz : TS} {a C : Addr} {y : V} (he : Ev te σ H y) (ho : Ev to σ H (.ref a)) (T : OexC K C) (hn : PySem.W.findIn K (.ref C) f = some none) (ha : H a = some (exo a C none))
    (k : ∀ dx H1, Ex H H1 → H1 dx = none → dx ≠ a → tz D σ (upd (upd H1 dx (exd dx [(f, y)])) a (exo a C (some dx)))) : tSeq (tOst K f to te) tz D σ H := he H (Ex.refl H) _ fun H1 e1 => ho H1 e1 _ fun H2 e2 =>
  ⟨a, C, rfl, T, hn, .inl ⟨e2 _ _ (e1 _ _ ha), fun dx n ne => k dx H2 (e1.trans e2) n ne⟩⟩
theorem ost_last {K : PySem.W.Frag} {f : Str} {to te : TE} {σ : L2.St} {H : Hp} {D : Ends} {a C dx : Addr} {fs : List (Str × V)} {y : V} (he : Ev te σ H y) (ho : Ev to σ H (.ref a)) (T : OexC K C) (hn : PySem.W.findIn K (.ref C) f = some none) (ha : H a = some (exo a C (some dx))) (hd : H dx = some (exd dx fs)) (hl : fs.length ≤ 900)
    (k : ∀ H1, Ex H H1 → D.nx σ (upd H1 dx (exd dx ((f, y) :: fs)))) : tOst K f to te D σ H := he H (Ex.refl H) _ fun H1 e1 => ho H1 e1 _ fun H2 e2 =>
  ⟨a, C, rfl, T, hn, .inr ⟨dx, fs, e2 _ _ (e1 _ _ ha), e2 _ _ (e1 _ _ hd), hl, k H2 (e1.trans e2)⟩⟩
end My

namespace My
open PySem PySem.Spec PyProof.Rows L2 Evl
/-! ### fields of own instances, made by their class -/
theorem lk_hit {f : Str} {v : V} {r : List (Str × V)} : ((f, v) :: r).lookup f = some v := by simp [List.lookup]
theorem lk_miss {f g : Str} {v : V} {r : List (Str × V)} (h : f ≠ g) : ((g, v) :: r).lookup f = r.lookup f := by
  have : (f == g) = false := beq_eq_false_iff_ne.mpr h
  simp [List.lookup, this]
theorem put_hit {f : Str} {v x : V} {r : List (Str × V)} : putF f v ((f, x) :: r) = (f, v) :: r := by simp [putF]
theorem put_miss {f g : Str} {v x : V} {r : List (Str × V)} (h : g ≠ f) : putF f v ((g, x) :: r) = (g, x) :: putF f v r := by
  show (if g = f then _ else _) = _
  rw [if_neg h]
section
variable {K : PySem.W.Frag} {σ : L2.St} {H H' : Hp} {ta tb te tx tv : TE} {t u : TT} {x y z v : V} {D : Ends} {tu tw tz : TS} {g : TG} {i j : Int} {b : Bool} {C a dx : Addr} {fs : List (Str × V)} {f : Str}
theorem ev_fld (h : Ev ta σ H (.ref a)) (ha : H a = some (.ins C dx fs)) (c : Cls K C) (n : NoAttr K C f) (l : fs.lookup f = some v) : Ev (tFld K ta f) σ H v := fun H1 e Q q => h H1 e _ fun H2 e2 =>
  ⟨a, C, dx, fs, v, rfl, (e.trans e2) _ _ ha, c, n, l, q H2 e2⟩
theorem q_fld (hv : Ev tv σ H y) (ho : Ev ta σ H (.ref a)) (ha : H a = some (.ins C dx fs)) (c : Cls K C) (n : NoAttr K C f) (l : fs.length < 1000) (k : ∀ H1, Ex H H1 → tz D σ (upd H1 a (.ins C dx (putF f y fs)))) : tSeq (sFld K ta tv f) tz D σ H :=
  hv H (Ex.refl H) _ fun H1 e1 => ho H1 e1 _ fun H2 e2 => ⟨a, C, dx, fs, rfl, (e1.trans e2) _ _ ha, c, n, l, k H2 (e1.trans e2)⟩
theorem s_fld (hv : Ev tv σ H y) (ho : Ev ta σ H (.ref a)) (ha : H a = some (.ins C dx fs)) (c : Cls K C) (n : NoAttr K C f) (l : fs.length < 1000) (k : ∀ H1, Ex H H1 → D.nx σ (upd H1 a (.ins C dx (putF f y fs)))) : sFld K ta tv f D σ H :=
  hv H (Ex.refl H) _ fun H1 e1 => ho H1 e1 _ fun H2 e2 => ⟨a, C, dx, fs, rfl, (e1.trans e2) _ _ ha, c, n, l, k H2 (e1.trans e2)⟩
/-- a value of some kind, told by a predicate of the heap -/
def EvP (te : TE) (σ : L2.St) (H : Hp) (P : V → Hp → Prop) : Prop := ∀ H1, Ex H H1 → ∀ Q : VK, (∀ v H2, Ex H1 H2 → P v H2 → Q v H2) → te σ H1 Q
theorem qp_fld {P : V → Hp → Prop} (hv : EvP tv σ H P) (ho : Ev ta σ H (.ref a)) (hP : ∀ v H1 H2, Ex H1 H2 → P v H1 → P v H2) (ha : H a = some (.ins C dx fs)) (c : Cls K C) (n : NoAttr K C f) (l : fs.length < 1000) (k : ∀ y H1, Ex H H1 → P y H1 → tz D σ (upd H1 a (.ins C dx (putF f y fs)))) : tSeq (sFld K ta tv f) tz D σ H :=
  hv H (Ex.refl H) _ fun y H1 e1 p => ho H1 e1 _ fun H2 e2 => ⟨a, C, dx, fs, rfl, (e1.trans e2) _ _ ha, c, n, l, k y H2 (e1.trans e2) (hP _ _ _ e2 p)⟩
theorem qu_fld {xs : List V} (hv : EvU tv σ H xs) (ho : Ev ta σ H (.ref a)) (ha : H a = some (.ins C dx fs)) (c : Cls K C) (n : NoAttr K C f) (l : fs.length < 1000) (k : ∀ p H1, H p = none → Ex H H1 → H1 p = some (.tup xs) → tz D σ (upd H1 a (.ins C dx (putF f (.ref p) fs)))) : tSeq (sFld K ta tv f) tz D σ H :=
  hv H (Ex.refl H) _ fun p H1 n1 e1 h1 => ho H1 e1 _ fun H2 e2 => ⟨a, C, dx, fs, rfl, (e1.trans e2) _ _ ha, c, n, l, k p H2 n1 (e1.trans e2) (e2 _ _ h1)⟩
theorem su_fld {xs : List V} (hv : EvU tv σ H xs) (ho : Ev ta σ H (.ref a)) (ha : H a = some (.ins C dx fs)) (c : Cls K C) (n : NoAttr K C f) (l : fs.length < 1000) (k : ∀ p H1, H p = none → Ex H H1 → H1 p = some (.tup xs) → D.nx σ (upd H1 a (.ins C dx (putF f (.ref p) fs)))) : sFld K ta tv f D σ H :=
  hv H (Ex.refl H) _ fun p H1 n1 e1 h1 => ho H1 e1 _ fun H2 e2 => ⟨a, C, dx, fs, rfl, (e1.trans e2) _ _ ha, c, n, l, k p H2 n1 (e1.trans e2) (e2 _ _ h1)⟩
/-- tuple(x), x a list or a tuple: a tuple -/
theorem evp_tup {l : Addr} {xs : List V} (h : Ev te σ H (.ref l)) (hs : SqL K H l xs ∨ SqT K H l xs) : EvP (tCB (rTupQ K) (tCons te tNil)) σ H fun v H2 => ∃ p, v = .ref p ∧ SqT K H2 p xs := fun H1 e Q q =>
  h H1 e _ fun H2 e2 => ⟨l, xs, rfl, by
    rcases hs with hs | hs
    · exact .inl ⟨ex_l (e.trans e2) hs, fun p hp => q _ _ (e2.trans (Ex.new hp)) ⟨p, rfl, st_of upd_same⟩⟩
    · exact .inr ⟨ex_t (e.trans e2) hs, q _ _ e2 ⟨l, rfl, ex_t (e.trans e2) hs⟩⟩⟩
/-- tuple(a new list), tuple(a list): a new tuple -/
theorem eu_tupN {xs : List V} (h : EvL te σ H xs) : EvU (tCB (rTupQ K) (tCons te tNil)) σ H xs := fun H1 e Q q =>
  h H1 e _ fun p H2 n e2 h2 => ⟨p, xs, rfl, .inl ⟨sq_of h2, fun l hl => q l _ (fresh_back e2 hl) (e2.trans (Ex.new hl)) upd_same⟩⟩
theorem eu_tupL {l : Addr} {xs : List V} (h : Ev te σ H (.ref l)) (hs : SqL K H l xs) : EvU (tCB (rTupQ K) (tCons te tNil)) σ H xs := fun H1 e Q q =>
  h H1 e _ fun H2 e2 => ⟨l, xs, rfl, .inl ⟨ex_l (e.trans e2) hs, fun p hp => q p _ (fresh_back e2 hp) (e2.trans (Ex.new hp)) upd_same⟩⟩
theorem ev_sumN {ns : List Int} {xs : List V} (h : EvL te σ H xs) (hx : xs = ns.map V.int) : Ev (tCB (rSum K) (tCons te tNil)) σ H (.int ns.sum) := fun H1 e Q q =>
  h H1 e _ fun p H2 n e2 h2 => ⟨p, ns, rfl, sq_of (hx ▸ h2), q H2 e2⟩
theorem sqt_keep {p : Addr} {o o2 : HO} {xs : List V} (hp : H p = some o2) (h1 : ∀ xs, o2 ≠ .tup xs) (h2 : ∀ c d, o2 ≠ .frz c d) (h : SqT K H a xs) : SqT K (upd H p o) a xs := by
  rcases h with (h | ⟨c, h⟩) | h
  · refine .inl (.inl ?_)
    rw [upd_ne]
    · exact h
    · intro z
      subst z
      rw [hp] at h
      exact h1 _ (Option.some.inj h)
  · refine .inl (.inr ⟨c, ?_⟩)
    rw [upd_ne]
    · exact h
    · intro z
      subst z
      rw [hp] at h
      exact h2 _ _ (Option.some.inj h)
  · exact .inr h
/-- for over reversed(a tuple), behind it a word B -/
theorem q_forRevT {xs : List V} (h : Ev te σ H (.ref a)) (hx : SqT K H a xs) (Pv : Nat → L2.St → Hp → Prop) (B : L2.St → Hp → Prop) (h0 : ∀ H1, Ex H H1 → Pv 0 σ H1) (hl : ∀ i σ' H', Pv i σ' H' → SqT K H' a xs)
    (hs : ∀ (i : Nat) x σ' H', i < xs.length → xs[xs.length - 1 - i]? = some x → Pv i σ' H' → g x σ' H' fun σ2 H2 => tu { D with nx := Pv (i + 1), ct := Pv (i + 1), bk := B } σ2 H2) (hd : ∀ σ' H', Pv xs.length σ' H' → B σ' H')
    (hb : ∀ σ' H', B σ' H' → tz D σ' H') : tCut (tFor (RT.iRevA K te) g tu) tz D σ H :=
  ⟨B, h H (Ex.refl H) _ fun H1 e => ⟨a, xs, rfl, .inr ⟨ex_t e hx, RT.for_ItvT Pv (h0 H1 e) hl hs hd⟩⟩, hb⟩
/-- a comprehension over zip of two tuples of one length -/
theorem el_lcZT {ta : TA} {a b : Addr} {xs ys : List V} {n m : Nat} {vs : List Nat} (v : Nat → V) (h : EvA ta σ H [.ref a, .ref b]) (hx : SqT K H a xs) (hy : SqT K H b ys) (hl : xs.length = ys.length) (hz : xs.length ≤ 40000)
    (hw : ∀ x y, wipe (((wipe σ vs).set n (some x)).set m (some y)) vs = wipe σ vs)
    (he : ∀ (i : Nat) (x y : V) H1, Ex H H1 → xs[i]? = some x → ys[i]? = some y → Ev te (((wipe σ vs).set n (some x)).set m (some y)) H1 (v i)) :
    EvL (tLc (RZ.iZipA K ta) (gTup K 2 (gCons (gName n) (gCons (gName m) gNil))) tYes te vs) σ H (given xs.length (fun _ => true) v) := fun H0 e Q q => h H0 e _ fun H1 e1 =>
  ⟨a, b, xs, ys, rfl, .inr ⟨ex_t (e.trans e1) hx, ex_t (e.trans e1) hy, fun Dl hD =>
    ⟨fun i k Hi => k = xs.length - i ∧ i ≤ xs.length ∧ Cw H1 (fun _ => true) v Dl i Hi, ⟨xs.length, rfl, Nat.zero_le _, hD, Ex.new hD, upd_same⟩, by
      rintro i k Hi ⟨rfl, hi, p⟩
      have qx := ex_t ((e.trans e1).trans p.2.1) hx
      have qy := ex_t ((e.trans e1).trans p.2.1) hy
      by_cases hlt : i < xs.length
      · have hlt2 : i < ys.length := by omega
        refine .inr ⟨⟨xs, ys, _, _, qx, qy, List.getElem?_eq_getElem hlt, List.getElem?_eq_getElem hlt2⟩, Cw H1 (fun _ => true) v Dl (i + 1), fun H' p' => ⟨xs.length - (i + 1), by omega, rfl, hlt, p'⟩, fun u Hu yy => ?_⟩
        obtain ⟨T, x', y', rfl, hT, rfl, f1, f2⟩ := yy
        have gx := f1 xs qx
        have gy := f2 ys qy
        have hTD : T ≠ Dl := fun z => by
          rw [z, p.2.2] at hT
          cases hT
        have p2 : Cw H1 (fun _ => true) v Dl i (upd Hi T (.tup [x', y'])) := ⟨p.1, p.2.1.trans (Ex.new hT), by rw [upd_ne hTD.symm]; exact p.2.2⟩
        exact ⟨T, [x', y'], rfl, st_of upd_same, rfl, x', [y'], rfl, y', [], rfl, rfl, hw _ _, cw_turn (t := tYes) p2 (by omega) (fun H3 e3 Q3 q3 => q3 H3 (Ex.refl H3)) fun _ => he i x' y' H1 (e.trans e1) gx gy⟩
      · have ei : i = xs.length := by omega
        subst ei
        exact .inl ⟨⟨xs, ys, qx, qy, .inl (Nat.le_refl _)⟩, q Dl Hi (fresh_back e1 p.1) (e1.trans p.2.1) p.2.2⟩⟩⟩⟩
end
end My
namespace My
open PySem PySem.Spec PyProof.Rows L2 Evl
section
variable {K : PySem.W.Frag} {σ : L2.St} {H H' : Hp} {ta tb te tx tv : TE} {t u : TT} {x y z v : V} {D : Ends} {tu tw tz : TS} {g : TG} {i j : Int} {b : Bool} {C a dx : Addr} {fs : List (Str × V)} {f : Str}
theorem takes0 {X : Cx} : Takes X (fun _ _ _ _ => False) := fun _ _ x => by
  obtain ⟨_, _, _, _, _, _, _, _, _, _, _, _, _, _, _, _, z⟩ := x
  exact z.elim
theorem given_all {zs : List V} {n : Nat} (hn : zs.length = n) : given n (fun _ => true) (fun i => zs.getD i .non) = zs := by
  subst hn
  unfold given
  rw [List.filter_eq_self.mpr (by simp)]
  refine List.ext_getElem? fun i => ?_
  rw [List.getElem?_map]
  by_cases h : i < zs.length
  · rw [List.getElem?_range h, List.getElem?_eq_getElem h]
    simp [List.getD, h]
  · rw [List.getElem?_eq_none (by simpa using h), List.getElem?_eq_none (by omega)]
    rfl
theorem getD_some {zs : List V} {i : Nat} {n : Nat} (hn : zs.length = n) (h : i < n) : zs[i]? = some (zs.getD i .non) := by
  subst hn
  rw [List.getElem?_eq_getElem h]
  simp [List.getD, h]
/-- a comprehension over zip of two tuples: its items are zs -/
theorem el_zipT {ta : TA} {a b : Addr} {xs ys zs : List V} {n m : Nat} {vs : List Nat} (h : EvA ta σ H [.ref a, .ref b]) (hx : SqT K H a xs) (hy : SqT K H b ys) (hl : xs.length = ys.length) (hzs : zs.length = xs.length) (hz : xs.length ≤ 40000)
    (hw : ∀ x y, wipe (((wipe σ vs).set n (some x)).set m (some y)) vs = wipe σ vs)
    (he : ∀ (i : Nat) (x y z : V) H1, Ex H H1 → xs[i]? = some x → ys[i]? = some y → zs[i]? = some z → Ev te (((wipe σ vs).set n (some x)).set m (some y)) H1 z) :
    EvL (tLc (RZ.iZipA K ta) (gTup K 2 (gCons (gName n) (gCons (gName m) gNil))) tYes te vs) σ H zs := by
  have q := el_lcZT (te := te) (fun i => zs.getD i .non) h hx hy hl hz hw fun i x y H1 e hx' hy' => he i x y _ H1 e hx' hy' (getD_some hzs (by
    have := (List.getElem?_eq_some_iff.mp hx').1
    omega))
  rwa [given_all hzs] at q
theorem et_yes : EvT tYes σ H true := fun H1 _ _ q => q H1 (Ex.refl H1)
/-- .. over a range, without a test -/
theorem el_rng {ta : TA} {j : Nat} {vs : List Nat} {n : Int} {zs : List V} (h : EvA ta σ H [.int n]) (hn : 0 ≤ n ∧ n ≤ 40000) (hzs : zs.length = n.toNat) (hw : ∀ x, wipe ((wipe σ vs).set j (some x)) vs = wipe σ vs)
    (he : ∀ (i : Nat) (z : V) H1, Ex H H1 → (i : Int) < n → zs[i]? = some z → Ev te ((wipe σ vs).set j (some (.int (i : Int)))) H1 z) :
    EvL (tLc (iRng1 ta) (gName j) tYes te vs) σ H zs := by
  have q := el_lcR1 (t := tYes) (te := te) (fun _ => true) (fun i => zs.getD i .non) h hn hw (fun i H1 _ _ => et_yes) fun i H1 e hi _ => he i _ H1 e hi (getD_some hzs (by omega))
  rwa [given_all hzs] at q
end
end My
namespace My
open PySem PySem.Spec PyProof.Rows L2 Evl
/-! ### methods; calls that may raise -/
section
variable {K : PySem.W.Frag} {σ : L2.St} {H H' : Hp} {ta tb te tx tv : TE} {t : TA} {x y z v : V} {D : Ends} {tu tw tz : TS} {C a dx : Addr} {fs : List (Str × V)} {m : Str} {sp : Sp} {E : XK} {ES : L2.St → XK} {vs : List V} {Q : VK} {d : PyData}
theorem cs_ask (ht : EvA t σ H vs) (k : ∀ H1, Ex H H1 → sp vs H1 Q (ES σ)) : tCallS sp ES t σ H Q := ht H (Ex.refl H) _ k
theorem ms_ask (ho : Ev ta σ H (.ref a)) (hi : H a = some (.ins C dx fs)) (hm : fs.lookup m = none) (ht : EvA t σ H vs) (k : ∀ H1, Ex H H1 → sp (.ref a :: vs) H1 Q (ES σ)) : tMethS C m sp ES ta t σ H Q := ho H (Ex.refl H) _ fun H1 e1 =>
  ⟨a, dx, fs, rfl, e1 _ _ hi, hm, ht H1 e1 _ fun H2 e2 => k H2 (e1.trans e2)⟩
theorem mm_ask (ho : Ev ta σ H (.ref a)) (hi : H a = some (.ins C dx fs)) (hm : fs.lookup m = none) (ht : EvA t σ H vs) (k : ∀ H1, Ex H H1 → sp (.ref a :: vs) H1 Q E) : tMeth C m sp [] E ta t σ H Q := ho H (Ex.refl H) _ fun H1 e1 =>
  ⟨a, dx, fs, rfl, e1 _ _ hi, hm, ht H1 e1 _ fun H2 e2 => by
    rw [List.append_nil]
    exact k H2 (e1.trans e2)⟩
theorem ev_callS (ht : EvA t σ H vs) (k : SpV sp vs H z) : Ev (tCallS sp ES t) σ H z := fun H1 e Q q => cs_ask (ht.mono e) fun H2 e2 => k H2 (e.trans e2) Q (fun H3 e3 => q H3 (e2.trans e3)) _
theorem ev_methS (ho : Ev ta σ H (.ref a)) (hi : H a = some (.ins C dx fs)) (hm : fs.lookup m = none) (ht : EvA t σ H vs) (k : SpV sp (.ref a :: vs) H z) : Ev (tMethS C m sp ES ta t) σ H z := fun H1 e Q q =>
  ms_ask (ho.mono e) (e _ _ hi) hm (ht.mono e) fun H2 e2 => k H2 (e.trans e2) Q (fun H3 e3 => q H3 (e2.trans e3)) _
theorem ev_meth (ho : Ev ta σ H (.ref a)) (hi : H a = some (.ins C dx fs)) (hm : fs.lookup m = none) (ht : EvA t σ H vs) (k : SpV sp (.ref a :: vs) H z) : Ev (tMeth C m sp [] E ta t) σ H z := fun H1 e Q q =>
  mm_ask (ho.mono e) (e _ _ hi) hm (ht.mono e) fun H2 e2 => k H2 (e.trans e2) Q (fun H3 e3 => q H3 (e2.trans e3)) _
/-- what a call gives is data -/
def SpVD (K : PySem.W.Frag) (sp : Sp) (vs : List V) (H : Hp) (d : PyData) : Prop := ∀ H1, Ex H H1 → ∀ Q : VK, RetD K d H1 Q → ∀ E : XK, sp vs H1 Q E
theorem evd_callV (ht : EvA t σ H vs) (k : SpVD K sp vs H d) : EvD K (tCall sp [] E t) σ H d := fun H1 e Q q => ht H1 e _ fun H2 e2 => by
  show sp (vs ++ []) H2 Q E
  rw [List.append_nil]
  exact k H2 (e.trans e2) Q (fun v H3 e3 hd => q v H3 (e2.trans e3) hd) E
theorem evd_methS (ho : Ev ta σ H (.ref a)) (hi : H a = some (.ins C dx fs)) (hm : fs.lookup m = none) (ht : EvA t σ H vs) (k : SpVD K sp (.ref a :: vs) H d) : EvD K (tMethS C m sp ES ta t) σ H d := fun H1 e Q q =>
  ms_ask (ho.mono e) (e _ _ hi) hm (ht.mono e) fun H2 e2 => k H2 (e.trans e2) Q (fun v H3 e3 hd => q v H3 (e2.trans e3) hd) _
theorem evd_meth (ho : Ev ta σ H (.ref a)) (hi : H a = some (.ins C dx fs)) (hm : fs.lookup m = none) (ht : EvA t σ H vs) (k : SpVD K sp (.ref a :: vs) H d) : EvD K (tMeth C m sp [] E ta t) σ H d := fun H1 e Q q =>
  mm_ask (ho.mono e) (e _ _ hi) hm (ht.mono e) fun H2 e2 => k H2 (e.trans e2) Q (fun v H3 e3 hd => q v H3 (e2.trans e3) hd) _
end
end My
namespace My
open PySem PySem.Spec PyProof.Rows L2 Evl
/-! ### isinstance of a caught error -/
section
variable {K : PySem.W.Frag} {σ : L2.St} {H H' : Hp} {te tx : TE} {ta : TA} {D a dd : Addr} {fs : List (Str × V)} {c v : V} {cv : Value} {b : Bool} {f : Str}
theorem ev_isX {tc : TE} (hx : Ev tx σ H (.ref a)) (hc : Ev tc σ H c) (hd : H dd = some (.xd fs)) (k : ClsV c cv) (hk : PySem.W.kitOne K (.ref D) cv = some b) : Ev (tCB (rIsX K D a (.ref D) (some dd)) (tCons tx (tCons tc tNil))) σ H (.bl b) := fun H1 e Q q =>
  hx H1 e _ fun H2 e2 => hc H2 (e.trans e2) _ fun H3 e3 => ⟨rfl, ⟨dd, fs, rfl, ((e.trans e2).trans e3) _ _ hd⟩, .inl ⟨c, cv, b, rfl, k, hk, q H3 (e2.trans e3)⟩⟩
theorem ev_isXT {cs : List V} {us : List Value} (hx : Ev tx σ H (.ref a)) (hc : EvA ta σ H cs) (hl : cs.length ≤ 100) (hd : H dd = some (.xd fs)) (k : Paired ClsV cs us) (hk : PySem.W.kitAny K (.ref D) us = some b) : Ev (tCB (rIsX K D a (.ref D) (some dd)) (tCons tx (tCons (tTup ta) tNil))) σ H (.bl b) := fun H1 e Q q =>
  hx H1 e _ fun H2 e2 => hc H2 (e.trans e2) _ fun H3 e3 => ⟨sz_of (by omega), fun p hp => by
    have E3 := (e2.trans e3).trans (Ex.new (o := .tup cs) hp)
    exact ⟨rfl, ⟨dd, fs, rfl, (e.trans E3) _ _ hd⟩, .inr ⟨p, cs, us, b, rfl, upd_same, k, hk, q _ E3⟩⟩⟩
theorem ev_xf (hx : Ev te σ H (.ref a)) (hd : H dd = some (.xd fs)) (hl : fs.lookup f = some v) : Ev (tXf a (.ref D) (some dd) D f te) σ H v := fun H1 e Q q =>
  hx H1 e _ fun H2 e2 => ⟨rfl, rfl, dd, fs, v, rfl, (e.trans e2) _ _ hd, hl, q H2 e2⟩
/-- an error class named by a def, its catch in a suite -/
theorem catch_as {C B : Addr} {i : Nat} {ts : Addr → Value → Option Addr → TS} {Wout : WX} {DD : Ends} (hx : PySem.W.exmOne K (.ref C) (.ref B) = some true)
    (k : ∀ d H', H d = none → Ex H H' → H' d = some (.xd fs) → ∀ a, H' a = none → ts a (.ref C) (some d) { nx := fun σ' H' => DD.nx (σ'.set i none) H', rt := DD.rt, bk := fun σ' H' => DD.bk (σ'.set i none) H', ct := fun σ' H' => DD.ct (σ'.set i none) H' } (σ.set i (some (.ref a))) H') :
    RaiseR C fs H (WE (wAs K (.ref B) i ts Wout DD) σ) := fun d H' n e h => ⟨true, hx, fun _ a na => k d H' n e h a na, fun z => nomatch z⟩
end
end My
namespace My
open PySem PySem.Spec PyProof.Rows L2 Evl
section
variable {K : PySem.W.Frag} {σ : L2.St} {H H' : Hp} {te tx : TE} {ta : TA} {a l : Addr} {v : V} {xs : List V} {ns : List Int}
theorem evd_Li (h : EvL te σ H (ns.map V.int)) : EvD K te σ H (.list (ns.map PyData.int)) := fun H1 e Q q => h H1 e _ fun p H2 _ e2 h2 => q _ H2 e2 (.lst (sq_of h2) (dpa_ints ns))
theorem evd_Ui (h : EvU te σ H (ns.map V.int)) : EvD K te σ H (.tuple (ns.map PyData.int)) := fun H1 e Q q => h H1 e _ fun p H2 _ e2 h2 => q _ H2 e2 (.tup (st_of h2) (dpa_ints ns))
theorem dp_tups {a : Addr} (h : SqT K H a (ns.map V.int)) : Dp K H (.ref a) (.tuple (ns.map PyData.int)) := .tup h (dpa_ints ns)
theorem el_listQ (ha : Ev te σ H (.ref a)) (h : SqL K H a xs) : EvL (tCB (rListQ K) (tCons te tNil)) σ H xs := fun H1 e Q q =>
  ha H1 e _ fun H2 e2 => ⟨a, xs, rfl, .inl (ex_l (e.trans e2) h), fun l hl => q l _ (fresh_back e2 hl) (e2.trans (Ex.new hl)) upd_same⟩
theorem dn_tups {n : Nat} (h : ns.length ≤ 40000) : Dn (n + 1) (.tuple (ns.map PyData.int)) := by
  simp only [Dn, List.length_map]
  refine ⟨h, fun d hd => ?_⟩
  obtain ⟨x, _, rfl⟩ := List.mem_map.mp hd
  simp [Dn]
theorem dn_lists {n : Nat} (h : ns.length ≤ 40000) : Dn (n + 1) (.list (ns.map PyData.int)) := by
  simp only [Dn, List.length_map]
  refine ⟨h, fun d hd => ?_⟩
  obtain ⟨x, _, rfl⟩ := List.mem_map.mp hd
  simp [Dn]
theorem dn_int {n : Nat} {i : Int} : Dn n (.int i) := by simp [Dn]
theorem sql_keep {p : Addr} {o o2 : HO} (hp : H p = some o2) (h1 : ∀ xs, o2 ≠ .lst xs) (h2 : ∀ c d, o2 ≠ .frz c d) (h : SqL K H a xs) : SqL K (upd H p o) a xs := by
  rcases h with (h | ⟨c, h⟩) | h
  · refine .inl (.inl ?_)
    rw [upd_ne]
    · exact h
    · intro z
      subst z
      rw [hp] at h
      exact h1 _ (Option.some.inj h)
  · refine .inl (.inr ⟨c, ?_⟩)
    rw [upd_ne]
    · exact h
    · intro z
      subst z
      rw [hp] at h
      exact h2 _ _ (Option.some.inj h)
  · exact .inr h
/-- a value that is a list or a tuple -/
theorem evp_var {i : Nat} {P : V → Hp → Prop} (h : σ[i]? = some (some v)) (p : ∀ H1, Ex H H1 → P v H1) : EvP (tVar i) σ H P := fun H1 e Q q => ev_var h H1 e _ fun H2 e2 => q _ H2 e2 (p H2 (e.trans e2))
theorem evp_U {P : V → Hp → Prop} (h : EvU te σ H xs) (p : ∀ l H1, H1 l = some (.tup xs) → P (.ref l) H1) : EvP te σ H P := fun H1 e Q q => h H1 e _ fun l H2 _ e2 h2 => q _ H2 e2 (p l H2 h2)
end
end My

namespace Mi
open PySem PySem.Spec PyProof.Rows L2 Evl My
/-! ### values and a store of one's own; what a piece of the program does to them -/
inductive D where
  | non | bl (b : Bool) | int (i : Int) | str (x : Str) | ref (l : Nat) | tup (xs : List D)
/-- what lies at a place of the store: a list, a list that is only read, a dict, an instance -/
inductive O where
  | lst (xs : List D) | rol (xs : List D) | dK (kvs : List (Key × D)) | dT (kvs : List (List Key × D)) | ins (C : Str) (fs : List (Str × D)) | set (f : Int → Bool) (n : Nat) | opq
abbrev Sto := List O
/-- what an expression ends with: a value, an error of an own class, nothing that is told -/
inductive R (α : Type) where
  | ok (a : α) (S : Sto) | exc (c : Str) (fs : List (Str × D)) (S : Sto) | bad
abbrev Env := List (Option D)
inductive RS where
  | nx (e : Env) (S : Sto) | ret (d : D) (S : Sto) | bk (e : Env) (S : Sto) | ct (e : Env) (S : Sto) | exc (c : Str) (fs : List (Str × D)) (e : Env) (S : Sto) | bad
def R.bind {α β : Type} (r : R α) (g : α → Sto → R β) : R β := match r with
  | .ok a S => g a S
  | .exc c fs S => .exc c fs S
  | .bad => .bad
def R.bindS {α : Type} (r : R α) (env : Env) (g : α → Sto → RS) : RS := match r with
  | .ok a S => g a S
  | .exc c fs S => .exc c fs env S
  | .bad => .bad
def RS.seq (r : RS) (g : Env → Sto → RS) : RS := match r with
  | .nx e S => g e S
  | r => r
@[simp] theorem R.bind_ok {α β : Type} {a : α} {S : Sto} {g : α → Sto → R β} : (R.ok a S).bind g = g a S := rfl
@[simp] theorem R.bind_exc {α β : Type} {c : Str} {fs : List (Str × D)} {S : Sto} {g : α → Sto → R β} : (R.exc c fs S).bind g = .exc c fs S := rfl
@[simp] theorem R.bind_bad {α β : Type} {g : α → Sto → R β} : (R.bad).bind g = .bad := rfl
@[simp] theorem R.bindS_ok {α : Type} {a : α} {S : Sto} {env : Env} {g : α → Sto → RS} : (R.ok a S).bindS env g = g a S := rfl
@[simp] theorem R.bindS_exc {α : Type} {c : Str} {fs : List (Str × D)} {S : Sto} {env : Env} {g : α → Sto → RS} : (R.exc c fs S).bindS env g = .exc c fs env S := rfl
@[simp] theorem R.bindS_bad {α : Type} {env : Env} {g : α → Sto → RS} : (R.bad).bindS env g = .bad := rfl
@[simp] theorem RS.seq_nx {e : Env} {S : Sto} {g : Env → Sto → RS} : (RS.nx e S).seq g = g e S := rfl
@[simp] theorem RS.seq_ret {d : D} {S : Sto} {g : Env → Sto → RS} : (RS.ret d S).seq g = .ret d S := rfl
@[simp] theorem RS.seq_bk {e : Env} {S : Sto} {g : Env → Sto → RS} : (RS.bk e S).seq g = .bk e S := rfl
@[simp] theorem RS.seq_ct {e : Env} {S : Sto} {g : Env → Sto → RS} : (RS.ct e S).seq g = .ct e S := rfl
@[simp] theorem RS.seq_exc {c : Str} {fs : List (Str × D)} {e : Env} {S : Sto} {g : Env → Sto → RS} : (RS.exc c fs e S).seq g = .exc c fs e S := rfl
@[simp] theorem RS.seq_bad {g : Env → Sto → RS} : (RS.bad).seq g = .bad := rfl
/-- what lies at a place -/
def at_ (S : Sto) (l : Nat) : Option O := S[l]?
/-- a list that may be read -/
def rdL (S : Sto) (l : Nat) : Option (List D) := match at_ S l with
  | some (.lst xs) => some xs
  | some (.rol xs) => some xs
  | _ => none
/-! ### what stands for what -/
section
variable (K : PySem.W.Frag) (φ : Nat → Addr) (n : Nat) (H : Hp)
mutual
inductive VR : D → V → Prop where
  | non : VR .non .non
  | bl (b : Bool) : VR (.bl b) (.bl b)
  | int (i : Int) : VR (.int i) (.int i)
  | str (x : Str) : VR (.str x) (.str x)
  | ref {l : Nat} (h : l < n) : VR (.ref l) (.ref (φ l))
  | tup {a : Addr} {xs : List D} {vs : List V} (h : SqT K H a vs) (t : VRs xs vs) : VR (.tup xs) (.ref a)
inductive VRs : List D → List V → Prop where
  | nil : VRs [] []
  | cons {x : D} {v : V} {xs : List D} {vs : List V} (h : VR x v) (t : VRs xs vs) : VRs (x :: xs) (v :: vs)
end
inductive KR {κ : Type} : List (κ × D) → List (κ × V) → Prop where
  | nil : KR [] []
  | cons {k : κ} {x : D} {v : V} {xs : List (κ × D)} {vs : List (κ × V)} (h : VR K φ n H x v) (t : KR xs vs) : KR ((k, x) :: xs) ((k, v) :: vs)
def OR (a : Addr) : O → Prop
  | .lst xs => ∃ vs, H a = some (.lst vs) ∧ VRs K φ n H xs vs
  | .rol xs => ∃ vs, ((∃ o, H a = some (.frz o (.lst vs))) ∨ ∀ H', SqL K H' a vs) ∧ VRs K φ n H xs vs
  | .dK kvs => ∃ kws, H a = some (.dK kws) ∧ KR K φ n H kvs kws
  | .dT kvs => ∃ kws, H a = some (.dT kws) ∧ KR K φ n H kvs kws
  | .ins C fs => ∃ dx fv, H a = some (.ins (He.ga K C) dx fv) ∧ KR K φ n H fs fv
  | .set f m => H a = some (.set f m)
  | .opq => True
end
def mutO : O → Bool
  | .rol _ => false
  | .opq => false
  | _ => true
structure Rel (K : PySem.W.Frag) (φ : Nat → Addr) (S : Sto) (H : Hp) : Prop where
  inj : ∀ i j o u, S[i]? = some o → S[j]? = some u → mutO o = true → mutO u = true → φ i = φ j → i = j
  ob : ∀ l o, S[l]? = some o → OR K φ S.length H (φ l) o
/-- what comes later -/
structure Fut (K : PySem.W.Frag) (φ : Nat → Addr) (n : Nat) (H : Hp) (φ' : Nat → Addr) (n' : Nat) (H' : Hp) : Prop where
  le : n ≤ n'
  ag : ∀ l, l < n → φ' l = φ l
  tp : ∀ a vs, SqT K H a vs → SqT K H' a vs
  xd : ∀ a fs, H a = some (.xd fs) → H' a = some (.xd fs)
section
variable {K : PySem.W.Frag} {φ φ1 φ2 φ' : Nat → Addr} {n n1 n2 n' : Nat} {H H1 H2 H' : Hp}
theorem Fut.refl : Fut K φ n H φ n H := ⟨Nat.le_refl _, fun _ _ => rfl, fun _ _ h => h, fun _ _ h => h⟩
theorem Fut.trans (a : Fut K φ n H φ1 n1 H1) (b : Fut K φ1 n1 H1 φ2 n2 H2) : Fut K φ n H φ2 n2 H2 :=
  ⟨Nat.le_trans a.le b.le, fun l h => (b.ag l (Nat.lt_of_lt_of_le h a.le)).trans (a.ag l h), fun c vs h => b.tp c vs (a.tp c vs h), fun c fs h => b.xd c fs (a.xd c fs h)⟩
theorem Fut.ex (e : Ex H H') : Fut K φ n H φ n H' := ⟨Nat.le_refl _, fun _ _ => rfl, fun _ _ h => ex_t e h, fun _ _ h => e _ _ h⟩
mutual
theorem VR.fut (f : Fut K φ n H φ' n' H') : ∀ {d : D} {v : V}, VR K φ n H d v → VR K φ' n' H' d v
  | _, _, .non => .non
  | _, _, .bl b => .bl b
  | _, _, .int i => .int i
  | _, _, .str x => .str x
  | _, _, .ref h => by rw [← f.ag _ h]; exact .ref (Nat.lt_of_lt_of_le h f.le)
  | _, _, .tup h t => .tup (f.tp _ _ h) (VRs.fut f t)
theorem VRs.fut (f : Fut K φ n H φ' n' H') : ∀ {d : List D} {v : List V}, VRs K φ n H d v → VRs K φ' n' H' d v
  | _, _, .nil => .nil
  | _, _, .cons h t => .cons (VR.fut f h) (VRs.fut f t)
end
theorem KR.fut {κ : Type} (f : Fut K φ n H φ' n' H') : ∀ {d : List (κ × D)} {v : List (κ × V)}, KR K φ n H d v → KR K φ' n' H' d v
  | _, _, .nil => .nil
  | _, _, .cons h t => .cons (VR.fut f h) (KR.fut f t)
theorem VRs.len : ∀ {d : List D} {v : List V}, VRs K φ n H d v → v.length = d.length
  | _, _, .nil => rfl
  | _, _, .cons _ t => congrArg Nat.succ (VRs.len t)
theorem VRs.app : ∀ {d e : List D} {v w : List V}, VRs K φ n H d v → VRs K φ n H e w → VRs K φ n H (d ++ e) (v ++ w)
  | _, _, _, _, .nil, h => h
  | _, _, _, _, .cons a t, h => .cons a (VRs.app t h)
theorem VRs.one {d : D} {v : V} (h : VR K φ n H d v) : VRs K φ n H [d] [v] := .cons h .nil
theorem VRs.get : ∀ {xs : List D} {vs : List V} {i : Nat} {x : D}, VRs K φ n H xs vs → xs[i]? = some x → ∃ v, vs[i]? = some v ∧ VR K φ n H x v
  | _, _, 0, _, .cons h _, e => ⟨_, rfl, by cases e; exact h⟩
  | _, _, i + 1, _, .cons _ t, e => VRs.get (i := i) t e
theorem VRs.take : ∀ {xs : List D} {vs : List V} (m : Nat), VRs K φ n H xs vs → VRs K φ n H (xs.take m) (vs.take m)
  | _, _, 0, _ => .nil
  | _, _, _ + 1, .nil => .nil
  | _, _, m + 1, .cons h t => .cons h (VRs.take m t)
theorem VRs.drop : ∀ {xs : List D} {vs : List V} (m : Nat), VRs K φ n H xs vs → VRs K φ n H (xs.drop m) (vs.drop m)
  | _, _, 0, h => h
  | _, _, _ + 1, .nil => .nil
  | _, _, m + 1, .cons _ t => VRs.drop m t
theorem VRs.set : ∀ {xs : List D} {vs : List V} {x : D} {v : V} (i : Nat), VRs K φ n H xs vs → VR K φ n H x v → VRs K φ n H (xs.set i x) (vs.set i v)
  | _, _, _, _, _, .nil, _ => .nil
  | _, _, _, _, 0, .cons _ t, h => .cons h t
  | _, _, _, _, i + 1, .cons h0 t, h => .cons h0 (VRs.set i t h)
theorem VRs.eraseIdx : ∀ {xs : List D} {vs : List V} (i : Nat), VRs K φ n H xs vs → VRs K φ n H (xs.eraseIdx i) (vs.eraseIdx i)
  | _, _, _, .nil => .nil
  | _, _, 0, .cons _ t => t
  | _, _, i + 1, .cons h0 t => .cons h0 (VRs.eraseIdx i t)
theorem VRs.dropLast : ∀ {xs : List D} {vs : List V}, VRs K φ n H xs vs → VRs K φ n H xs.dropLast vs.dropLast
  | _, _, .nil => .nil
  | _, _, .cons _ .nil => .nil
  | _, _, .cons h (.cons h2 t) => .cons h (VRs.dropLast (.cons h2 t))
theorem VRs.reverse {xs : List D} {vs : List V} (h : VRs K φ n H xs vs) : VRs K φ n H xs.reverse vs.reverse := by
  induction xs generalizing vs with
  | nil => cases h; exact .nil
  | cons x xs ih =>
    cases h with
    | cons h t =>
      rw [List.reverse_cons, List.reverse_cons]
      exact (ih t).app (.one h)
theorem VRs.repl {x : D} {v : V} (h : VR K φ n H x v) : ∀ m, VRs K φ n H (List.replicate m x) (List.replicate m v)
  | 0 => .nil
  | m + 1 => .cons h (VRs.repl h m)
theorem VRs.ints : ∀ ns : List Int, VRs K φ n H (ns.map D.int) (ns.map V.int)
  | [] => .nil
  | i :: r => .cons (.int i) (VRs.ints r)
theorem VRs.ints_inv : ∀ {ns : List Int} {vs : List V}, VRs K φ n H (ns.map D.int) vs → vs = ns.map V.int
  | [], _, .nil => rfl
  | i :: r, _, .cons h t => by
    cases h
    rw [VRs.ints_inv t]
    rfl
theorem VR.int_inv {i : Int} {v : V} (h : VR K φ n H (.int i) v) : v = .int i := by cases h; rfl
theorem VR.bl_inv {i : Bool} {v : V} (h : VR K φ n H (.bl i) v) : v = .bl i := by cases h; rfl
theorem VR.str_inv {i : Str} {v : V} (h : VR K φ n H (.str i) v) : v = .str i := by cases h; rfl
theorem VR.non_inv {v : V} (h : VR K φ n H .non v) : v = .non := by cases h; rfl
theorem VR.ref_inv {l : Nat} {v : V} (h : VR K φ n H (.ref l) v) : l < n ∧ v = .ref (φ l) := by cases h with | ref h => exact ⟨h, rfl⟩
theorem VR.tup_inv {xs : List D} {v : V} (h : VR K φ n H (.tup xs) v) : ∃ a vs, v = .ref a ∧ SqT K H a vs ∧ VRs K φ n H xs vs := by
  cases h with | tup h t => exact ⟨_, _, rfl, h, t⟩
/-! ### the store grows, changes -/
/-- what is written over, or is neither a tuple nor locked -/
def MHO : HO → Prop
  | .lst _ => True
  | .dK _ => True
  | .dT _ => True
  | .ins _ _ _ => True
  | .set _ _ => True
  | _ => False
theorem OR.mho {a : Addr} {o : O} (h : OR K φ n H a o) (m : mutO o = true) : ∃ u, H a = some u ∧ MHO u := by
  cases o with
  | lst xs => obtain ⟨vs, h, _⟩ := h; exact ⟨_, h, trivial⟩
  | rol xs => cases m
  | dK xs => obtain ⟨vs, h, _⟩ := h; exact ⟨_, h, trivial⟩
  | dT xs => obtain ⟨vs, h, _⟩ := h; exact ⟨_, h, trivial⟩
  | ins C fs => obtain ⟨dx, vs, h, _⟩ := h; exact ⟨_, h, trivial⟩
  | set f m => exact ⟨_, h, trivial⟩
  | opq => cases m
theorem sqt_upd {p a : Addr} {o u : HO} {xs : List V} (hp : H p = some u) (m : MHO u) (h : SqT K H a xs) : SqT K (upd H p o) a xs := by
  refine sqt_keep hp (fun xs z => ?_) (fun c d z => ?_) h
  · subst z; exact m
  · subst z; exact m
theorem Fut.upd {p : Addr} {o u : HO} (hp : H p = some u) (m : MHO u) : Fut K φ n H φ n (upd H p o) := ⟨Nat.le_refl _, fun _ _ => rfl, fun _ _ h => sqt_upd hp m h, fun a fs h => by
  rw [upd_ne]
  · exact h
  · intro z
    rw [z, hp] at h
    cases h
    exact m⟩
/-- the same object elsewhere in time -/
theorem OR.fut {a : Addr} {o : O} (f : Fut K φ n H φ' n' H') (h : OR K φ n H a o) (e : ∀ u, H a = some u → H' a = some u) : OR K φ' n' H' a o := by
  cases o with
  | lst xs => obtain ⟨vs, h, r⟩ := h; exact ⟨vs, e _ h, r.fut f⟩
  | rol xs =>
    obtain ⟨vs, h, r⟩ := h
    refine ⟨vs, ?_, r.fut f⟩
    rcases h with ⟨o, h⟩ | h
    · exact .inl ⟨o, e _ h⟩
    · exact .inr h
  | dK xs => obtain ⟨vs, h, r⟩ := h; exact ⟨vs, e _ h, r.fut f⟩
  | dT xs => obtain ⟨vs, h, r⟩ := h; exact ⟨vs, e _ h, r.fut f⟩
  | ins C fs => obtain ⟨dx, vs, h, r⟩ := h; exact ⟨dx, vs, e _ h, r.fut f⟩
  | set f m => exact e _ h
  | opq => trivial
theorem Rel.ex {S : Sto} (r : Rel K φ S H) (e : Ex H H') : Rel K φ S H' := ⟨r.inj, fun l o h => (r.ob l o h).fut (Fut.ex e) (fun u hu => e _ _ hu)⟩
theorem Rel.put {S : Sto} {l : Nat} {o o' : O} {u : HO} (r : Rel K φ S H) (hl : S[l]? = some o) (m : mutO o = true) (m' : mutO o' = true) (hn : OR K φ S.length (L2.upd H (φ l) u) (φ l) o') :
    Rel K φ (S.set l o') (L2.upd H (φ l) u) ∧ Fut K φ S.length H φ (S.set l o').length (L2.upd H (φ l) u) := by
  obtain ⟨w, hw, mw⟩ := (r.ob l o hl).mho m
  have f : Fut K φ S.length H φ S.length (L2.upd H (φ l) u) := Fut.upd hw mw
  have hlt := (List.getElem?_eq_some_iff.mp hl).1
  refine ⟨⟨fun i j oi oj hi hj mi mj e => ?_, fun i oi hi => ?_⟩, by rw [List.length_set]; exact f⟩
  · by_cases h1 : i = l <;> by_cases h2 : j = l
    · rw [h1, h2]
    · subst h1
      rw [List.getElem?_set_ne (by omega)] at hj
      exact r.inj i j o oj hl hj m mj e
    · subst h2
      rw [List.getElem?_set_ne (by omega)] at hi
      exact r.inj i j oi o hi hl mi m e
    · rw [List.getElem?_set_ne (by omega)] at hi hj
      exact r.inj i j oi oj hi hj mi mj e
  · rw [List.length_set]
    by_cases h1 : i = l
    · subst h1
      rw [List.getElem?_set_self hlt] at hi
      cases hi
      exact hn
    · rw [List.getElem?_set_ne (by omega)] at hi
      have hi' := r.ob i oi hi
      cases mi : mutO oi with
      | true =>
        refine hi'.fut f fun v hv => ?_
        rw [upd_ne]
        · exact hv
        · intro z
          exact h1 (r.inj i l oi o hi hl mi m z)
      | false =>
        cases oi with
        | rol xs =>
          obtain ⟨vs, h, q⟩ := hi'
          refine ⟨vs, ?_, q.fut f⟩
          rcases h with ⟨ob, h⟩ | h
          · refine .inl ⟨ob, ?_⟩
            rw [upd_ne]
            · exact h
            · intro z
              rw [z, hw] at h
              cases h
              exact mw
          · exact .inr h
        | opq => trivial
        | _ => cases mi
/-- the store's next place -/
def nxt (φ : Nat → Addr) (n : Nat) (p : Addr) : Nat → Addr := fun i => if i = n then p else φ i
theorem nxt_at {p : Addr} : nxt φ n p n = p := by simp [nxt]
theorem Fut.new {p : Addr} {u : HO} (hp : H p = none) : Fut K φ n H (nxt φ n p) (n + 1) (L2.upd H p u) :=
  ⟨Nat.le_succ _, fun l h => by simp [nxt, Nat.ne_of_lt h], fun _ _ h => ex_t (Ex.new hp) h, fun _ _ h => (Ex.new hp) _ _ h⟩
theorem Rel.new {S : Sto} {p : Addr} {o : O} {u : HO} (r : Rel K φ S H) (hp : H p = none) (hn : OR K (nxt φ S.length p) (S.length + 1) (L2.upd H p u) p o) :
    Rel K (nxt φ S.length p) (S ++ [o]) (L2.upd H p u) := by
  have f : Fut K φ S.length H (nxt φ S.length p) (S.length + 1) (L2.upd H p u) := Fut.new hp
  have old : ∀ i oi, (S ++ [o])[i]? = some oi → (i < S.length ∧ S[i]? = some oi) ∨ (i = S.length ∧ oi = o) := fun i oi h => by
    have h1 := (List.getElem?_eq_some_iff.mp h).1
    rw [List.length_append, List.length_singleton] at h1
    by_cases h2 : i < S.length
    · rw [List.getElem?_append_left h2] at h
      exact .inl ⟨h2, h⟩
    · have h3 : i = S.length := by omega
      subst h3
      rw [List.getElem?_append_right (Nat.le_refl _), Nat.sub_self] at h
      exact .inr ⟨rfl, (Option.some.inj h).symm⟩
  have ne : ∀ i oi, i < S.length → S[i]? = some oi → mutO oi = true → φ i ≠ p := fun i oi _ h m z => by
    obtain ⟨w, hw, _⟩ := (r.ob i oi h).mho m
    rw [z, hp] at hw
    cases hw
  refine ⟨fun i j oi oj hi hj mi mj e => ?_, fun i oi hi => ?_⟩
  · rcases old i oi hi with ⟨i1, i2⟩ | ⟨rfl, rfl⟩ <;> rcases old j oj hj with ⟨j1, j2⟩ | ⟨rfl, rfl⟩
    · rw [f.ag i i1, f.ag j j1] at e
      exact r.inj i j oi oj i2 j2 mi mj e
    · rw [f.ag i i1, nxt_at] at e
      exact absurd e (ne i oi i1 i2 mi)
    · rw [f.ag j j1, nxt_at] at e
      exact absurd e.symm (ne j oj j1 j2 mj)
    · rfl
  · rw [List.length_append, List.length_singleton]
    rcases old i oi hi with ⟨i1, i2⟩ | ⟨rfl, rfl⟩
    · rw [f.ag i i1]
      exact (r.ob i oi i2).fut f fun v hv => (Ex.new hp) _ _ hv
    · rw [nxt_at]
      exact hn
/-- something of which nothing is known -/
theorem Fut.newO {p : Addr} : Fut K φ n H (nxt φ n p) (n + 1) H := ⟨Nat.le_succ _, fun l h => by simp [nxt, Nat.ne_of_lt h], fun _ _ h => h, fun _ _ h => h⟩
theorem Rel.newO {S : Sto} (r : Rel K φ S H) (p : Addr) : Rel K (nxt φ S.length p) (S ++ [.opq]) H := by
  have old : ∀ i oi, (S ++ [O.opq])[i]? = some oi → (i < S.length ∧ S[i]? = some oi) ∨ oi = .opq := fun i oi h => by
    have h1 := (List.getElem?_eq_some_iff.mp h).1
    rw [List.length_append, List.length_singleton] at h1
    by_cases h2 : i < S.length
    · rw [List.getElem?_append_left h2] at h
      exact .inl ⟨h2, h⟩
    · have h3 : i = S.length := by omega
      subst h3
      rw [List.getElem?_append_right (Nat.le_refl _), Nat.sub_self] at h
      exact .inr (Option.some.inj h).symm
  have f : Fut K φ S.length H (nxt φ S.length p) (S.length + 1) H := Fut.newO
  refine ⟨fun i j oi oj hi hj mi mj e => ?_, fun i oi hi => ?_⟩
  · rcases old i oi hi with ⟨i1, i2⟩ | rfl
    · rcases old j oj hj with ⟨j1, j2⟩ | rfl
      · rw [f.ag i i1, f.ag j j1] at e
        exact r.inj i j oi oj i2 j2 mi mj e
      · cases mj
    · cases mi
  · rw [List.length_append, List.length_singleton]
    rcases old i oi hi with ⟨i1, i2⟩ | rfl
    · rw [f.ag i i1]
      exact (r.ob i oi i2).fut f fun v hv => hv
    · trivial
theorem at_lt {S : Sto} {l : Nat} {o : O} (h : at_ S l = some o) : l < S.length := (List.getElem?_eq_some_iff.mp h).1
theorem Rel.rd {S : Sto} {l : Nat} {xs : List D} (r : Rel K φ S H) (h : rdL S l = some xs) : ∃ vs, SqL K H (φ l) vs ∧ VRs K φ S.length H xs vs := by
  unfold rdL at h
  split at h
  · rename_i ys e
    cases h
    obtain ⟨vs, h1, h2⟩ := r.ob l _ e
    exact ⟨vs, sq_of h1, h2⟩
  · rename_i ys e
    cases h
    obtain ⟨vs, h1, h2⟩ := r.ob l _ e
    refine ⟨vs, ?_, h2⟩
    rcases h1 with ⟨o, h1⟩ | h1
    · exact .inl (.inr ⟨o, h1⟩)
    · exact h1 H
  · cases h
theorem rdL_lt {S : Sto} {l : Nat} {xs : List D} (h : rdL S l = some xs) : l < S.length := by
  unfold rdL at h
  split at h
  · rename_i e; exact at_lt e
  · rename_i e; exact at_lt e
  · cases h
end
/-! ### slots -/
inductive ER (K : PySem.W.Frag) (φ : Nat → Addr) (n : Nat) (H : Hp) : Env → L2.St → Prop where
  | nil : ER K φ n H [] []
  | none {o : Option V} {e : Env} {σ : L2.St} (t : ER K φ n H e σ) : ER K φ n H (.none :: e) (o :: σ)
  | some {d : D} {v : V} {e : Env} {σ : L2.St} (h : VR K φ n H d v) (t : ER K φ n H e σ) : ER K φ n H (.some d :: e) (.some v :: σ)
section
variable {K : PySem.W.Frag} {φ φ' : Nat → Addr} {n n' : Nat} {H H' : Hp}
theorem ER.fut (f : Fut K φ n H φ' n' H') : ∀ {e : Env} {σ : L2.St}, ER K φ n H e σ → ER K φ' n' H' e σ
  | _, _, .nil => .nil
  | _, _, .none t => .none (ER.fut f t)
  | _, _, .some h t => .some (h.fut f) (ER.fut f t)
theorem ER.get : ∀ {e : Env} {σ : L2.St} {i : Nat} {d : D}, ER K φ n H e σ → e[i]? = .some (.some d) → ∃ v, σ[i]? = .some (.some v) ∧ VR K φ n H d v
  | _, _, 0, _, .none _, h => by cases h
  | _, _, 0, _, .some h _, e => ⟨_, rfl, by cases e; exact h⟩
  | _, _, i + 1, _, .none t, h => ER.get (i := i) t h
  | _, _, i + 1, _, .some _ t, h => ER.get (i := i) t h
theorem ER.set : ∀ {e : Env} {σ : L2.St} {d : D} {v : V} (i : Nat), ER K φ n H e σ → VR K φ n H d v → ER K φ n H (e.set i (.some d)) (σ.set i (.some v))
  | _, _, _, _, _, .nil, _ => .nil
  | _, _, _, _, 0, .none t, h => .some h t
  | _, _, _, _, 0, .some _ t, h => .some h t
  | _, _, _, _, i + 1, .none t, h => .none (ER.set i t h)
  | _, _, _, _, i + 1, .some h0 t, h => .some h0 (ER.set i t h)
theorem ER.unset (o : Option V) : ∀ {e : Env} {σ : L2.St} (i : Nat), ER K φ n H e σ → ER K φ n H (e.set i .none) (σ.set i o)
  | _, _, _, .nil => .nil
  | _, _, 0, .none t => .none t
  | _, _, 0, .some _ t => .none t
  | _, _, i + 1, .none t => .none (ER.unset o i t)
  | _, _, i + 1, .some h0 t => .some h0 (ER.unset o i t)
def wipeE (e : Env) : List Nat → Env
  | [] => e
  | v :: vs => (wipeE e vs).set v .none
theorem ER.wipe {e : Env} {σ : L2.St} (h : ER K φ n H e σ) : ∀ vs : List Nat, ER K φ n H (wipeE e vs) (wipe σ vs)
  | [] => h
  | v :: vs => ER.unset Option.none v (ER.wipe h vs)
theorem ER.ofs : ∀ {ds : List D} {vs : List V} (m : Nat), VRs K φ n H ds vs → ER K φ n H (ds.map .some ++ List.replicate m .none) (vs.map .some ++ List.replicate m .none)
  | _, _, 0, .nil => .nil
  | _, _, m + 1, .nil => .none (ER.ofs m .nil)
  | _, _, m, .cons h t => .some h (ER.ofs m t)
end
/-- what is wished of an error, and what is known meanwhile -/
structure Wc (K : PySem.W.Frag) where
  wx : WX
  ctx : (Nat → Addr) → Nat → Hp → Prop
  mono : ∀ {φ n H φ' n' H'}, Fut K φ n H φ' n' H' → ctx φ n H → ctx φ' n' H'
instance {K : PySem.W.Frag} : CoeFun (Wc K) fun _ => WX := ⟨Wc.wx⟩
def W0 (K : PySem.W.Frag) : Wc K := ⟨fun _ _ _ _ => False, fun _ _ _ => True, fun _ h => h⟩
def WEx (K : PySem.W.Frag) (E : XK) : Wc K := ⟨fun c d _ h => E c d h, fun _ _ _ => True, fun _ h => h⟩
structure EW (K : PySem.W.Frag) (W : Wc K) (φ : Nat → Addr) (n : Nat) (H : Hp) (env : Env) (σ : L2.St) : Prop where
  e : ER K φ n H env σ
  c : W.ctx φ n H
section
variable {K : PySem.W.Frag} {W : Wc K} {φ φ' : Nat → Addr} {n n' : Nat} {H H' : Hp} {env : Env} {σ : L2.St}
theorem EW.fut (h : EW K W φ n H env σ) (f : Fut K φ n H φ' n' H') : EW K W φ' n' H' env σ := ⟨h.e.fut f, W.mono f h.c⟩
theorem EW.get {i : Nat} {d : D} (h : EW K W φ n H env σ) (e : env[i]? = some (some d)) : ∃ v, σ[i]? = some (some v) ∧ VR K φ n H d v := h.e.get e
theorem EW.set {d : D} {v : V} (i : Nat) (h : EW K W φ n H env σ) (q : VR K φ n H d v) : EW K W φ n H (env.set i (some d)) (σ.set i (some v)) := ⟨h.e.set i q, h.c⟩
theorem EW.wipe (h : EW K W φ n H env σ) (vs : List Nat) : EW K W φ n H (wipeE env vs) (L2.wipe σ vs) := ⟨h.e.wipe vs, h.c⟩
end
end Mi

namespace Mi
open PySem PySem.Spec PyProof.Rows L2 Evl My
open Classical in
/-! ### what a piece promises -/
abbrev Rl (α β : Type) := (Nat → Addr) → Nat → Hp → α → β → Prop
def vr (K : PySem.W.Frag) : Rl D V := fun φ n H d v => VR K φ n H d v
def vrs (K : PySem.W.Frag) : Rl (List D) (List V) := fun φ n H d v => VRs K φ n H d v
def same {α : Type} : Rl α α := fun _ _ _ a b => a = b
def Post (K : PySem.W.Frag) {α β : Type} (ρ : Rl α β) (φ : Nat → Addr) (n : Nat) (H : Hp) (X : XK) (r : R α) (Q : β → Hp → Prop) : Prop := match r with
  | .ok d S' => ∀ φ' H' v, Fut K φ n H φ' S'.length H' → Rel K φ' S' H' → ρ φ' S'.length H' d v → Q v H'
  | .exc c fs S' => ∀ φ' H' dd fv, Fut K φ n H φ' S'.length H' → Rel K φ' S' H' → H' dd = some (.xd fv) → KR K φ' S'.length H' fs fv → X (.ref (He.ga K c)) (some dd) H'
  | .bad => False
section
variable {K : PySem.W.Frag} {φ φ1 φ' : Nat → Addr} {n n1 n' : Nat} {H H1 H' : Hp} {α β γ δ : Type} {ρ : Rl α β} {ρ' : Rl γ δ} {X : XK} {W : Wc K} {S : Sto}
theorem Post.fut {r : R α} {Q : β → Hp → Prop} (f : Fut K φ n H φ1 n1 H1) (h : Post K ρ φ n H X r Q) : Post K ρ φ1 n1 H1 X r Q := by
  cases r with
  | ok d S' => exact fun φ' H' v f' => h φ' H' v (f.trans f')
  | exc c fs S' => exact fun φ' H' dd fv f' => h φ' H' dd fv (f.trans f')
  | bad => exact h
theorem Post.here {d : α} {v : β} {Q : β → Hp → Prop} (h : Post K ρ φ S.length H X (.ok d S) Q) (r : Rel K φ S H) (q : ρ φ S.length H d v) : Q v H := h φ H v Fut.refl r q
theorem Post.ex {d : α} {v : β} {Q : β → Hp → Prop} (h : Post K ρ φ S.length H X (.ok d S) Q) (r : Rel K φ S H) (e : Ex H H') (q : ρ φ S.length H' d v) : Q v H' := h φ H' v (Fut.ex e) (r.ex e) q
theorem Post.new {o : O} {u : HO} {p : Addr} {Q : VK} (h : Post K (vr K) φ S.length H X (.ok (.ref S.length) (S ++ [o])) Q) (r : Rel K φ S H) (hp : H p = none) (hn : OR K (nxt φ S.length p) (S.length + 1) (upd H p u) p o) : Q (.ref p) (upd H p u) := by
  refine h (nxt φ S.length p) _ _ (by rw [List.length_append]; exact Fut.new hp) (r.new hp hn) ?_
  show VR K _ _ _ _ _
  have := VR.ref (K := K) (φ := nxt φ S.length p) (n := (S ++ [o]).length) (H := upd H p u) (l := S.length) (by simp)
  rw [nxt_at] at this
  exact this
theorem Post.tup {Q : VK} {xs : List D} {vs : List V} {p : Addr} (h : Post K (vr K) φ S.length H X (.ok (.tup xs) S) Q) (r : Rel K φ S H) (hp : H p = none) (q : VRs K φ S.length H xs vs) : Q (.ref p) (upd H p (.tup vs)) :=
  h φ _ _ (Fut.ex (Ex.new hp)) (r.ex (Ex.new hp)) (VR.tup (st_of upd_same) (q.fut (Fut.ex (Ex.new hp))))
theorem Post.put {d : α} {v : β} {Q : β → Hp → Prop} {l : Nat} {o o' : O} {u : HO} (h : Post K ρ φ S.length H X (.ok d (S.set l o')) Q) (r : Rel K φ S H) (hl : at_ S l = some o) (m : mutO o = true) (m' : mutO o' = true) (hn : OR K φ S.length (upd H (φ l) u) (φ l) o')
    (q : ρ φ S.length (upd H (φ l) u) d v) : Q v (upd H (φ l) u) := by
  obtain ⟨r', f'⟩ := r.put hl m m' hn
  exact h φ _ _ f' r' (by rw [List.length_set]; exact q)
/-- a reading does what f says -/
def Imp (K : PySem.W.Frag) (W : Wc K) {α β : Type} (ρ : Rl α β) (t : L2.St → Hp → (β → Hp → Prop) → Prop) (f : Env → Sto → R α) : Prop :=
  ∀ φ S H env σ, Rel K φ S H → EW K W φ S.length H env σ → ∀ Q, Post K ρ φ S.length H (fun c d h => W c d σ h) (f env S) Q → t σ H Q
theorem imp_bind {ta : L2.St → Hp → (β → Hp → Prop) → Prop} {tb : β → L2.St → Hp → (δ → Hp → Prop) → Prop} {fa : Env → Sto → R α} {g : Env → α → Sto → R γ} (ha : Imp K W ρ ta fa)
    (hb : ∀ φ S H env σ x v, Rel K φ S H → EW K W φ S.length H env σ → ρ φ S.length H x v → ∀ Q, Post K ρ' φ S.length H (fun c d h => W c d σ h) (g env x S) Q → tb v σ H Q) :
    Imp K W ρ' (fun σ H Q => ta σ H fun v H1 => tb v σ H1 Q) (fun env S => (fa env S).bind (g env)) := by
  intro φ S H env σ r e Q p
  dsimp only at p
  refine ha φ S H env σ r e _ ?_
  cases hf : fa env S with
  | ok x S1 =>
    rw [hf] at p
    exact fun φ' H' v f r' hv => hb φ' S1 H' env σ x v r' (e.fut f) hv Q (p.fut f)
  | exc c fs S1 =>
    rw [hf] at p
    exact p
  | bad =>
    rw [hf] at p
    exact p
/-- .. that is known to be so at a state -/
theorem Imp.go {ta : L2.St → Hp → (β → Hp → Prop) → Prop} {fa : Env → Sto → R α} (ha : Imp K W ρ ta fa) {env : Env} {σ : L2.St} {g : α → Sto → R γ} {tb : β → Hp → Prop} (r : Rel K φ S H) (e : EW K W φ S.length H env σ) {Q : δ → Hp → Prop}
    (p : Post K ρ' φ S.length H (fun c d h => W c d σ h) ((fa env S).bind g) Q)
    (hb : ∀ φ1 S1 H1 x v, Fut K φ S.length H φ1 S1.length H1 → Rel K φ1 S1 H1 → EW K W φ1 S1.length H1 env σ → ρ φ1 S1.length H1 x v → Post K ρ' φ1 S1.length H1 (fun c d h => W c d σ h) (g x S1) Q → tb v H1) : ta σ H tb := by
  refine ha φ S H env σ r e _ ?_
  cases hf : fa env S with
  | ok x S1 =>
    rw [hf] at p
    exact fun φ' H' v f r' hv => hb φ' S1 H' x v f r' (e.fut f) hv (p.fut f)
  | exc c fs S1 =>
    rw [hf] at p
    exact p
  | bad =>
    rw [hf] at p
    exact p
/-! ### expressions -/
def xVar (i : Nat) : Env → Sto → R D := fun env S => match env[i]? with
  | some (some d) => .ok d S
  | _ => .bad
def xC (d : D) : Env → Sto → R D := fun _ S => .ok d S
theorem imp_var {i : Nat} : Imp K W (vr K) (tVar i) (xVar i) := by
  intro φ S H env σ r e Q p
  unfold xVar at p
  split at p
  · rename_i d h
    obtain ⟨v, hv, q⟩ := e.get h
    exact ⟨v, hv, p.here r q⟩
  · exact p.elim
theorem imp_int {i : Int} : Imp K W (vr K) (tC (.int i)) (xC (.int i)) := fun φ S H env σ r e Q p => p.here r (VR.int i)
theorem imp_str {i : Str} : Imp K W (vr K) (tC (.str i)) (xC (.str i)) := fun φ S H env σ r e Q p => p.here r (VR.str i)
theorem imp_bl {i : Bool} : Imp K W (vr K) (tC (.bl i)) (xC (.bl i)) := fun φ S H env σ r e Q p => p.here r (VR.bl i)
theorem imp_non : Imp K W (vr K) (tC .non) (xC .non) := fun φ S H env σ r e Q p => p.here r VR.non
/-- two operands -/
def xOp (o : D → D → Sto → R D) (fa fb : Env → Sto → R D) : Env → Sto → R D := fun env S => (fa env S).bind fun x S1 => (fb env S1).bind fun y S2 => o x y S2
def OpI (K : PySem.W.Frag) (r : R2) (o : D → D → Sto → R D) : Prop := ∀ φ S H x y v w X, Rel K φ S H → VR K φ S.length H x v → VR K φ S.length H y w → ∀ Q, Post K (vr K) φ S.length H X (o x y S) Q → r v w H Q
theorem imp_op {r : R2} {o : D → D → Sto → R D} {ta tb : TE} {fa fb : Env → Sto → R D} (hr : OpI K r o) (ha : Imp K W (vr K) ta fa) (hb : Imp K W (vr K) tb fb) : Imp K W (vr K) (tOp r ta tb) (xOp o fa fb) :=
  imp_bind (tb := fun v σ H Q => tb σ H fun y H2 => r v y H2 Q) ha fun φ S H env σ x v rl e hv Q p => hb.go rl e p fun φ1 S1 H1 y w f r1 _ hw p1 => hr φ1 S1 H1 x y v w _ r1 (VR.fut f hv) hw Q p1
def UnI (K : PySem.W.Frag) (r : V → Hp → VK → Prop) (o : D → Sto → R D) : Prop := ∀ φ S H x v X, Rel K φ S H → VR K φ S.length H x v → ∀ Q, Post K (vr K) φ S.length H X (o x S) Q → r v H Q
def xUn (o : D → Sto → R D) (fa : Env → Sto → R D) : Env → Sto → R D := fun env S => (fa env S).bind o
theorem imp_un {r : V → Hp → VK → Prop} {o : D → Sto → R D} {ta : TE} {fa : Env → Sto → R D} (hr : UnI K r o) (ha : Imp K W (vr K) ta fa) : Imp K W (vr K) (tUn r ta) (xUn o fa) :=
  imp_bind (tb := fun (v : V) _ H (Q : VK) => r v H Q) ha fun φ S H env σ x v rl e hv Q p => hr φ S H x v _ rl hv Q p
/-- of two ints -/
def oI (g : Int → Int → D) : D → D → Sto → R D := fun x y S => match x, y with
  | .int i, .int j => .ok (g i j) S
  | _, _ => .bad
@[simp] theorem oI_int {g : Int → Int → D} {i j : Int} : oI g (.int i) (.int j) S = .ok (g i j) S := rfl
theorem opi_I {g : Int → Int → V} {g' : Int → Int → D} (h : ∀ φ n H i j, VR K φ n H (g' i j) (g i j)) : OpI K (rI0 g) (oI g') := by
  intro φ S H x y v w X r hx hy Q p
  unfold oI at p
  split at p
  · cases hx; cases hy
    exact ⟨_, _, rfl, rfl, p.here r (h ..)⟩
  · exact p.elim
noncomputable def oIC (C : Int → Int → Prop) (g : Int → Int → D) : D → D → Sto → R D := fun x y S => match x, y with
  | .int i, .int j => open Classical in if C i j then .ok (g i j) S else .bad
  | _, _ => .bad
theorem oIC_int {C : Int → Int → Prop} {g : Int → Int → D} {i j : Int} (h : C i j) : oIC C g (.int i) (.int j) S = .ok (g i j) S := by simp [oIC, h]
theorem opi_IC {C : Int → Int → Prop} {g : Int → Int → V} {g' : Int → Int → D} (h : ∀ φ n H i j, VR K φ n H (g' i j) (g i j)) : OpI K (rI C g) (oIC C g') := by
  intro φ S H x y v w X r hx hy Q p
  unfold oIC at p
  split at p
  · cases hx; cases hy
    split at p
    · rename_i hc
      exact ⟨_, _, rfl, rfl, hc, p.here r (h ..)⟩
    · exact p.elim
  · exact p.elim
def gI (f : Int → Int → Int) : Int → Int → D := fun i j => .int (f i j)
def gB (f : Int → Int → Bool) : Int → Int → D := fun i j => .bl (f i j)
theorem opi_add : OpI K (rI0 fun i j => .int (i + j)) (oI fun i j => .int (i + j)) := opi_I fun _ _ _ _ _ => .int _
theorem opi_sub : OpI K (rI0 fun i j => .int (i - j)) (oI fun i j => .int (i - j)) := opi_I fun _ _ _ _ _ => .int _
theorem opi_mul : OpI K (rI CMul fun i j => .int (i * j)) (oIC CMul fun i j => .int (i * j)) := opi_IC fun _ _ _ _ _ => .int _
theorem opi_fdiv : OpI K (rI CDiv fun i j => .int (i / j)) (oIC CDiv fun i j => .int (i / j)) := opi_IC fun _ _ _ _ _ => .int _
theorem opi_fdivW : OpI K (rI CDivW fun i j => .int (i / j)) (oIC CDivW fun i j => .int (i / j)) := opi_IC fun _ _ _ _ _ => .int _
theorem opi_mod : OpI K (rI (fun _ j => 0 < j) fun i j => .int (i % j)) (oIC (fun _ j => 0 < j) fun i j => .int (i % j)) := opi_IC fun _ _ _ _ _ => .int _
theorem opi_pow : OpI K (rI CPow fun i j => .int (i ^ j.toNat)) (oIC CPow fun i j => .int (i ^ j.toNat)) := opi_IC fun _ _ _ _ _ => .int _
theorem opi_lt : OpI K (rI0 fun i j => .bl (decide (i < j))) (oI fun i j => .bl (decide (i < j))) := opi_I fun _ _ _ _ _ => .bl _
theorem opi_le : OpI K (rI0 fun i j => .bl (decide (i ≤ j))) (oI fun i j => .bl (decide (i ≤ j))) := opi_I fun _ _ _ _ _ => .bl _
theorem opi_gt : OpI K (rI0 fun i j => .bl (decide (j < i))) (oI fun i j => .bl (decide (j < i))) := opi_I fun _ _ _ _ _ => .bl _
theorem opi_ge : OpI K (rI0 fun i j => .bl (decide (j ≤ i))) (oI fun i j => .bl (decide (j ≤ i))) := opi_I fun _ _ _ _ _ => .bl _
def oNeg : D → Sto → R D := fun x S => match x with
  | .int i => .ok (.int (-i)) S
  | _ => .bad
@[simp] theorem oNeg_int {i : Int} : oNeg (.int i) S = .ok (.int (-i)) S := rfl
theorem uni_neg : UnI K (rU fun i => .int (-i)) oNeg := by
  intro φ S H x v X r hx Q p
  unfold oNeg at p
  split at p
  · cases hx
    exact ⟨_, rfl, p.here r (VR.int _)⟩
  · exact p.elim
/-! ### == of scalars -/
/-- scalars, as they are told -/
def scV : D → Option V
  | .non => some .non
  | .bl b => some (.bl b)
  | .int i => some (.int i)
  | .str x => some (.str x)
  | _ => none
theorem scV_eq {d : D} {u v : V} (h : scV d = some u) (r : VR K φ n H d v) : v = u := by
  cases r <;> simp [scV] at h <;> exact h
def oEqS : D → D → Sto → R D := fun x y S => match scV x, scV y with
  | some u, some w => if scal u w = true then .ok (.bl (decide (u = w))) S else .bad
  | _, _ => .bad
def oNeS : D → D → Sto → R D := fun x y S => match scV x, scV y with
  | some u, some w => if scal u w = true then .ok (.bl (!decide (u = w))) S else .bad
  | _, _ => .bad
@[simp] theorem oEqS_int {i j : Int} : oEqS (.int i) (.int j) S = .ok (.bl (decide (i = j))) S := by simp [oEqS, scV, scal]
@[simp] theorem oNeS_int {i j : Int} : oNeS (.int i) (.int j) S = .ok (.bl (!decide (i = j))) S := by simp [oNeS, scV, scal]
@[simp] theorem oEqS_str {i j : Str} : oEqS (.str i) (.str j) S = .ok (.bl (decide (i = j))) S := by simp [oEqS, scV, scal]
@[simp] theorem oNeS_str {i j : Str} : oNeS (.str i) (.str j) S = .ok (.bl (!decide (i = j))) S := by simp [oNeS, scV, scal]
@[simp] theorem oEqS_bl {i j : Bool} : oEqS (.bl i) (.bl j) S = .ok (.bl (decide (i = j))) S := by simp [oEqS, scV, scal]
@[simp] theorem oNeS_bl {i j : Bool} : oNeS (.bl i) (.bl j) S = .ok (.bl (!decide (i = j))) S := by simp [oNeS, scV, scal]
theorem opi_eqS : OpI K rEq oEqS := by
  intro φ S H x y v w X r hx hy Q p
  unfold oEqS at p
  split at p
  · rename_i a b ha hb
    rw [scV_eq ha hx, scV_eq hb hy]
    split at p
    · rename_i hc
      exact ⟨hc, p.here r (VR.bl _)⟩
    · exact p.elim
  · exact p.elim
theorem opi_neS : OpI K rNe oNeS := by
  intro φ S H x y v w X r hx hy Q p
  unfold oNeS at p
  split at p
  · rename_i a b ha hb
    rw [scV_eq ha hx, scV_eq hb hy]
    split at p
    · rename_i hc
      exact ⟨hc, p.here r (VR.bl _)⟩
    · exact p.elim
  · exact p.elim
/-! ### data -/
mutual
/-- what the value d, read in the store, is -/
inductive DD (S : Sto) : D → PyData → Prop where
  | non : DD S .non .none
  | bl (b : Bool) : DD S (.bl b) (.bool b)
  | int (i : Int) : DD S (.int i) (.int i)
  | str (x : Str) : DD S (.str x) (.str x)
  | lst {l : Nat} {xs : List D} {ps : List PyData} (h : rdL S l = some xs) (t : DDs S xs ps) : DD S (.ref l) (.list ps)
  | tup {xs : List D} {ps : List PyData} (t : DDs S xs ps) : DD S (.tup xs) (.tuple ps)
inductive DDs (S : Sto) : List D → List PyData → Prop where
  | nil : DDs S [] []
  | cons {x : D} {p : PyData} {xs : List D} {ps : List PyData} (h : DD S x p) (t : DDs S xs ps) : DDs S (x :: xs) (p :: ps)
end
mutual
theorem DD.fn : ∀ {d : D} {p q : PyData}, DD S d p → DD S d q → p = q
  | _, _, _, .non, .non => rfl
  | _, _, _, .bl _, .bl _ => rfl
  | _, _, _, .int _, .int _ => rfl
  | _, _, _, .str _, .str _ => rfl
  | _, _, _, .lst h t, .lst h' t' => by
    rw [h] at h'
    cases h'
    rw [DDs.fn t t']
  | _, _, _, .tup t, .tup t' => by rw [DDs.fn t t']
theorem DDs.fn : ∀ {d : List D} {p q : List PyData}, DDs S d p → DDs S d q → p = q
  | _, _, _, .nil, .nil => rfl
  | _, _, _, .cons h t, .cons h' t' => by rw [DD.fn h h', DDs.fn t t']
end
mutual
theorem DD.dp (r : Rel K φ S H) : ∀ {d : D} {p : PyData} {v : V}, DD S d p → VR K φ S.length H d v → Dp K H v p
  | _, _, _, .non, .non => .non
  | _, _, _, .bl b, .bl _ => .bl b
  | _, _, _, .int b, .int _ => .int b
  | _, _, _, .str b, .str _ => .str b
  | _, _, _, .lst h t, .ref _ => by
    obtain ⟨vs, h1, h2⟩ := r.rd h
    exact .lst h1 (DDs.dp r t h2)
  | _, _, _, .tup t, .tup h t' => .tup h (DDs.dp r t t')
theorem DDs.dp (r : Rel K φ S H) : ∀ {d : List D} {p : List PyData} {v : List V}, DDs S d p → VRs K φ S.length H d v → DpAll K H v p
  | _, _, _, .nil, .nil => .nil
  | _, _, _, .cons h t, .cons h' t' => .cons (DD.dp r h h') (DDs.dp r t t')
end
open Classical in
noncomputable def dataOf (S : Sto) (d : D) : Option PyData := if h : ∃ p, DD S d p then some h.choose else none
theorem dataOf_some {d : D} {p : PyData} (h : dataOf S d = some p) : DD S d p := by
  unfold dataOf at h
  split at h
  · rename_i k
    cases h
    exact k.choose_spec
  · cases h
theorem dataOf_eq {d : D} {p : PyData} (h : DD S d p) : dataOf S d = some p := by
  unfold dataOf
  rw [dif_pos ⟨p, h⟩]
  exact congrArg some (DD.fn (Exists.choose_spec (⟨p, h⟩ : ∃ p, DD S d p)) h)
noncomputable def oEqD (neg : Bool) : D → D → Sto → R D := fun x y S => match dataOf S x, dataOf S y with
  | some p, some q => if SeqAt.shaped p = true ∧ SeqAt.shaped q = true then .ok (.bl (if neg = true then !PyData.eqv p q else PyData.eqv p q)) S else .bad
  | _, _ => .bad
theorem oEqD_eq {neg : Bool} {x y : D} {p q : PyData} (hx : DD S x p) (hy : DD S y q) (sx : SeqAt.shaped p = true) (sy : SeqAt.shaped q = true) : oEqD neg x y S = .ok (.bl (if neg = true then !PyData.eqv p q else PyData.eqv p q)) S := by
  simp [oEqD, dataOf_eq hx, dataOf_eq hy, sx, sy]
theorem opi_eqD : OpI K (rEqD K) (oEqD false) := by
  intro φ S H x y v w X r hx hy Q p
  unfold oEqD at p
  split at p
  · rename_i a b ha hb
    split at p
    · rename_i hc
      exact ⟨a, b, (dataOf_some ha).dp r hx, (dataOf_some hb).dp r hy, hc.1, hc.2, p.here r (VR.bl _)⟩
    · exact p.elim
  · exact p.elim
theorem opi_neD : OpI K (rNeD K) (oEqD true) := by
  intro φ S H x y v w X r hx hy Q p
  unfold oEqD at p
  split at p
  · rename_i a b ha hb
    split at p
    · rename_i hc
      exact ⟨a, b, (dataOf_some ha).dp r hx, (dataOf_some hb).dp r hy, hc.1, hc.2, p.here r (VR.bl _)⟩
    · exact p.elim
  · exact p.elim
/-! ### None, and, or, not, if -/
def nonD : D → Bool
  | .non => true
  | _ => false
theorem isNon_eq {d : D} {v : V} (h : VR K φ n H d v) : decide (v = .non) = nonD d := by cases h <;> simp [nonD]
def xIsN (fa : Env → Sto → R D) : Env → Sto → R D := fun env S => (fa env S).bind fun x S1 => .ok (.bl (nonD x)) S1
def xNotN (fa : Env → Sto → R D) : Env → Sto → R D := fun env S => (fa env S).bind fun x S1 => .ok (.bl (!nonD x)) S1
theorem imp_isN {ta : TE} {fa : Env → Sto → R D} (ha : Imp K W (vr K) ta fa) : Imp K W (vr K) (tIsN ta) (xIsN fa) :=
  imp_bind (tb := fun (v : V) _ H (Q : VK) => Q (.bl (decide (v = .non))) H) ha fun φ S H env σ x v rl e hv Q p => by
    rw [isNon_eq hv]
    exact p.here rl (VR.bl _)
theorem imp_notN {ta : TE} {fa : Env → Sto → R D} (ha : Imp K W (vr K) ta fa) : Imp K W (vr K) (tNotN ta) (xNotN fa) :=
  imp_bind (tb := fun (v : V) _ H (Q : VK) => Q (.bl (!decide (v = .non))) H) ha fun φ S H env σ x v rl e hv Q p => by
    rw [isNon_eq hv]
    exact p.here rl (VR.bl _)
/-- a truth value as a value -/
def asB {α : Type} (x : D) (g : Bool → R α) : R α := match x with
  | .bl b => g b
  | _ => .bad
@[simp] theorem asB_bl {α : Type} {b : Bool} {g : Bool → R α} : asB (.bl b) g = g b := rfl
def xAndV (fa fb : Env → Sto → R D) : Env → Sto → R D := fun env S => (fa env S).bind fun x S1 => asB x fun b => if b = true then fb env S1 else .ok (.bl false) S1
def xOrV (fa fb : Env → Sto → R D) : Env → Sto → R D := fun env S => (fa env S).bind fun x S1 => asB x fun b => if b = true then .ok (.bl true) S1 else fb env S1
def xNotV (fa : Env → Sto → R D) : Env → Sto → R D := fun env S => (fa env S).bind fun x S1 => asB x fun b => .ok (.bl (!b)) S1
theorem asB_inv {x : D} {v : V} {g : Bool → R α} {Q : β → Hp → Prop} (h : VR K φ n H x v) (p : Post K ρ φ1 n1 H1 X (asB x g) Q) : ∃ b, v = .bl b ∧ Post K ρ φ1 n1 H1 X (g b) Q := by
  unfold asB at p
  split at p
  · cases h
    exact ⟨_, rfl, p⟩
  · exact p.elim
theorem imp_andV {ta tb : TE} {fa fb : Env → Sto → R D} (ha : Imp K W (vr K) ta fa) (hb : Imp K W (vr K) tb fb) : Imp K W (vr K) (tAndV ta tb) (xAndV fa fb) :=
  imp_bind (tb := fun (v : V) σ H (Q : VK) => ∃ c, v = .bl c ∧ if c = true then tb σ H Q else Q (.bl false) H) ha fun φ S H env σ x v rl e hv Q p => by
    obtain ⟨b, rfl, p⟩ := asB_inv hv p
    refine ⟨b, rfl, ?_⟩
    cases b with
    | true => exact hb φ S H env σ rl e Q p
    | false => exact p.here rl (VR.bl _)
theorem imp_orV {ta tb : TE} {fa fb : Env → Sto → R D} (ha : Imp K W (vr K) ta fa) (hb : Imp K W (vr K) tb fb) : Imp K W (vr K) (tOrV ta tb) (xOrV fa fb) :=
  imp_bind (tb := fun (v : V) σ H (Q : VK) => ∃ c, v = .bl c ∧ if c = true then Q (.bl true) H else tb σ H Q) ha fun φ S H env σ x v rl e hv Q p => by
    obtain ⟨b, rfl, p⟩ := asB_inv hv p
    refine ⟨b, rfl, ?_⟩
    cases b with
    | true => exact p.here rl (VR.bl _)
    | false => exact hb φ S H env σ rl e Q p
theorem imp_notV {ta : TE} {fa : Env → Sto → R D} (ha : Imp K W (vr K) ta fa) : Imp K W (vr K) (tNotV ta) (xNotV fa) :=
  imp_bind (tb := fun (v : V) _ H (Q : VK) => ∃ c, v = .bl c ∧ Q (.bl (!c)) H) ha fun φ S H env σ x v rl e hv Q p => by
    obtain ⟨b, rfl, p⟩ := asB_inv hv p
    exact ⟨b, rfl, p.here rl (VR.bl _)⟩
/-! ### tests -/
def xB (fa : Env → Sto → R D) : Env → Sto → R Bool := fun env S => (fa env S).bind fun x S1 => asB x fun b => .ok b S1
theorem imp_test {ta : TE} {fa : Env → Sto → R D} (ha : Imp K W (vr K) ta fa) : Imp K W same (tTest ta) (xB fa) :=
  imp_bind (tb := fun (v : V) _ H (Q : Bool → Hp → Prop) => ∃ k, v = .bl k ∧ Q k H) ha fun φ S H env σ x v rl e hv Q p => by
    obtain ⟨b, rfl, p⟩ := asB_inv hv p
    exact ⟨b, rfl, p.here rl rfl⟩
theorem imp_tB {ta : TE} {fa : Env → Sto → R D} (ha : Imp K W (vr K) ta fa) : Imp K W same (tB ta) (xB fa) :=
  imp_bind (tb := fun (v : V) _ H (Q : Bool → Hp → Prop) => ∃ k, v = .bl k ∧ Q k H) ha fun φ S H env σ x v rl e hv Q p => by
    obtain ⟨b, rfl, p⟩ := asB_inv hv p
    exact ⟨b, rfl, p.here rl rfl⟩
def xAnd (fa fb : Env → Sto → R Bool) : Env → Sto → R Bool := fun env S => (fa env S).bind fun b S1 => if b = true then fb env S1 else .ok false S1
def xOr (fa fb : Env → Sto → R Bool) : Env → Sto → R Bool := fun env S => (fa env S).bind fun b S1 => if b = true then .ok true S1 else fb env S1
def xNot (fa : Env → Sto → R Bool) : Env → Sto → R Bool := fun env S => (fa env S).bind fun b S1 => .ok (!b) S1
theorem imp_and {ta tb : TT} {fa fb : Env → Sto → R Bool} (ha : Imp K W same ta fa) (hb : Imp K W same tb fb) : Imp K W same (tAnd ta tb) (xAnd fa fb) :=
  imp_bind (tb := fun (c : Bool) σ H (Q : Bool → Hp → Prop) => if c = true then tb σ H Q else Q false H) ha fun φ S H env σ x v rl e hv Q p => by
    obtain rfl : x = v := hv
    cases x with
    | true => exact hb φ S H env σ rl e Q p
    | false => exact p.here rl rfl
theorem imp_or {ta tb : TT} {fa fb : Env → Sto → R Bool} (ha : Imp K W same ta fa) (hb : Imp K W same tb fb) : Imp K W same (tOr ta tb) (xOr fa fb) :=
  imp_bind (tb := fun (c : Bool) σ H (Q : Bool → Hp → Prop) => if c = true then Q true H else tb σ H Q) ha fun φ S H env σ x v rl e hv Q p => by
    obtain rfl : x = v := hv
    cases x with
    | true => exact p.here rl rfl
    | false => exact hb φ S H env σ rl e Q p
theorem imp_not {ta : TT} {fa : Env → Sto → R Bool} (ha : Imp K W same ta fa) : Imp K W same (tNot ta) (xNot fa) :=
  imp_bind (tb := fun (c : Bool) _ H (Q : Bool → Hp → Prop) => Q (!c) H) ha fun φ S H env σ x v rl e hv Q p => by
    obtain rfl : x = v := hv
    exact p.here rl rfl
def xIf {α : Type} (t : Env → Sto → R Bool) (fa fb : Env → Sto → R α) : Env → Sto → R α := fun env S => (t env S).bind fun b S1 => if b = true then fa env S1 else fb env S1
theorem imp_if {tt : TT} {ta tb : TE} {ft : Env → Sto → R Bool} {fa fb : Env → Sto → R D} (ht : Imp K W same tt ft) (ha : Imp K W (vr K) ta fa) (hb : Imp K W (vr K) tb fb) : Imp K W (vr K) (tIf tt ta tb) (xIf ft fa fb) :=
  imp_bind (tb := fun (c : Bool) σ H (Q : VK) => if c = true then ta σ H Q else tb σ H Q) ht fun φ S H env σ x v rl e hv Q p => by
    obtain rfl : x = v := hv
    cases x with
    | true => exact ha φ S H env σ rl e Q p
    | false => exact hb φ S H env σ rl e Q p
def xYes : Env → Sto → R Bool := fun _ S => .ok true S
theorem imp_yes : Imp K W same tYes xYes := fun φ S H env σ r e Q p => p.here r rfl
/-- a chain of two comparisons -/
def xChain (o o' : D → D → Sto → R D) (fa fb fc : Env → Sto → R D) : Env → Sto → R D := fun env S => (fa env S).bind fun x S1 => (fb env S1).bind fun y S2 => (o x y S2).bind fun z S3 => asB z fun k =>
  if k = true then (fc env S3).bind fun u S4 => o' y u S4 else .ok (.bl false) S3
theorem OpI.go {r : R2} {o : D → D → Sto → R D} (h : OpI K r o) {x y : D} {v w : V} {g : D → Sto → R γ} {tb : V → Hp → Prop} (rl : Rel K φ S H) (hx : VR K φ S.length H x v) (hy : VR K φ S.length H y w) {Q : δ → Hp → Prop}
    (p : Post K ρ' φ S.length H X ((o x y S).bind g) Q)
    (hb : ∀ φ1 S1 H1 z u, Fut K φ S.length H φ1 S1.length H1 → Rel K φ1 S1 H1 → VR K φ1 S1.length H1 z u → Post K ρ' φ1 S1.length H1 X (g z S1) Q → tb u H1) (he : ∀ c fs S', o x y S ≠ .exc c fs S') : r v w H tb := by
  refine h φ S H x y v w X rl hx hy _ ?_
  cases hf : o x y S with
  | ok z S1 =>
    rw [hf] at p
    exact fun φ' H' v f r' hv => hb φ' S1 H' z v f r' hv (p.fut f)
  | exc c fs S1 => exact (he c fs S1 hf).elim
  | bad =>
    rw [hf] at p
    exact p
end
end Mi

namespace Mi
open PySem PySem.Spec PyProof.Rows L2 Evl My
section
variable {K : PySem.W.Frag} {φ φ1 φ' : Nat → Addr} {n n1 n' : Nat} {H H1 H' : Hp} {X : XK} {W : Wc K} {S : Sto}
/-! ### arguments, displays -/
def xNil : Env → Sto → R (List D) := fun _ S => .ok [] S
def xCons (fa : Env → Sto → R D) (fr : Env → Sto → R (List D)) : Env → Sto → R (List D) := fun env S => (fa env S).bind fun x S1 => (fr env S1).bind fun xs S2 => .ok (x :: xs) S2
theorem imp_nil : Imp K W (vrs K) tNil xNil := fun φ S H env σ r e Q p => p.here r VRs.nil
theorem imp_cons {ta : TE} {tr : TA} {fa : Env → Sto → R D} {fr : Env → Sto → R (List D)} (ha : Imp K W (vr K) ta fa) (hr : Imp K W (vrs K) tr fr) : Imp K W (vrs K) (tCons ta tr) (xCons fa fr) :=
  imp_bind (tb := fun (v : V) σ H (Q : List V → Hp → Prop) => tr σ H fun vs H2 => Q (v :: vs) H2) ha fun φ S H env σ x v rl e hv Q p => hr.go rl e p fun φ1 S1 H1 xs vs f r1 _ hvs p1 => p1.here r1 (VRs.cons (VR.fut f hv) hvs)
def xTup (fa : Env → Sto → R (List D)) : Env → Sto → R D := fun env S => (fa env S).bind fun xs S1 => if xs.length ≤ 100000 then .ok (.tup xs) S1 else .bad
def xLst (fa : Env → Sto → R (List D)) : Env → Sto → R D := fun env S => (fa env S).bind fun xs S1 => if xs.length ≤ 100000 then .ok (.ref S1.length) (S1 ++ [.lst xs]) else .bad
theorem imp_tup {ta : TA} {fa : Env → Sto → R (List D)} (ha : Imp K W (vrs K) ta fa) : Imp K W (vr K) (tTup ta) (xTup fa) :=
  imp_bind (tb := fun (xs : List V) _ H (Q : VK) => xs.length ≤ sizeLine ∧ ∀ p, H p = none → Q (.ref p) (upd H p (.tup xs))) ha fun φ S H env σ x v rl e hv Q p => by
    split at p
    · rename_i hl
      refine ⟨by rw [VRs.len hv]; exact sz_of hl, fun a ha => p.tup rl ha hv⟩
    · exact p.elim
theorem or_lst {xs : List D} {vs : List V} {p : Addr} (hp : H p = none) (h : VRs K φ n H xs vs) : OR K (nxt φ n p) (n + 1) (upd H p (.lst vs)) p (.lst xs) := ⟨vs, upd_same, h.fut (Fut.new hp)⟩
theorem imp_lst {ta : TA} {fa : Env → Sto → R (List D)} (ha : Imp K W (vrs K) ta fa) : Imp K W (vr K) (tLst ta) (xLst fa) :=
  imp_bind (tb := fun (xs : List V) _ H (Q : VK) => xs.length ≤ sizeLine ∧ ∀ p, H p = none → Q (.ref p) (upd H p (.lst xs))) ha fun φ S H env σ x v rl e hv Q p => by
    split at p
    · rename_i hl
      exact ⟨by rw [VRs.len hv]; exact sz_of hl, fun a ha => p.new rl ha (or_lst ha hv)⟩
    · exact p.elim
/-! ### places in lists and tuples -/
theorem VRs.atI {xs : List D} {vs : List V} {i : Int} {x : D} (h : VRs K φ n H xs vs) (e : L2.atI xs i = some x) : ∃ v, L2.atI vs i = some v ∧ VR K φ n H x v := by
  obtain ⟨j, hj, hx⟩ := Option.bind_eq_some_iff.mp (show (ixN xs.length i).bind (fun j => xs[j]?) = some x from e)
  obtain ⟨v, hv, q⟩ := h.get hx
  refine ⟨v, ?_, q⟩
  show (ixN vs.length i).bind (fun j => vs[j]?) = some v
  rw [h.len, hj]
  exact hv
def oIxL : D → D → Sto → R D := fun x y S => match x, y with
  | .ref l, .int i => match (rdL S l).bind fun xs => atI xs i with
    | some d => .ok d S
    | none => .bad
  | _, _ => .bad
theorem oIxL_eq {l : Nat} {i : Int} {xs : List D} {d : D} (h : rdL S l = some xs) (e : atI xs i = some d) : oIxL (.ref l) (.int i) S = .ok d S := by simp [oIxL, h, e]
theorem opi_ixL : OpI K (rIxL K) oIxL := by
  intro φ S H x y v w X r hx hy Q p
  unfold oIxL at p
  split at p
  · split at p
    · rename_i d hd
      obtain ⟨xs, h1, h2⟩ := Option.bind_eq_some_iff.mp hd
      cases hx; cases hy
      obtain ⟨vs, q1, q2⟩ := r.rd h1
      obtain ⟨u, hu, q3⟩ := q2.atI h2
      exact ⟨_, vs, _, u, rfl, rfl, q1, hu, p.here r q3⟩
    · exact p.elim
  · exact p.elim
def oIxT : D → D → Sto → R D := fun x y S => match x, y with
  | .tup xs, .int i => match atI xs i with
    | some d => .ok d S
    | none => .bad
  | _, _ => .bad
theorem oIxT_eq {i : Int} {xs : List D} {d : D} (e : atI xs i = some d) : oIxT (.tup xs) (.int i) S = .ok d S := by simp [oIxT, e]
theorem opi_ixT : OpI K (rIxT K) oIxT := by
  intro φ S H x y v w X r hx hy Q p
  unfold oIxT at p
  split at p
  · split at p
    · rename_i d hd
      cases hy
      obtain ⟨a, vs, rfl, q1, q2⟩ := hx.tup_inv
      obtain ⟨u, hu, q3⟩ := q2.atI hd
      exact ⟨_, vs, _, u, rfl, rfl, q1, hu, p.here r q3⟩
    · exact p.elim
  · exact p.elim
def oIxS : D → D → Sto → R D := fun x y S => match x, y with
  | .str z, .int i => if z.length ≤ 100000 then match atI z.cps.toList i with
    | some c => .ok (.str ⟨#[c]⟩) S
    | none => .bad
    else .bad
  | _, _ => .bad
theorem oIxS_eq {z : Str} {i : Int} {c : Nat} (h : z.length ≤ 100000) (e : atI z.cps.toList i = some c) : oIxS (.str z) (.int i) S = .ok (.str ⟨#[c]⟩) S := by simp [oIxS, h, e]
theorem opi_ixS : OpI K rIxS oIxS := by
  intro φ S H x y v w X r hx hy Q p
  unfold oIxS at p
  split at p
  · split at p
    · rename_i hl
      split at p
      · rename_i c hd
        cases hx; cases hy
        exact ⟨_, _, c, rfl, rfl, sz_of hl, hd, p.here r (VR.str _)⟩
      · exact p.elim
    · exact p.elim
  · exact p.elim
/-! ### in -/
def scVs : List D → Option (List V)
  | [] => some []
  | x :: xs => (scV x).bind fun v => (scVs xs).map fun vs => v :: vs
theorem flat_of {d : D} {v : V} (h : scV d = some v) : flatV v = true := by cases d <;> simp [scV] at h <;> subst h <;> rfl
theorem scVs_eq : ∀ {xs : List D} {ws vs : List V}, scVs xs = some ws → VRs K φ n H xs vs → vs = ws ∧ ws.all flatV = true
  | [], ws, _, h, .nil => by cases h; exact ⟨rfl, rfl⟩
  | x :: xs, ws, _, h, .cons q t => by
    obtain ⟨v, h1, h2⟩ := Option.bind_eq_some_iff.mp h
    obtain ⟨us, h3, h4⟩ := Option.map_eq_some_iff.mp h2
    obtain ⟨e1, e2⟩ := scVs_eq h3 t
    subst h4
    rw [scV_eq h1 q, e1]
    exact ⟨rfl, by rw [List.all_cons, flat_of h1, e2]; rfl⟩
theorem scVs_ints : ∀ ns : List Int, scVs (ns.map D.int) = some (ns.map V.int)
  | [] => rfl
  | i :: r => by simp [scVs, scV, scVs_ints r]
theorem scVs_strs : ∀ ns : List Str, scVs (ns.map D.str) = some (ns.map V.str)
  | [] => rfl
  | i :: r => by simp [scVs, scV, scVs_strs r]
def itemsOf (S : Sto) : D → Option (List D)
  | .ref l => rdL S l
  | .tup xs => some xs
  | _ => none
@[simp] theorem itemsOf_ref {l : Nat} : itemsOf S (.ref l) = rdL S l := rfl
@[simp] theorem itemsOf_tup {l : List D} : itemsOf S (.tup l) = some l := rfl
theorem itemsOf_eq {y : D} {v : V} {xs : List D} (r : Rel K φ S H) (h : itemsOf S y = some xs) (hy : VR K φ S.length H y v) : ∃ p vs, v = .ref p ∧ (SqL K H p vs ∨ SqT K H p vs) ∧ VRs K φ S.length H xs vs := by
  cases y with
  | ref l =>
    obtain ⟨_, rfl⟩ := hy.ref_inv
    obtain ⟨vs, q1, q2⟩ := r.rd h
    exact ⟨_, vs, rfl, .inl q1, q2⟩
  | tup ys =>
    cases h
    obtain ⟨a, vs, rfl, q1, q2⟩ := hy.tup_inv
    exact ⟨_, vs, rfl, .inr q1, q2⟩
  | _ => cases h
def oIn (neg : Bool) : D → D → Sto → R D := fun x y S => match scV x, (itemsOf S y).bind scVs with
  | some u, some ws => .ok (.bl (if neg = true then !inV u ws else inV u ws)) S
  | _, _ => .bad
theorem opi_in {neg : Bool} : OpI K (rIn K neg) (oIn neg) := by
  intro φ S H x y v w X r hx hy Q p
  unfold oIn at p
  split at p
  · rename_i u ws h1 h2
    obtain ⟨xs, h3, h4⟩ := Option.bind_eq_some_iff.mp h2
    obtain ⟨a, vs, rfl, q1, q2⟩ := itemsOf_eq r h3 hy
    obtain ⟨rfl, q3⟩ := scVs_eq h4 q2
    rw [scV_eq h1 hx]
    exact ⟨a, _, rfl, q1, flat_of h1, q3, p.here r (VR.bl _)⟩
  · exact p.elim
/-! ### list + list, list * n, tuple + tuple, texts -/
def oCat : D → D → Sto → R D := fun x y S => match x, y with
  | .ref l, .ref b => match at_ S l, at_ S b with
    | some (.lst xs), some (.lst ys) => if xs.length + ys.length ≤ 100000 then .ok (.ref S.length) (S ++ [.lst (xs ++ ys)]) else .bad
    | _, _ => .bad
  | _, _ => .bad
theorem oCat_eq {l b : Nat} {xs ys : List D} (h : at_ S l = some (.lst xs)) (g : at_ S b = some (.lst ys)) (hl : xs.length + ys.length ≤ 100000) : oCat (.ref l) (.ref b) S = .ok (.ref S.length) (S ++ [.lst (xs ++ ys)]) := by simp [oCat, h, g, hl]
theorem opi_cat : OpI K rCat oCat := by
  intro φ S H x y v w X r hx hy Q p
  unfold oCat at p
  split at p
  · split at p
    · rename_i xs ys h1 h2
      split at p
      · rename_i hl
        cases hx; cases hy
        obtain ⟨vs, a1, a2⟩ := r.ob _ _ h1
        obtain ⟨us, b1, b2⟩ := r.ob _ _ h2
        exact ⟨_, _, vs, us, rfl, rfl, a1, b1, sz_of (by rw [a2.len, b2.len]; exact hl), fun a ha => p.new r ha (or_lst ha (a2.app b2))⟩
      · exact p.elim
    · exact p.elim
  · exact p.elim
def oCatT : D → D → Sto → R D := fun x y S => match x, y with
  | .tup xs, .tup ys => if xs ≠ [] ∧ xs.length + ys.length ≤ 100000 then .ok (.tup (xs ++ ys)) S else .bad
  | _, _ => .bad
def oAddS : D → D → Sto → R D := fun x y S => match x, y with
  | .str a, .str b => if a.length + b.length ≤ 100000 then .ok (.str (a ++ b)) S else .bad
  | _, _ => .bad
theorem oAddS_eq {a b : Str} (h : a.length + b.length ≤ 100000) : oAddS (.str a) (.str b) S = .ok (.str (a ++ b)) S := by simp [oAddS, h]
theorem opi_addS : OpI K (fun x y H Q => ∃ i j, x = .str i ∧ y = .str j ∧ i.length + j.length ≤ sizeLine ∧ Q (.str (i ++ j)) H) oAddS := by
  intro φ S H x y v w X r hx hy Q p
  unfold oAddS at p
  split at p
  · split at p
    · rename_i hl
      cases hx; cases hy
      exact ⟨_, _, rfl, rfl, sz_of hl, p.here r (VR.str _)⟩
    · exact p.elim
  · exact p.elim
def oLtS : D → D → Sto → R D := fun x y S => match x, y with
  | .str a, .str b => .ok (.bl (decide (a.cps.toList < b.cps.toList))) S
  | _, _ => .bad
theorem opi_ltS : OpI K (fun x y H Q => ∃ i j, x = .str i ∧ y = .str j ∧ Q (.bl (decide (i.cps.toList < j.cps.toList))) H) oLtS := by
  intro φ S H x y v w X r hx hy Q p
  unfold oLtS at p
  split at p
  · cases hx; cases hy
    exact ⟨_, _, rfl, rfl, p.here r (VR.bl _)⟩
  · exact p.elim
def oInS (neg : Bool) : D → D → Sto → R D := fun x y S => match x, y with
  | .str i, .str j => .ok (.bl (if neg = true then !(!(Builtin.Str.occurrences j i 0 j.length 1).isEmpty) else !(Builtin.Str.occurrences j i 0 j.length 1).isEmpty)) S
  | _, _ => .bad
theorem opi_inS : OpI K (fun x y H Q => ∃ i j, x = .str i ∧ y = .str j ∧ Q (.bl (!(Builtin.Str.occurrences j i 0 j.length 1).isEmpty)) H) (oInS false) := by
  intro φ S H x y v w X r hx hy Q p
  unfold oInS at p
  split at p
  · cases hx; cases hy
    exact ⟨_, _, rfl, rfl, p.here r (VR.bl _)⟩
  · exact p.elim
theorem opi_niS : OpI K (fun x y H Q => ∃ i j, x = .str i ∧ y = .str j ∧ Q (.bl (!(!(Builtin.Str.occurrences j i 0 j.length 1).isEmpty))) H) (oInS true) := by
  intro φ S H x y v w X r hx hy Q p
  unfold oInS at p
  split at p
  · cases hx; cases hy
    exact ⟨_, _, rfl, rfl, p.here r (VR.bl _)⟩
  · exact p.elim
theorem VRs.rep {xs : List D} {vs : List V} (h : VRs K φ n H xs vs) : ∀ k, VRs K φ n H (List.flatten (List.replicate k xs)) (List.flatten (List.replicate k vs))
  | 0 => .nil
  | k + 1 => by
    rw [List.replicate_succ, List.replicate_succ, List.flatten_cons, List.flatten_cons]
    exact h.app (VRs.rep h k)
/-! ### slices -/
def xNoPart : Env → Sto → R (Option Int) := fun _ S => .ok none S
def xPart (fa : Env → Sto → R D) : Env → Sto → R (Option Int) := fun env S => (fa env S).bind fun x S1 => match x with
  | .int i => .ok (some i) S1
  | _ => .bad
theorem imp_noPart : Imp K W same tNoPart xNoPart := fun φ S H env σ r e Q p => p.here r rfl
theorem imp_part {ta : TE} {fa : Env → Sto → R D} (ha : Imp K W (vr K) ta fa) : Imp K W same (tPart ta) (xPart fa) :=
  imp_bind (tb := fun (v : V) _ H (Q : Option Int → Hp → Prop) => ∃ i, v = .int i ∧ Q (some i) H) ha fun φ S H env σ x v rl e hv Q p => by
    split at p
    · cases hv
      exact ⟨_, rfl, p.here rl rfl⟩
    · exact p.elim
def SlI (K : PySem.W.Frag) (r : V → Option Int → Option Int → Hp → VK → Prop) (o : D → Option Int → Option Int → Sto → R D) : Prop := ∀ φ S H x v lo hi X, Rel K φ S H → VR K φ S.length H x v → ∀ Q, Post K (vr K) φ S.length H X (o x lo hi S) Q → r v lo hi H Q
def xSl (o : D → Option Int → Option Int → Sto → R D) (fa : Env → Sto → R D) (fl fh : Env → Sto → R (Option Int)) : Env → Sto → R D := fun env S => (fa env S).bind fun x S1 => (fl env S1).bind fun lo S2 => (fh env S2).bind fun hi S3 => o x lo hi S3
theorem imp_sl {r : V → Option Int → Option Int → Hp → VK → Prop} {o : D → Option Int → Option Int → Sto → R D} {ta : TE} {tl th : TO} {fa : Env → Sto → R D} {fl fh : Env → Sto → R (Option Int)} (hr : SlI K r o) (ha : Imp K W (vr K) ta fa) (hl : Imp K W same tl fl) (hh : Imp K W same th fh) :
    Imp K W (vr K) (tSl r ta tl th) (xSl o fa fl fh) :=
  imp_bind (tb := fun (v : V) σ H (Q : VK) => tl σ H fun l H2 => th σ H2 fun u H3 => r v l u H3 Q) ha fun φ S H env σ x v rl e hv Q p => hl.go rl e p fun φ1 S1 H1 lo lo' f r1 e1 h1 p1 => hh.go r1 e1 p1 fun φ2 S2 H2 hi hi' f2 r2 e2 h2 p2 => by
    obtain rfl : lo = lo' := h1
    obtain rfl : hi = hi' := h2
    exact hr φ2 S2 H2 x v lo hi _ r2 (VR.fut f2 (VR.fut f hv)) Q p2
/-- a slice's items -/
def cutX {α : Type} (xs : List α) (lo hi : Option Int) : List α := (xs.drop (HT.sIx xs.length 0 lo)).take (HT.sIx xs.length xs.length hi - HT.sIx xs.length 0 lo)
theorem VRs.cut {xs : List D} {vs : List V} {lo hi : Option Int} (h : VRs K φ n H xs vs) : VRs K φ n H (cutX xs lo hi) (cutV vs lo hi) := by
  unfold cutX cutV
  rw [h.len]
  exact (h.drop _).take _
def oSlL : D → Option Int → Option Int → Sto → R D := fun x lo hi S => match x with
  | .ref l => match rdL S l with
    | some xs => .ok (.ref S.length) (S ++ [.lst (cutX xs lo hi)])
    | none => .bad
  | _ => .bad
theorem oSlL_eq {l : Nat} {xs : List D} {lo hi : Option Int} (h : rdL S l = some xs) : oSlL (.ref l) lo hi S = .ok (.ref S.length) (S ++ [.lst (cutX xs lo hi)]) := by simp [oSlL, h]
theorem sli_L : SlI K (rSlL K) oSlL := by
  intro φ S H x v lo hi X r hx Q p
  unfold oSlL at p
  split at p
  · split at p
    · rename_i xs h
      cases hx
      obtain ⟨vs, q1, q2⟩ := r.rd h
      exact ⟨_, vs, rfl, q1, fun a ha => p.new r ha (or_lst ha q2.cut)⟩
    · exact p.elim
  · exact p.elim
/-! ### built-ins -/
def CallI (K : PySem.W.Frag) (r : List V → Hp → VK → Prop) (o : List D → Sto → R D) : Prop := ∀ φ S H ds vs X, Rel K φ S H → VRs K φ S.length H ds vs → ∀ Q, Post K (vr K) φ S.length H X (o ds S) Q → r vs H Q
def xCB (o : List D → Sto → R D) (fa : Env → Sto → R (List D)) : Env → Sto → R D := fun env S => (fa env S).bind o
theorem imp_cb {r : List V → Hp → VK → Prop} {o : List D → Sto → R D} {ta : TA} {fa : Env → Sto → R (List D)} (hr : CallI K r o) (ha : Imp K W (vrs K) ta fa) : Imp K W (vr K) (tCB r ta) (xCB o fa) :=
  imp_bind (tb := fun (vs : List V) _ H (Q : VK) => r vs H Q) ha fun φ S H env σ x v rl e hv Q p => hr φ S H x v _ rl hv Q p
def bLen : List D → Sto → R D := fun ds S => match ds with
  | [y] => match itemsOf S y with
    | some xs => .ok (.int xs.length) S
    | none => .bad
  | _ => .bad
theorem bLen_ref {l : Nat} {xs : List D} (h : rdL S l = some xs) : bLen [.ref l] S = .ok (.int xs.length) S := by simp [bLen, h]
@[simp] theorem bLen_tup {xs : List D} : bLen [.tup xs] S = .ok (.int xs.length) S := rfl
theorem VRs.one_inv {y : D} {vs : List V} (h : VRs K φ n H [y] vs) : ∃ v, vs = [v] ∧ VR K φ n H y v := by
  cases h with
  | cons h t => cases t; exact ⟨_, rfl, h⟩
theorem VRs.two_inv {y z : D} {vs : List V} (h : VRs K φ n H [y, z] vs) : ∃ v w, vs = [v, w] ∧ VR K φ n H y v ∧ VR K φ n H z w := by
  cases h with
  | cons h t =>
    obtain ⟨w, rfl, g⟩ := t.one_inv
    exact ⟨_, w, rfl, h, g⟩
theorem cbi_len : CallI K (rLenQ K) bLen := by
  intro φ S H ds vs X r h Q p
  unfold bLen at p
  split at p
  · split at p
    · rename_i y xs e
      obtain ⟨v, rfl, hv⟩ := h.one_inv
      obtain ⟨a, ws, rfl, q1, q2⟩ := itemsOf_eq r e hv
      refine ⟨a, ws, rfl, q1, ?_⟩
      rw [q2.len]
      exact p.here r (VR.int _)
    · exact p.elim
  · exact p.elim
def bList : List D → Sto → R D := fun ds S => match ds with
  | [y] => match itemsOf S y with
    | some xs => .ok (.ref S.length) (S ++ [.lst xs])
    | none => .bad
  | _ => .bad
theorem bList_ref {l : Nat} {xs : List D} (h : rdL S l = some xs) : bList [.ref l] S = .ok (.ref S.length) (S ++ [.lst xs]) := by simp [bList, h]
@[simp] theorem bList_tup {xs : List D} : bList [.tup xs] S = .ok (.ref S.length) (S ++ [.lst xs]) := rfl
theorem cbi_list : CallI K (rListQ K) bList := by
  intro φ S H ds vs X r h Q p
  unfold bList at p
  split at p
  · split at p
    · rename_i y xs e
      obtain ⟨v, rfl, hv⟩ := h.one_inv
      obtain ⟨a, ws, rfl, q1, q2⟩ := itemsOf_eq r e hv
      exact ⟨a, ws, rfl, q1, fun l hl => p.new r hl (or_lst hl q2)⟩
    · exact p.elim
  · exact p.elim
def bTuple : List D → Sto → R D := fun ds S => match ds with
  | [y] => match itemsOf S y with
    | some xs => .ok (.tup xs) S
    | none => .bad
  | _ => .bad
theorem bTuple_ref {l : Nat} {xs : List D} (h : rdL S l = some xs) : bTuple [.ref l] S = .ok (.tup xs) S := by simp [bTuple, h]
@[simp] theorem bTuple_tup {xs : List D} : bTuple [.tup xs] S = .ok (.tup xs) S := rfl
theorem cbi_tuple : CallI K (rTupQ K) bTuple := by
  intro φ S H ds vs X r h Q p
  unfold bTuple at p
  split at p
  · split at p
    · rename_i y xs e
      obtain ⟨v, rfl, hv⟩ := h.one_inv
      obtain ⟨a, ws, rfl, q1, q2⟩ := itemsOf_eq r e hv
      refine ⟨a, ws, rfl, ?_⟩
      rcases q1 with q1 | q1
      · exact .inl ⟨q1, fun l hl => p.tup r hl q2⟩
      · exact .inr ⟨q1, p.here r (VR.tup q1 q2)⟩
    · exact p.elim
  · exact p.elim
def bInt1 (g : Int → D) : List D → Sto → R D := fun ds S => match ds with
  | [.int i] => .ok (g i) S
  | _ => .bad
@[simp] theorem bInt1_eq {g : Int → D} {i : Int} : bInt1 g [.int i] S = .ok (g i) S := rfl
theorem cbi_abs : CallI K (fun xs H Q => ∃ i, xs = [.int i] ∧ Q (.int (if i < 0 then -i else i)) H) (bInt1 fun i => .int (if i < 0 then -i else i)) := by
  intro φ S H ds vs X r h Q p
  unfold bInt1 at p
  split at p
  · obtain ⟨v, rfl, hv⟩ := h.one_inv
    cases hv
    exact ⟨_, rfl, p.here r (VR.int _)⟩
  · exact p.elim
def bInt2 (g : Int → Int → D) : List D → Sto → R D := fun ds S => match ds with
  | [.int i, .int j] => .ok (g i j) S
  | _ => .bad
@[simp] theorem bInt2_eq {g : Int → Int → D} {i j : Int} : bInt2 g [.int i, .int j] S = .ok (g i j) S := rfl
theorem cbi_max2 : CallI K (fun xs H Q => ∃ i j, xs = [.int i, .int j] ∧ Q (.int (if j > i then j else i)) H) (bInt2 fun i j => .int (if j > i then j else i)) := by
  intro φ S H ds vs X r h Q p
  unfold bInt2 at p
  split at p
  · obtain ⟨v, w, rfl, hv, hw⟩ := h.two_inv
    cases hv; cases hw
    exact ⟨_, _, rfl, p.here r (VR.int _)⟩
  · exact p.elim
theorem cbi_min2 : CallI K (fun xs H Q => ∃ i j, xs = [.int i, .int j] ∧ Q (.int (if j < i then j else i)) H) (bInt2 fun i j => .int (if j < i then j else i)) := by
  intro φ S H ds vs X r h Q p
  unfold bInt2 at p
  split at p
  · obtain ⟨v, w, rfl, hv, hw⟩ := h.two_inv
    cases hv; cases hw
    exact ⟨_, _, rfl, p.here r (VR.int _)⟩
  · exact p.elim
def bInt : List D → Sto → R D := fun ds S => match ds with
  | [.int i] => .ok (.int i) S
  | [.bl b] => .ok (.int (if b = true then 1 else 0)) S
  | _ => .bad
@[simp] theorem bInt_int {i : Int} : bInt [.int i] S = .ok (.int i) S := rfl
@[simp] theorem bInt_bl {i : Bool} : bInt [.bl i] S = .ok (.int (if i = true then 1 else 0)) S := rfl
theorem cbi_int : CallI K (fun xs H Q => (∃ i, xs = [.int i] ∧ Q (.int i) H) ∨ ∃ k, xs = [.bl k] ∧ Q (.int (if k then 1 else 0)) H) bInt := by
  intro φ S H ds vs X r h Q p
  unfold bInt at p
  split at p
  · obtain ⟨v, rfl, hv⟩ := h.one_inv
    cases hv
    exact .inl ⟨_, rfl, p.here r (VR.int _)⟩
  · obtain ⟨v, rfl, hv⟩ := h.one_inv
    cases hv
    exact .inr ⟨_, rfl, p.here r (VR.int _)⟩
  · exact p.elim
def bLenS : List D → Sto → R D := fun ds S => match ds with
  | [.str z] => if z.length ≤ 100000 then .ok (.int z.length) S else .bad
  | _ => .bad
theorem cbi_lenS : CallI K (fun xs H Q => ∃ z, xs = [.str z] ∧ z.length ≤ sizeLine ∧ Q (.int z.length) H) bLenS := by
  intro φ S H ds vs X r h Q p
  unfold bLenS at p
  split at p
  · split at p
    · rename_i hl
      obtain ⟨v, rfl, hv⟩ := h.one_inv
      cases hv
      exact ⟨_, rfl, sz_of hl, p.here r (VR.int _)⟩
    · exact p.elim
  · exact p.elim
/-- lists of ints -/
def intsOf : List D → Option (List Int)
  | [] => some []
  | .int i :: r => (intsOf r).map fun ns => i :: ns
  | _ => none
theorem intsOf_map : ∀ ns : List Int, intsOf (ns.map D.int) = some ns
  | [] => rfl
  | i :: r => by simp [intsOf, intsOf_map r]
theorem intsOf_inv : ∀ {xs : List D} {ns : List Int}, intsOf xs = some ns → xs = ns.map D.int
  | [], _, h => by cases h; rfl
  | .int i :: r, _, h => by
    obtain ⟨ns, h1, h2⟩ := Option.map_eq_some_iff.mp (show (intsOf r).map (fun ns => i :: ns) = some _ from h)
    subst h2
    rw [intsOf_inv h1]
    rfl
  | .non :: _, _, h => by cases h
  | .bl _ :: _, _, h => by cases h
  | .str _ :: _, _, h => by cases h
  | .ref _ :: _, _, h => by cases h
  | .tup _ :: _, _, h => by cases h
def bInts (g : List Int → Sto → R D) : List D → Sto → R D := fun ds S => match ds with
  | [.ref l] => match (rdL S l).bind intsOf with
    | some ns => g ns S
    | none => .bad
  | _ => .bad
theorem bInts_eq {g : List Int → Sto → R D} {l : Nat} {ns : List Int} (h : rdL S l = some (ns.map D.int)) : bInts g [.ref l] S = g ns S := by simp [bInts, h, intsOf_map]
theorem bInts_inv {ds : List D} {vs : List V} {g : List Int → Sto → R D} {Q : VK} (r : Rel K φ S H) (h : VRs K φ S.length H ds vs) (p : Post K (vr K) φ S.length H X (bInts g ds S) Q) : ∃ (a : Addr) (ns : List Int), vs = [.ref a] ∧ SqL K H a (ns.map V.int) ∧ Post K (vr K) φ S.length H X (g ns S) Q := by
  unfold bInts at p
  split at p
  · split at p
    · rename_i ns e
      obtain ⟨xs, h1, h2⟩ := Option.bind_eq_some_iff.mp e
      obtain ⟨v, rfl, hv⟩ := h.one_inv
      cases hv
      obtain ⟨ws, q1, q2⟩ := r.rd h1
      rw [intsOf_inv h2] at q2
      rw [q2.ints_inv] at q1
      exact ⟨_, ns, rfl, q1, p⟩
    · exact p.elim
  · exact p.elim
theorem cbi_sum : CallI K (rSum K) (bInts fun ns S => .ok (.int ns.sum) S) := by
  intro φ S H ds vs X r h Q p
  obtain ⟨a, ns, rfl, q1, p⟩ := bInts_inv r h p
  exact ⟨a, ns, rfl, q1, p.here r (VR.int _)⟩
/-- the greatest, the least of some ints -/
def gMax : List Int → Int
  | [] => 0
  | i :: r => r.foldl max i
def gMin : List Int → Int
  | [] => 0
  | i :: r => r.foldl min i
theorem foldl_max : ∀ (r : List Int) (i : Int), i ≤ r.foldl max i ∧ (∀ y ∈ r, y ≤ r.foldl max i) ∧ (r.foldl max i = i ∨ r.foldl max i ∈ r)
  | [], i => ⟨Int.le_refl _, by simp, .inl rfl⟩
  | y :: r, i => by
    obtain ⟨h1, h2, h3⟩ := foldl_max r (max i y)
    rw [List.foldl_cons]
    refine ⟨by omega, fun z hz => ?_, ?_⟩
    · rcases List.mem_cons.mp hz with rfl | hz
      · omega
      · exact h2 z hz
    · rcases h3 with h3 | h3
      · by_cases hm : i ≤ y
        · exact .inr (by rw [h3]; simp [Int.max_eq_right hm])
        · exact .inl (by rw [h3]; exact Int.max_eq_left (by omega))
      · exact .inr (List.mem_cons_of_mem _ h3)
theorem foldl_min : ∀ (r : List Int) (i : Int), r.foldl min i ≤ i ∧ (∀ y ∈ r, r.foldl min i ≤ y) ∧ (r.foldl min i = i ∨ r.foldl min i ∈ r)
  | [], i => ⟨Int.le_refl _, by simp, .inl rfl⟩
  | y :: r, i => by
    obtain ⟨h1, h2, h3⟩ := foldl_min r (min i y)
    rw [List.foldl_cons]
    refine ⟨by omega, fun z hz => ?_, ?_⟩
    · rcases List.mem_cons.mp hz with rfl | hz
      · omega
      · exact h2 z hz
    · rcases h3 with h3 | h3
      · by_cases hm : i ≤ y
        · exact .inl (by rw [h3]; exact Int.min_eq_left hm)
        · exact .inr (by rw [h3]; simp [Int.min_eq_right (show y ≤ i by omega)])
      · exact .inr (List.mem_cons_of_mem _ h3)
theorem gMax_spec {ns : List Int} (h : 0 < ns.length) : gMax ns ∈ ns ∧ ∀ y ∈ ns, y ≤ gMax ns := by
  cases ns with
  | nil => cases h
  | cons i r =>
    obtain ⟨h1, h2, h3⟩ := foldl_max r i
    refine ⟨?_, fun y hy => ?_⟩
    · rcases h3 with h3 | h3
      · exact List.mem_cons.mpr (.inl h3)
      · exact List.mem_cons_of_mem _ h3
    · rcases List.mem_cons.mp hy with rfl | hy
      · exact h1
      · exact h2 y hy
theorem gMin_spec {ns : List Int} (h : 0 < ns.length) : gMin ns ∈ ns ∧ ∀ y ∈ ns, gMin ns ≤ y := by
  cases ns with
  | nil => cases h
  | cons i r =>
    obtain ⟨h1, h2, h3⟩ := foldl_min r i
    refine ⟨?_, fun y hy => ?_⟩
    · rcases h3 with h3 | h3
      · exact List.mem_cons.mpr (.inl h3)
      · exact List.mem_cons_of_mem _ h3
    · rcases List.mem_cons.mp hy with rfl | hy
      · exact h1
      · exact h2 y hy
theorem cbi_max : CallI K (rMax K) (bInts fun ns S => if 0 < ns.length then .ok (.int (gMax ns)) S else .bad) := by
  intro φ S H ds vs X r h Q p
  obtain ⟨a, ns, rfl, q1, p⟩ := bInts_inv r h p
  split at p
  · rename_i hl
    refine ⟨a, ns, rfl, q1, hl, fun m hm hle => ?_⟩
    obtain ⟨g1, g2⟩ := gMax_spec hl
    obtain rfl : m = gMax ns := Int.le_antisymm (g2 m hm) (hle _ g1)
    exact p.here r (VR.int _)
  · exact p.elim
theorem cbi_min : CallI K (rMin K) (bInts fun ns S => if 0 < ns.length then .ok (.int (gMin ns)) S else .bad) := by
  intro φ S H ds vs X r h Q p
  obtain ⟨a, ns, rfl, q1, p⟩ := bInts_inv r h p
  split at p
  · rename_i hl
    refine ⟨a, ns, rfl, q1, hl, fun m hm hle => ?_⟩
    obtain ⟨g1, g2⟩ := gMin_spec hl
    obtain rfl : m = gMin ns := Int.le_antisymm (hle _ g1) (g2 m hm)
    exact p.here r (VR.int _)
  · exact p.elim
/-! ### truth -/
def truD (S : Sto) : D → Option Bool
  | .non => some false
  | .bl b => some b
  | .int i => some (i != 0)
  | .str y => if y.length ≤ 100000 then some ((y.length : Int) != 0) else none
  | .ref l => match at_ S l with
    | some (.lst xs) => some (!xs.isEmpty)
    | some (.rol xs) => some (!xs.isEmpty)
    | some (.dK kvs) => some (!kvs.isEmpty)
    | _ => none
  | .tup xs => some (!xs.isEmpty)
theorem VRs.empty {xs : List D} {vs : List V} (h : VRs K φ n H xs vs) : vs.isEmpty = xs.isEmpty := by cases h <;> rfl
theorem truD_eq {d : D} {v : V} {k : Bool} (r : Rel K φ S H) (h : truD S d = some k) (q : VR K φ S.length H d v) : TruV K v H k := by
  cases q with
  | non => cases h; rfl
  | bl b => cases h; rfl
  | int i => cases h; rfl
  | str y =>
    simp only [truD] at h
    split at h
    · rename_i hl
      cases h
      exact ⟨sz_of hl, rfl⟩
    · cases h
  | ref hl =>
    simp only [truD] at h
    split at h
    · rename_i xs e
      cases h
      obtain ⟨vs, h1, h2⟩ := r.ob _ _ e
      exact .inl ⟨vs, sq_of h1, by rw [h2.empty]⟩
    · rename_i xs e
      cases h
      obtain ⟨vs, h1, h2⟩ := r.rd (show rdL S _ = some xs by unfold rdL; rw [e])
      exact .inl ⟨vs, h1, by rw [h2.empty]⟩
    · rename_i xs e
      cases h
      obtain ⟨vs, h1, h2⟩ := r.ob _ _ e
      exact .inr (.inr ⟨vs, h1, by cases h2 <;> rfl⟩)
    · cases h
  | tup hl t =>
    cases h
    exact .inr (.inl ⟨_, hl, by rw [t.empty]⟩)
def xTru (fa : Env → Sto → R D) : Env → Sto → R Bool := fun env S => (fa env S).bind fun x S1 => match truD S1 x with
  | some b => .ok b S1
  | none => .bad
theorem imp_tru {ta : TE} {fa : Env → Sto → R D} (ha : Imp K W (vr K) ta fa) : Imp K W same (tTru K ta) (xTru fa) :=
  imp_bind (tb := fun (v : V) _ H (Q : Bool → Hp → Prop) => ∃ k, TruV K v H k ∧ Q k H) ha fun φ S H env σ x v rl e hv Q p => by
    split at p
    · rename_i b hb
      exact ⟨b, truD_eq rl hb hv, p.here rl rfl⟩
    · exact p.elim
end
end Mi

namespace Mi
open PySem PySem.Spec PyProof.Rows L2 Evl My
section
variable {K : PySem.W.Frag} {φ φ1 φ' : Nat → Addr} {n n1 n' : Nat} {H H1 H' : Hp} {X : XK} {W W1 : Wc K} {S : Sto} {α β γ δ : Type} {ρ : Rl α β}
/-! ### statements -/
def PostS (K : PySem.W.Frag) (W : Wc K) (φ : Nat → Addr) (n : Nat) (H : Hp) (r : RS) (D : Ends) : Prop := match r with
  | .nx e S' => ∀ φ' H' σ', Fut K φ n H φ' S'.length H' → Rel K φ' S' H' → ER K φ' S'.length H' e σ' → D.nx σ' H'
  | .ret d S' => ∀ φ' H' v, Fut K φ n H φ' S'.length H' → Rel K φ' S' H' → VR K φ' S'.length H' d v → D.rt v H'
  | .bk e S' => ∀ φ' H' σ', Fut K φ n H φ' S'.length H' → Rel K φ' S' H' → ER K φ' S'.length H' e σ' → D.bk σ' H'
  | .ct e S' => ∀ φ' H' σ', Fut K φ n H φ' S'.length H' → Rel K φ' S' H' → ER K φ' S'.length H' e σ' → D.ct σ' H'
  | .exc c fs e S' => ∀ φ' H' σ' dd fv, Fut K φ n H φ' S'.length H' → Rel K φ' S' H' → ER K φ' S'.length H' e σ' → H' dd = some (.xd fv) → KR K φ' S'.length H' fs fv → W (.ref (He.ga K c)) (some dd) σ' H'
  | .bad => False
theorem PostS.fut {r : RS} {D : Ends} (f : Fut K φ n H φ1 n1 H1) (h : PostS K W φ n H r D) : PostS K W φ1 n1 H1 r D := by
  cases r with
  | nx e S' => exact fun φ' H' v f' => h φ' H' v (f.trans f')
  | ret e S' => exact fun φ' H' v f' => h φ' H' v (f.trans f')
  | bk e S' => exact fun φ' H' v f' => h φ' H' v (f.trans f')
  | ct e S' => exact fun φ' H' v f' => h φ' H' v (f.trans f')
  | exc c fs e S' => exact fun φ' H' σ' dd fv f' => h φ' H' σ' dd fv (f.trans f')
  | bad => exact h
def ImpS (K : PySem.W.Frag) (W : Wc K) (t : TS) (f : Env → Sto → RS) : Prop := ∀ φ S H env σ, Rel K φ S H → EW K W φ S.length H env σ → ∀ D, PostS K W φ S.length H (f env S) D → t D σ H
theorem Imp.goS {ta : L2.St → Hp → (β → Hp → Prop) → Prop} {fa : Env → Sto → R α} (ha : Imp K W ρ ta fa) {env : Env} {σ : L2.St} {g : α → Sto → RS} {tb : β → Hp → Prop} (r : Rel K φ S H) (e : EW K W φ S.length H env σ) {D : Ends}
    (p : PostS K W φ S.length H ((fa env S).bindS env g) D)
    (hb : ∀ φ1 S1 H1 x v, Fut K φ S.length H φ1 S1.length H1 → Rel K φ1 S1 H1 → EW K W φ1 S1.length H1 env σ → ρ φ1 S1.length H1 x v → PostS K W φ1 S1.length H1 (g x S1) D → tb v H1) : ta σ H tb := by
  refine ha φ S H env σ r e _ ?_
  cases hf : fa env S with
  | ok x S1 =>
    rw [hf] at p
    exact fun φ' H' v f r' hv => hb φ' S1 H' x v f r' (e.fut f) hv (p.fut f)
  | exc c fs S1 =>
    rw [hf] at p
    exact fun φ' H' dd fv f r' hd hk => p φ' H' σ dd fv f r' (e.fut f).e hd hk
  | bad =>
    rw [hf] at p
    exact p
def xNext : Env → Sto → RS := fun env S => .nx env S
def xSeq (f g : Env → Sto → RS) : Env → Sto → RS := fun env S => (f env S).seq g
def xBreak : Env → Sto → RS := fun env S => .bk env S
def xCont : Env → Sto → RS := fun env S => .ct env S
def xRetN : Env → Sto → RS := fun _ S => .ret .non S
def xRet (fa : Env → Sto → R D) : Env → Sto → RS := fun env S => (fa env S).bindS env fun d S1 => .ret d S1
def xDrop (fa : Env → Sto → R D) : Env → Sto → RS := fun env S => (fa env S).bindS env fun _ S1 => .nx env S1
def xIfS (ft : Env → Sto → R Bool) (f g : Env → Sto → RS) : Env → Sto → RS := fun env S => (ft env S).bindS env fun b S1 => if b = true then f env S1 else g env S1
theorem imp_next : ImpS K W tNext xNext := fun φ S H env σ r e D p => p φ H σ Fut.refl r e.e
theorem imp_break : ImpS K W tBreak xBreak := fun φ S H env σ r e D p => p φ H σ Fut.refl r e.e
theorem imp_cont : ImpS K W tCont xCont := fun φ S H env σ r e D p => p φ H σ Fut.refl r e.e
theorem imp_retN : ImpS K W tRetN xRetN := fun φ S H env σ r e D p => p φ H .non Fut.refl r VR.non
theorem imp_seq {t u : TS} {f g : Env → Sto → RS} (ht : ImpS K W t f) (hu : ImpS K W u g) : ImpS K W (tSeq t u) (xSeq f g) := by
  intro φ S H env σ r e D p
  refine ht φ S H env σ r e _ ?_
  unfold xSeq at p
  cases hf : f env S with
  | nx e1 S1 =>
    rw [hf] at p
    exact fun φ' H' σ' fu r' e' => hu φ' S1 H' e1 σ' r' ⟨e', W.mono fu e.c⟩ D (PostS.fut fu p)
  | ret d S1 => rw [hf] at p; exact p
  | bk e1 S1 => rw [hf] at p; exact p
  | ct e1 S1 => rw [hf] at p; exact p
  | exc c fs e1 S1 => rw [hf] at p; exact p
  | bad => rw [hf] at p; exact p
theorem imp_ret {ta : TE} {fa : Env → Sto → R D} (ha : Imp K W (vr K) ta fa) : ImpS K W (tRet ta) (xRet fa) := by
  intro φ S H env σ r e D p
  exact ha.goS r e p fun φ1 S1 H1 x v f r1 e1 hv p1 => p1 φ1 H1 v Fut.refl r1 hv
theorem imp_drop {ta : TE} {fa : Env → Sto → R D} (ha : Imp K W (vr K) ta fa) : ImpS K W (tDrop ta) (xDrop fa) := by
  intro φ S H env σ r e D p
  exact ha.goS (tb := fun _ H1 => D.nx σ H1) r e p fun φ1 S1 H1 x v f r1 e1 hv p1 => p1 φ1 H1 σ Fut.refl r1 e1.e
theorem imp_ifS {tt : TT} {t u : TS} {ft : Env → Sto → R Bool} {f g : Env → Sto → RS} (htt : Imp K W same tt ft) (ht : ImpS K W t f) (hu : ImpS K W u g) : ImpS K W (tIfS tt t u) (xIfS ft f g) := by
  intro φ S H env σ r e D p
  refine htt.goS (tb := fun b H1 => if b = true then t D σ H1 else u D σ H1) r e p fun φ1 S1 H1 x v f1 r1 e1 hv p1 => ?_
  obtain rfl : x = v := hv
  cases x with
  | true => exact ht φ1 S1 H1 env σ r1 e1 D p1
  | false => exact hu φ1 S1 H1 env σ r1 e1 D p1
/-! ### targets -/
def Sets (ts : List Nat) (σ σ' : L2.St) : Prop := σ'.length = σ.length ∧ ∀ i, i ∉ ts → σ'[i]? = σ[i]?
theorem Sets.refl {ts : List Nat} {σ : L2.St} : Sets ts σ σ := ⟨rfl, fun _ _ => rfl⟩
theorem Sets.trans {ts us : List Nat} {σ σ1 σ2 : L2.St} (a : Sets ts σ σ1) (b : Sets us σ1 σ2) : Sets (ts ++ us) σ σ2 := ⟨b.1.trans a.1, fun i hi => by
  rw [List.mem_append, not_or] at hi
  rw [b.2 i hi.2, a.2 i hi.1]⟩
abbrev XG := D → Env → Sto → R Env
def PostG (K : PySem.W.Frag) (ts : List Nat) (φ : Nat → Addr) (n : Nat) (H : Hp) (σ : L2.St) (r : R Env) (Q : L2.St → Hp → Prop) : Prop := match r with
  | .ok e S' => ∀ φ' H' σ', Fut K φ n H φ' S'.length H' → Rel K φ' S' H' → ER K φ' S'.length H' e σ' → Sets ts σ σ' → Q σ' H'
  | _ => False
def ImpG (K : PySem.W.Frag) (ts : List Nat) (g : TG) (fg : XG) : Prop := ∀ φ S H env σ d v, Rel K φ S H → ER K φ S.length H env σ → VR K φ S.length H d v → ∀ Q, PostG K ts φ S.length H σ (fg d env S) Q → g v σ H Q
def gNameX (i : Nat) : XG := fun d env S => .ok (env.set i (some d)) S
theorem impg_name {i : Nat} : ImpG K [i] (gName i) (gNameX i) := fun φ S H env σ d v r e hv Q p => p φ H _ Fut.refl r (e.set i hv) ⟨List.length_set .., fun j hj => List.getElem?_set_ne (by simpa [eq_comm] using hj)⟩
abbrev XGs := List D → Env → Sto → R Env
def ImpGs (K : PySem.W.Frag) (ts : List Nat) (g : TGs) (fg : XGs) : Prop := ∀ φ S H env σ ds vs, Rel K φ S H → ER K φ S.length H env σ → VRs K φ S.length H ds vs → ∀ Q, PostG K ts φ S.length H σ (fg ds env S) Q → g vs σ H Q
def gNilX : XGs := fun ds env S => match ds with
  | [] => .ok env S
  | _ => .bad
def gConsX (f : XG) (fr : XGs) : XGs := fun ds env S => match ds with
  | d :: r => match f d env S with
    | .ok e S1 => fr r e S1
    | _ => .bad
  | _ => .bad
def gTupX (k : Nat) (f : XGs) : XG := fun d env S => match d with
  | .tup xs => if xs.length = k then f xs env S else .bad
  | _ => .bad
theorem impgs_nil : ImpGs K [] gNil gNilX := by
  intro φ S H env σ ds vs r e hv Q p
  cases hv with
  | nil => exact ⟨rfl, p φ H σ Fut.refl r e Sets.refl⟩
  | cons _ _ => exact p.elim
theorem impgs_cons {ts us : List Nat} {g : TG} {gs : TGs} {f : XG} {fr : XGs} (h : ImpG K ts g f) (hr : ImpGs K us gs fr) : ImpGs K (ts ++ us) (gCons g gs) (gConsX f fr) := by
  intro φ S H env σ ds vs r e hv Q p
  cases hv with
  | nil => exact p.elim
  | @cons x v xs vs q t =>
    refine ⟨v, vs, rfl, h φ S H env σ x v r e q _ ?_⟩
    show PostG K ts φ S.length H σ (f x env S) _
    unfold gConsX at p
    cases hf : f x env S with
    | ok e1 S1 =>
      simp only [hf] at p
      intro φ' H' σ' fu r' e' s'
      refine hr φ' S1 H' e1 σ' xs vs r' e' (VRs.fut fu t) Q ?_
      cases hg : fr xs e1 S1 with
      | ok e2 S2 =>
        rw [hg] at p
        exact fun φ2 H2 σ2 f2 r2 e2 s2 => p φ2 H2 σ2 (fu.trans f2) r2 e2 (s'.trans s2)
      | exc c fs S2 => rw [hg] at p; exact p
      | bad => rw [hg] at p; exact p
    | exc c fs S1 => simp only [hf] at p; exact p.elim
    | bad => simp only [hf] at p; exact p.elim
theorem impg_tup {ts : List Nat} {k : Nat} {gs : TGs} {f : XGs} (h : ImpGs K ts gs f) : ImpG K ts (gTup K k gs) (gTupX k f) := by
  intro φ S H env σ d v r e hv Q p
  unfold gTupX at p
  split at p
  · split at p
    · rename_i hl
      obtain ⟨a, vs, rfl, q1, q2⟩ := hv.tup_inv
      exact ⟨a, vs, rfl, q1, by rw [q2.len, hl], h φ S H env σ _ vs r e q2 Q p⟩
    · exact p.elim
  · exact p.elim
/-- x[i] = v, x a list -/
def setLX (x i v : D) (S : Sto) : Option Sto := match x, i with
  | .ref l, .int k => match at_ S l with
    | some (.lst xs) => (ixN xs.length k).map fun j => S.set l (.lst (xs.set j v))
    | _ => none
  | _, _ => none
theorem setLX_eq {l : Nat} {xs : List D} {k : Int} {j : Nat} {v : D} (h : at_ S l = some (.lst xs)) (hj : ixN xs.length k = some j) : setLX (.ref l) (.int k) v S = some (S.set l (.lst (xs.set j v))) := by simp [setLX, h, hj]
def gSubX (fo fi : Env → Sto → R D) : XG := fun d env S => (fo env S).bind fun x S1 => (fi env S1).bind fun i S2 => match setLX x i d S2 with
  | some S3 => .ok env S3
  | none => .bad
theorem impg_sub {to ti : TE} {fo fi : Env → Sto → R D} (ho : Imp K (W0 K) (vr K) to fo) (hi : Imp K (W0 K) (vr K) ti fi) : ImpG K [] (gSub to ti rSetL) (gSubX fo fi) := by
  intro φ S H env σ d v r e hv Q p
  unfold gSubX at p
  refine ho φ S H env σ r ⟨e, trivial⟩ _ ?_
  cases hf : fo env S with
  | ok x S1 =>
    rw [hf] at p
    intro φ1 H1 u f1 r1 hu
    refine hi φ1 S1 H1 env σ r1 ⟨e.fut f1, trivial⟩ _ ?_
    simp only [R.bind_ok] at p
    cases hg : fi env S1 with
    | ok y S2 =>
      rw [hg] at p
      intro φ2 H2 w f2 r2 hw
      simp only [R.bind_ok] at p
      cases hs : setLX x y d S2 with
      | none => rw [hs] at p; exact p.elim
      | some S3 =>
        rw [hs] at p
        unfold setLX at hs
        split at hs
        · split at hs
          · rename_i l k _ xs hl
            obtain ⟨j, hj, rfl⟩ := Option.map_eq_some_iff.mp hs
            obtain ⟨_, rfl⟩ := (VR.fut f2 hu).ref_inv
            cases hw
            obtain ⟨ws, q1, q2⟩ := r2.ob _ _ hl
            have hv2 := VR.fut (f1.trans f2) hv
            have fw : Fut K φ2 S2.length H2 φ2 S2.length (upd H2 (φ2 l) (.lst (ws.set j v))) := Fut.upd q1 trivial
            have q := r2.put (o' := .lst (xs.set j d)) (u := .lst (ws.set j v)) hl rfl rfl ⟨_, upd_same, (q2.set j hv2).fut fw⟩
            have fz := (f1.trans f2).trans q.2
            exact ⟨_, ws, _, j, rfl, rfl, q1, by rw [q2.len]; exact hj, p _ _ _ fz q.1 (e.fut fz) Sets.refl⟩
          · cases hs
        · cases hs
    | exc c fs S2 => rw [hg] at p; exact p.elim
    | bad => rw [hg] at p; exact p.elim
  | exc c fs S1 => rw [hf] at p; exact p.elim
  | bad => rw [hf] at p; exact p.elim
def toS (r : R Env) : RS := match r with
  | .ok e S => .nx e S
  | _ => .bad
@[simp] theorem toS_ok {e : Env} : toS (.ok e S) = .nx e S := rfl
theorem PostG.of {ts : List Nat} {σ : L2.St} {r : R Env} {D : Ends} (p : PostS K W φ n H (toS r) D) : PostG K ts φ n H σ r D.nx := by
  cases r with
  | ok e S1 => exact fun φ' H' σ' f r e _ => p φ' H' σ' f r e
  | _ => exact p
def xAsg (fa : Env → Sto → R D) (fg : XG) : Env → Sto → RS := fun env S => (fa env S).bindS env fun x S1 => toS (fg x env S1)
theorem imp_asg {ta : TE} {g : TG} {fa : Env → Sto → R D} {fg : XG} {ts : List Nat} (ha : Imp K W (vr K) ta fa) (hg : ImpG K ts g fg) : ImpS K W (tAsg ta g) (xAsg fa fg) := by
  intro φ S H env σ r e D p
  exact ha.goS r e p fun φ1 S1 H1 x v f r1 e1 hv p1 => hg φ1 S1 H1 env σ x v r1 e1.e hv _ (PostG.of p1)
/-- x += e of ints -/
def xAug (i : Nat) (fa : Env → Sto → R D) (o : D → D → Sto → R D) : Env → Sto → RS := fun env S => (xVar i env S).bindS env fun x S1 => (fa env S1).bindS env fun y S2 => (o x y S2).bindS env fun z S3 => .nx (env.set i (some z)) S3
theorem imp_aug {i : Nat} {ta : TE} {fa : Env → Sto → R D} {op : Int → Int → Int} (ha : Imp K W (vr K) ta fa) : ImpS K W (tAug i ta (ipI op)) (xAug i fa (oI fun i j => .int (op i j))) := by
  intro φ S H env σ r e D p
  unfold xAug xVar at p
  cases hx : env[i]? with
  | none => simp only [hx] at p; exact p.elim
  | some o =>
    cases o with
    | none => simp only [hx] at p; exact p.elim
    | some d =>
      simp only [hx, R.bindS_ok] at p
      obtain ⟨v, hv, q⟩ := e.get hx
      refine ⟨v, hv, ha.goS r e p fun φ1 S1 H1 y w f1 r1 e1 hw p1 => ?_⟩
      unfold oI at p1
      split at p1
      · cases q
        cases hw
        exact ⟨_, _, rfl, rfl, p1 φ1 H1 _ Fut.refl r1 (e1.set i (VR.int _)).e⟩
      · exact p1.elim
/-! ### what is walked -/
structure Itx where
  items : List D
  ok : Sto → Prop
def itr (K : PySem.W.Frag) : Rl Itx It := fun φ n H it J => ∀ φ1 S1 H1, Fut K φ n H φ1 S1.length H1 → Rel K φ1 S1 H1 → it.ok S1 →
  (∀ i x, it.items[i]? = some x → J.go i H1 ∧ ∀ v H2, J.yld i H1 v H2 → Ex H1 H2 ∧ VR K φ1 S1.length H2 x v) ∧ J.stop it.items.length H1
/-- for x in l -/
def iL (fa : Env → Sto → R D) : Env → Sto → R Itx := fun env S => (fa env S).bind fun x S1 => match x with
  | .ref l => match rdL S1 l with
    | some xs => .ok ⟨xs, fun S => rdL S l = some xs⟩ S1
    | none => .bad
  | _ => .bad
theorem imp_iL {ta : TE} {fa : Env → Sto → R D} (ha : Imp K W (vr K) ta fa) : Imp K W (itr K) (iList K ta) (iL fa) :=
  imp_bind (tb := fun (v : V) _ H (Q : It → Hp → Prop) => ∃ a, v = .ref a ∧ (∃ xs, SqL K H a xs) ∧ Q (Itl K a) H) ha fun φ S H env σ x v rl e hv Q p => by
    split at p
    · split at p
      · rename_i l _ xs h
        obtain ⟨hl, rfl⟩ := hv.ref_inv
        obtain ⟨vs, q1, q2⟩ := rl.rd h
        refine ⟨_, rfl, ⟨vs, q1⟩, p.here rl fun φ1 S1 H1 f r1 ok => ?_⟩
        obtain ⟨ws, b1, b2⟩ := r1.rd ok
        rw [f.ag l hl] at b1
        refine ⟨fun i x hx => ?_, ws, b1, by rw [b2.len]; exact Nat.le_refl _⟩
        obtain ⟨w, hw, hr⟩ := b2.get hx
        refine ⟨⟨ws, w, b1, hw⟩, fun v H2 y => ?_⟩
        obtain ⟨rfl, y⟩ := y
        have := y ws b1
        rw [hw] at this
        cases this
        exact ⟨Ex.refl _, hr⟩
      · exact p.elim
    · exact p.elim
/-- for x in t, a tuple -/
def iT (fa : Env → Sto → R D) : Env → Sto → R Itx := fun env S => (fa env S).bind fun x S1 => match x with
  | .tup xs => .ok ⟨xs, fun _ => True⟩ S1
  | _ => .bad
theorem imp_iT {ta : TE} {fa : Env → Sto → R D} (ha : Imp K W (vr K) ta fa) : Imp K W (itr K) (iTup K ta) (iT fa) :=
  imp_bind (tb := fun (v : V) _ H (Q : It → Hp → Prop) => ∃ a, v = .ref a ∧ (∃ xs, SqT K H a xs) ∧ Q (Itt K a) H) ha fun φ S H env σ x v rl e hv Q p => by
    split at p
    · rename_i xs
      obtain ⟨a, vs, rfl, q1, q2⟩ := hv.tup_inv
      refine ⟨a, rfl, ⟨vs, q1⟩, p.here rl fun φ1 S1 H1 f r1 ok => ?_⟩
      have b1 := f.tp _ _ q1
      have b2 := VRs.fut f q2
      refine ⟨fun i x hx => ?_, vs, b1, by rw [b2.len]; exact Nat.le_refl _⟩
      obtain ⟨w, hw, hr⟩ := b2.get hx
      refine ⟨⟨vs, w, b1, hw⟩, fun v H2 y => ?_⟩
      obtain ⟨rfl, y⟩ := y
      have := y vs b1
      rw [hw] at this
      cases this
      exact ⟨Ex.refl _, hr⟩
    · exact p.elim
/-- the items of a range -/
def rngD (lo : Int) (k : Nat) : List D := (List.range k).map fun (i : Nat) => .int (lo + (i : Int))
@[simp] theorem rngD_len {lo : Int} {k : Nat} : (rngD lo k).length = k := by simp [rngD]
theorem rngD_get {lo : Int} {k i : Nat} {x : D} (h : (rngD lo k)[i]? = some x) : i < k ∧ x = .int (lo + (i : Int)) := by
  have hi := (List.getElem?_eq_some_iff.mp h).1
  rw [rngD_len] at hi
  rw [rngD, List.getElem?_map, List.getElem?_range hi] at h
  exact ⟨hi, (Option.some.inj h).symm⟩
def RngOk (i : Int) : Prop := -(2 ^ 62) ≤ i ∧ i < 2 ^ 62
theorem rngOk {i : Int} (h : -1000000000 ≤ i ∧ i ≤ 1000000000) : RngOk i := by unfold RngOk; omega
open Classical in
noncomputable def iR1 (fa : Env → Sto → R (List D)) : Env → Sto → R Itx := fun env S => (fa env S).bind fun ds S1 => match ds with
  | [.int j] => if RngOk j then .ok ⟨rngD 0 j.toNat, fun _ => True⟩ S1 else .bad
  | _ => .bad
open Classical in
noncomputable def iR2 (fa : Env → Sto → R (List D)) : Env → Sto → R Itx := fun env S => (fa env S).bind fun ds S1 => match ds with
  | [.int i, .int j] => if RngOk i ∧ RngOk j then .ok ⟨rngD i (j - i).toNat, fun _ => True⟩ S1 else .bad
  | _ => .bad
theorem itr_rng {lo : Int} {k : Nat} : itr K φ n H ⟨rngD lo k, fun _ => True⟩ (Itr lo k) := fun φ1 S1 H1 f r1 _ => ⟨fun i x hx => by
    obtain ⟨hi, rfl⟩ := rngD_get hx
    refine ⟨hi, fun v H2 y => ?_⟩
    obtain ⟨rfl, rfl⟩ := y
    exact ⟨Ex.refl _, VR.int _⟩, by
    show k ≤ (rngD lo k).length
    rw [rngD_len]
    exact Nat.le_refl _⟩
theorem imp_iR1 {ta : TA} {fa : Env → Sto → R (List D)} (ha : Imp K W (vrs K) ta fa) : Imp K W (itr K) (iRng1 ta) (iR1 fa) :=
  imp_bind (tb := fun (vs : List V) _ H (Q : It → Hp → Prop) => ∃ j : Int, vs = [.int j] ∧ -(2 ^ 62) ≤ j ∧ j < 2 ^ 62 ∧ Q (Itr 0 j.toNat) H) ha fun φ S H env σ x v rl e hv Q p => by
    split at p
    · rename_i j
      obtain ⟨w, rfl, hw⟩ := hv.one_inv
      cases hw
      split at p
      · rename_i hb
        exact ⟨j, rfl, hb.1, hb.2, p.here rl itr_rng⟩
      · exact p.elim
    · exact p.elim
theorem imp_iR2 {ta : TA} {fa : Env → Sto → R (List D)} (ha : Imp K W (vrs K) ta fa) : Imp K W (itr K) (iRng2 ta) (iR2 fa) :=
  imp_bind (tb := fun (vs : List V) _ H (Q : It → Hp → Prop) => ∃ i j : Int, vs = [.int i, .int j] ∧ (-(2 ^ 62) ≤ i ∧ i < 2 ^ 62 ∧ -(2 ^ 62) ≤ j ∧ j < 2 ^ 62) ∧ Q (Itr i (j - i).toNat) H) ha fun φ S H env σ x v rl e hv Q p => by
    split at p
    · rename_i i j
      obtain ⟨w, u, rfl, hw, hu⟩ := hv.two_inv
      cases hw; cases hu
      split at p
      · rename_i hb
        exact ⟨i, j, rfl, ⟨hb.1.1, hb.1.2, hb.2.1, hb.2.2⟩, p.here rl itr_rng⟩
      · exact p.elim
    · exact p.elim
/-- items with their places -/
def enumD : Nat → List D → List D
  | _, [] => []
  | k, x :: r => .tup [.int (k : Int), x] :: enumD (k + 1) r
theorem enumD_get : ∀ {xs : List D} {k i : Nat} {x : D}, (enumD k xs)[i]? = some x → ∃ y, xs[i]? = some y ∧ x = .tup [.int ((k + i : Nat) : Int), y]
  | [], _, _, _, h => by cases h
  | y :: r, k, 0, x, h => ⟨y, rfl, by cases h; rfl⟩
  | y :: r, k, i + 1, x, h => by
    obtain ⟨z, h1, h2⟩ := enumD_get (xs := r) (k := k + 1) (i := i) h
    exact ⟨z, h1, by rw [h2, show k + 1 + i = k + (i + 1) by omega]⟩
@[simp] theorem enumD_len : ∀ {xs : List D} {k : Nat}, (enumD k xs).length = xs.length
  | [], _ => rfl
  | _ :: r, k => congrArg Nat.succ (enumD_len (xs := r))
def iE (fa : Env → Sto → R (List D)) : Env → Sto → R Itx := fun env S => (fa env S).bind fun ds S1 => match ds with
  | [.ref l] => match rdL S1 l with
    | some xs => .ok ⟨enumD 0 xs, fun S => rdL S l = some xs⟩ S1
    | none => .bad
  | _ => .bad
theorem imp_iE {ta : TA} {fa : Env → Sto → R (List D)} (ha : Imp K W (vrs K) ta fa) : Imp K W (itr K) (iEnum K ta) (iE fa) :=
  imp_bind (tb := fun (vs : List V) _ H (Q : It → Hp → Prop) => ∃ a xs, vs = [.ref a] ∧ SqL K H a xs ∧ Q (Ite K a) H) ha fun φ S H env σ x v rl e hv Q p => by
    split at p
    · split at p
      · rename_i l _ xs h
        obtain ⟨z, rfl, hz⟩ := hv.one_inv
        obtain ⟨hl, rfl⟩ := hz.ref_inv
        obtain ⟨vs, q1, q2⟩ := rl.rd h
        refine ⟨_, vs, rfl, q1, p.here rl fun φ1 S1 H1 f r1 ok => ?_⟩
        obtain ⟨ws, b1, b2⟩ := r1.rd ok
        rw [f.ag l hl] at b1
        refine ⟨fun i x hx => ?_, ws, b1, by rw [b2.len, enumD_len]; exact Nat.le_refl _⟩
        obtain ⟨y, hy, rfl⟩ := enumD_get hx
        obtain ⟨w, hw, hr⟩ := b2.get hy
        refine ⟨⟨ws, w, b1, hw⟩, fun v H2 yy => ?_⟩
        obtain ⟨T, x', rfl, hT, rfl, f1⟩ := yy
        have := f1 ws b1
        rw [hw] at this
        cases this
        refine ⟨Ex.new hT, VR.tup (st_of upd_same) (.cons ?_ (.cons (VR.fut (Fut.ex (Ex.new hT)) hr) .nil))⟩
        rw [Nat.zero_add]
        exact VR.int _
      · exact p.elim
    · exact p.elim
/-- items by two -/
def zipD : List D → List D → List D
  | x :: r, y :: s => .tup [x, y] :: zipD r s
  | _, _ => []
theorem zipD_get : ∀ {xs ys : List D} {i : Nat} {z : D}, (zipD xs ys)[i]? = some z → ∃ x y, xs[i]? = some x ∧ ys[i]? = some y ∧ z = .tup [x, y]
  | x :: r, y :: s, 0, _, h => ⟨x, y, rfl, rfl, by cases h; rfl⟩
  | x :: r, y :: s, i + 1, _, h => zipD_get (xs := r) (ys := s) (i := i) h
  | [], _, _, _, h => by simp [zipD] at h
  | _ :: _, [], _, _, h => by simp [zipD] at h
theorem zipD_len : ∀ {xs ys : List D}, (zipD xs ys).length = min xs.length ys.length
  | x :: r, y :: s => by simp [zipD, zipD_len (xs := r) (ys := s)]
  | [], _ => by simp [zipD]
  | _ :: _, [] => by simp [zipD]
def iZ (fa : Env → Sto → R (List D)) : Env → Sto → R Itx := fun env S => (fa env S).bind fun ds S1 => match ds with
  | [.ref l, .ref m] => match rdL S1 l, rdL S1 m with
    | some xs, some ys => .ok ⟨zipD xs ys, fun S => rdL S l = some xs ∧ rdL S m = some ys⟩ S1
    | _, _ => .bad
  | _ => .bad
theorem imp_iZ {ta : TA} {fa : Env → Sto → R (List D)} (ha : Imp K W (vrs K) ta fa) : Imp K W (itr K) (iZip K ta) (iZ fa) :=
  imp_bind (tb := fun (vs : List V) _ H (Q : It → Hp → Prop) => ∃ a b xs ys, vs = [.ref a, .ref b] ∧ SqL K H a xs ∧ SqL K H b ys ∧ Q (Itz K a b) H) ha fun φ S H env σ x v rl e hv Q p => by
    split at p
    · split at p
      · rename_i l m _ _ xs ys h g
        obtain ⟨z1, z2, rfl, hz1, hz2⟩ := hv.two_inv
        obtain ⟨hl, rfl⟩ := hz1.ref_inv
        obtain ⟨hm, rfl⟩ := hz2.ref_inv
        obtain ⟨vs, q1, q2⟩ := rl.rd h
        obtain ⟨us, q3, q4⟩ := rl.rd g
        refine ⟨_, _, vs, us, rfl, q1, q3, p.here rl fun φ1 S1 H1 f r1 ok => ?_⟩
        obtain ⟨ws, b1, b2⟩ := r1.rd ok.1
        obtain ⟨ts, c1, c2⟩ := r1.rd ok.2
        rw [f.ag l hl] at b1
        rw [f.ag m hm] at c1
        refine ⟨fun i x hx => ?_, ws, ts, b1, c1, by rw [b2.len, c2.len, zipD_len]; omega⟩
        obtain ⟨y, z, hy, hz, rfl⟩ := zipD_get hx
        obtain ⟨w, hw, hr⟩ := b2.get hy
        obtain ⟨t, ht, hs⟩ := c2.get hz
        refine ⟨⟨ws, ts, w, t, b1, c1, hw, ht⟩, fun v H2 yy => ?_⟩
        obtain ⟨T, x', y', rfl, hT, rfl, f1, f2⟩ := yy
        have e1 := f1 ws b1
        have e2 := f2 ts c1
        rw [hw] at e1
        rw [ht] at e2
        cases e1; cases e2
        exact ⟨Ex.new hT, VR.tup (st_of upd_same) (.cons (VR.fut (Fut.ex (Ex.new hT)) hr) (.cons (VR.fut (Fut.ex (Ex.new hT)) hs) .nil))⟩
      · exact p.elim
    · exact p.elim
/-! ### for -/
open Classical in
noncomputable def loopX (ok : Sto → Prop) (fg : XG) (fb : Env → Sto → RS) : List D → Env → Sto → RS
  | [], env, S => if ok S then .nx env S else .bad
  | x :: r, env, S => if ok S then (match fg x env S with
      | .ok e1 S1 => match fb e1 S1 with
        | .nx e S' => loopX ok fg fb r e S'
        | .ct e S' => loopX ok fg fb r e S'
        | q => q
      | _ => .bad) else .bad
def finX : RS → RS
  | .bk e S => .nx e S
  | .ct _ _ => .bad
  | r => r
noncomputable def xFor (fi : Env → Sto → R Itx) (fg : XG) (fb : Env → Sto → RS) : Env → Sto → RS := fun env S => (fi env S).bindS env fun it S1 => finX (loopX it.ok fg fb it.items env S1)
noncomputable def xForE (fi : Env → Sto → R Itx) (fg : XG) (fb fe : Env → Sto → RS) : Env → Sto → RS := fun env S => (fi env S).bindS env fun it S1 => match loopX it.ok fg fb it.items env S1 with
  | .nx e S2 => fe e S2
  | r => finX r
theorem PostS.body {r : RS} {D : Ends} {N : L2.St → Hp → Prop} {g : RS → RS} (p : PostS K W φ n H (g r) D)
    (h1 : ∀ e S1, r = .nx e S1 ∨ r = .ct e S1 → ∀ φ' H' σ', Fut K φ n H φ' S1.length H' → Rel K φ' S1 H' → ER K φ' S1.length H' e σ' → N σ' H')
    (h2 : ∀ e S1, r = .bk e S1 → g r = .nx e S1) (h3 : ∀ d S1, r = .ret d S1 → g r = r) (h4 : ∀ c fs e S1, r = .exc c fs e S1 → g r = r) (h5 : r = .bad → g r = .bad) : PostS K W φ n H r { D with nx := N, ct := N, bk := D.nx } := by
  cases r with
  | nx e S1 => exact h1 e S1 (.inl rfl)
  | ct e S1 => exact h1 e S1 (.inr rfl)
  | bk e S1 => rw [h2 e S1 rfl] at p; exact p
  | ret d S1 => rw [h3 d S1 rfl] at p; exact p
  | exc c fs e S1 => rw [h4 c fs e S1 rfl] at p; exact p
  | bad => rw [h5 rfl] at p; exact p
/-- the turns of a for -/
theorem for_core {J : It} {it : Itx} {g : TG} {fg : XG} {ts : List Nat} {tb : TS} {fb : Env → Sto → RS} {u : TS} {D : Ends} {fin : RS → RS} (hg : ImpG K ts g fg) (hb : ImpS K W tb fb) (hJ : itr K φ n H it J) {env : Env} {σ : L2.St} (r : Rel K φ S H) (e : EW K W φ S.length H env σ) (hn : n = S.length)
    (p : PostS K W φ S.length H (fin (loopX it.ok fg fb it.items env S)) D)
    (fnx : ∀ φ' S' H' env' σ', Rel K φ' S' H' → EW K W φ' S'.length H' env' σ' → PostS K W φ' S'.length H' (fin (.nx env' S')) D → u D σ' H')
    (fbk : ∀ e S, fin (.bk e S) = .nx e S) (fret : ∀ d S, fin (.ret d S) = .ret d S) (fexc : ∀ c fs e S, fin (.exc c fs e S) = .exc c fs e S) (fbad : fin .bad = .bad) :
    ∃ Wv : Nat → Nat → L2.St → Hp → Prop, (∃ m, Wv 0 m σ H) ∧ ∀ i m σ H, Wv i m σ H →
      (J.stop i H ∧ u D σ H) ∨ (J.go i H ∧ ∃ N : L2.St → Hp → Prop, (∀ σ' H', N σ' H' → ∃ m', m' < m ∧ Wv (i + 1) m' σ' H') ∧ ∀ x H', J.yld i H x H' → g x σ H' fun σ2 H2 => tb { D with nx := N, ct := N, bk := D.nx } σ2 H2) := by
  subst hn
  refine ⟨fun i m σ' H' => m = it.items.length - i ∧ i ≤ it.items.length ∧ ∃ φ' S' env', Fut K φ S.length H φ' S'.length H' ∧ Rel K φ' S' H' ∧ EW K W φ' S'.length H' env' σ' ∧ PostS K W φ' S'.length H' (fin (loopX it.ok fg fb (it.items.drop i) env' S')) D,
    ⟨it.items.length, rfl, Nat.zero_le _, φ, S, env, Fut.refl, r, e, p⟩, ?_⟩
  rintro i m σ' H' ⟨rfl, hi, φ', S', env', f', r', e', p'⟩
  by_cases hlt : i < it.items.length
  · rw [List.drop_eq_getElem_cons hlt, loopX] at p'
    split at p'
    · rename_i hok
      obtain ⟨a1, _⟩ := hJ φ' S' H' f' r' hok
      obtain ⟨b1, b2⟩ := a1 i _ (List.getElem?_eq_getElem hlt)
      refine .inr ⟨b1, fun σ2 H2 => ∃ φ2 S2 env2, Fut K φ S.length H φ2 S2.length H2 ∧ Rel K φ2 S2 H2 ∧ EW K W φ2 S2.length H2 env2 σ2 ∧ PostS K W φ2 S2.length H2 (fin (loopX it.ok fg fb (it.items.drop (i + 1)) env2 S2)) D,
        fun σ2 H2 q => ⟨it.items.length - (i + 1), by omega, rfl, hlt, q⟩, fun v H2 y => ?_⟩
      obtain ⟨ex, hv⟩ := b2 v H2 y
      have fx : Fut K φ' S'.length H' φ' S'.length H2 := Fut.ex ex
      refine hg φ' S' H2 env' σ' _ v (r'.ex ex) (e'.fut fx).e hv _ ?_
      cases hgx : fg it.items[i] env' S' with
      | ok e1 S1 =>
        simp only [hgx] at p'
        intro φ2 H3 σ2 f2 r2 e2 _
        refine hb φ2 S1 H3 e1 σ2 r2 ⟨e2, W.mono (fx.trans f2) e'.c⟩ _ ?_
        have p2 := p'.fut (fx.trans f2)
        refine PostS.body (g := fun q => fin (match q with
          | .nx e S' => loopX it.ok fg fb (it.items.drop (i + 1)) e S'
          | .ct e S' => loopX it.ok fg fb (it.items.drop (i + 1)) e S'
          | q => q)) p2 ?_ ?_ ?_ ?_ ?_
        · intro e3 S3 hr φ3 H4 σ3 f3 r3 e3'
          refine ⟨φ3, S3, e3, ((f'.trans fx).trans f2).trans f3, r3, ⟨e3', W.mono ((fx.trans f2).trans f3) e'.c⟩, ?_⟩
          rcases hr with hr | hr <;> (rw [hr] at p2; exact p2.fut f3)
        · intro e3 S3 hr
          simp only [hr, fbk]
        · intro d S3 hr
          simp only [hr, fret]
        · intro c fs e3 S3 hr
          simp only [hr, fexc]
        · intro hr
          simp only [hr, fbad]
      | exc c fs S1 => simp only [hgx, fbad] at p'; exact p'.elim
      | bad => simp only [hgx, fbad] at p'; exact p'.elim
    · rw [fbad] at p'
      exact p'.elim
  · have hd : it.items.drop i = [] := List.drop_eq_nil_of_le (by omega)
    rw [hd, loopX] at p'
    split at p'
    · rename_i hok
      obtain ⟨_, a2⟩ := hJ φ' S' H' f' r' hok
      have : i = it.items.length := by omega
      subst this
      exact .inl ⟨a2, fnx φ' S' H' env' σ' r' e' p'⟩
    · rw [fbad] at p'
      exact p'.elim
theorem imp_for {wi : TI} {fi : Env → Sto → R Itx} {g : TG} {fg : XG} {ts : List Nat} {tb : TS} {fb : Env → Sto → RS} (hi : Imp K W (itr K) wi fi) (hg : ImpG K ts g fg) (hb : ImpS K W tb fb) : ImpS K W (tFor wi g tb) (xFor fi fg fb) := by
  intro φ S H env σ r e D p
  refine hi.goS r e p fun φ1 S1 H1 it J f1 r1 e1 hJ p1 => ?_
  exact for_core (u := tNext) (fin := finX) hg hb hJ r1 e1 rfl p1 (fun φ' S' H' env' σ' r' e' q => q φ' H' σ' Fut.refl r' e'.e) (fun _ _ => rfl) (fun _ _ => rfl) (fun _ _ _ _ => rfl) rfl
theorem imp_forE {wi : TI} {fi : Env → Sto → R Itx} {g : TG} {fg : XG} {ts : List Nat} {tb u : TS} {fb fu : Env → Sto → RS} (hi : Imp K W (itr K) wi fi) (hg : ImpG K ts g fg) (hb : ImpS K W tb fb) (hu : ImpS K W u fu) : ImpS K W (tForE wi g tb u) (xForE fi fg fb fu) := by
  intro φ S H env σ r e D p
  refine hi.goS r e p fun φ1 S1 H1 it J f1 r1 e1 hJ p1 => ?_
  exact for_core (u := u) (fin := fun r => match r with
    | .nx e S2 => fu e S2
    | r => finX r) hg hb hJ r1 e1 rfl p1 (fun φ' S' H' env' σ' r' e' q => hu φ' S' H' env' σ' r' e' D q) (fun _ _ => rfl) (fun _ _ => rfl) (fun _ _ _ _ => rfl) rfl
end
end Mi

namespace Mi
open PySem PySem.Spec PyProof.Rows L2 Evl My
section
variable {K : PySem.W.Frag} {φ φ1 φ' : Nat → Addr} {n n1 n' : Nat} {H H1 H' : Hp} {X : XK} {W W1 W2 : Wc K} {S : Sto} {α β γ δ : Type} {ρ : Rl α β}
/-! ### while -/
def whileX (ft : Env → Sto → R Bool) (fb : Env → Sto → RS) : Nat → Env → Sto → RS
  | 0, _, _ => .bad
  | k + 1, env, S => (ft env S).bindS env fun b S1 => if b = true then (match fb env S1 with
      | .nx e S2 => whileX ft fb k e S2
      | .ct e S2 => whileX ft fb k e S2
      | r => r) else .nx env S1
open Classical in
noncomputable def xWhile (ft : Env → Sto → R Bool) (fb : Env → Sto → RS) : Env → Sto → RS := fun env S => if h : ∃ k, whileX ft fb k env S ≠ .bad then finX (whileX ft fb h.choose env S) else .bad
theorem whileX_more {ft : Env → Sto → R Bool} {fb : Env → Sto → RS} : ∀ {k : Nat} {env : Env} {S : Sto}, whileX ft fb k env S ≠ .bad → whileX ft fb (k + 1) env S = whileX ft fb k env S
  | 0, _, _, h => absurd rfl h
  | k + 1, env, S, h => by
    rw [whileX]
    conv => rhs; rw [whileX]
    rw [whileX] at h
    cases ht : ft env S with
    | ok b S1 =>
      rw [ht] at h
      simp only [R.bindS_ok] at h ⊢
      cases b with
      | false => rfl
      | true =>
        simp only [if_true] at h ⊢
        cases hb : fb env S1 with
        | nx e S2 =>
          simp only [hb] at h ⊢
          exact whileX_more h
        | ct e S2 =>
          simp only [hb] at h ⊢
          exact whileX_more h
        | _ => rfl
    | _ => rfl
theorem whileX_le {ft : Env → Sto → R Bool} {fb : Env → Sto → RS} {k j : Nat} {env : Env} {S : Sto} (h : whileX ft fb k env S ≠ .bad) (l : k ≤ j) : whileX ft fb j env S = whileX ft fb k env S := by
  induction l with
  | refl => rfl
  | step _ ih => rw [whileX_more (by rw [ih]; exact h), ih]
theorem xWhile_eq {ft : Env → Sto → R Bool} {fb : Env → Sto → RS} {k : Nat} {env : Env} {S : Sto} {r : RS} (h : whileX ft fb k env S = r) (hr : r ≠ .bad) : xWhile ft fb env S = finX r := by
  have hk : whileX ft fb k env S ≠ .bad := by rw [h]; exact hr
  have he : ∃ k, whileX ft fb k env S ≠ .bad := ⟨k, hk⟩
  unfold xWhile
  rw [dif_pos he]
  have hc := he.choose_spec
  rcases Nat.le_total k he.choose with l | l
  · rw [whileX_le hk l, h]
  · rw [← whileX_le hc l, h]
theorem imp_while {tt : TT} {tb : TS} {ft : Env → Sto → R Bool} {fb : Env → Sto → RS} (ht : Imp K W same tt ft) (hb : ImpS K W tb fb) : ImpS K W (tWhile tt tb) (xWhile ft fb) := by
  intro φ S H env σ r e D p
  unfold xWhile at p
  split at p
  · rename_i he
    refine ⟨fun m σ' H' => ∃ φ' S' env', Rel K φ' S' H' ∧ EW K W φ' S'.length H' env' σ' ∧ PostS K W φ' S'.length H' (finX (whileX ft fb m env' S')) D, ⟨_, φ, S, env, r, e, p⟩, ?_⟩
    rintro m σ' H' ⟨φ', S', env', r', e', p'⟩
    cases m with
    | zero => exact p'.elim
    | succ m =>
      rw [whileX] at p'
      refine ht φ' S' H' env' σ' r' e' _ ?_
      cases hf : ft env' S' with
      | ok b S1 =>
        rw [hf] at p'
        simp only [R.bindS_ok] at p'
        intro φ2 H2 v f2 r2 hv
        obtain rfl : b = v := hv
        have p2 := p'.fut f2
        cases b with
        | false => exact p2 φ2 H2 σ' Fut.refl r2 (e'.fut f2).e
        | true =>
          refine ⟨fun σ3 H3 => ∃ φ' S' env', Rel K φ' S' H3 ∧ EW K W φ' S'.length H3 env' σ3 ∧ PostS K W φ' S'.length H3 (finX (whileX ft fb m env' S')) D, fun σ3 H3 q => ⟨m, Nat.lt_succ_self _, q⟩, hb φ2 S1 H2 env' σ' r2 (e'.fut f2) _ ?_⟩
          simp only [if_true] at p2
          refine PostS.body (g := fun q => finX (match q with
            | .nx e S2 => whileX ft fb m e S2
            | .ct e S2 => whileX ft fb m e S2
            | r => r)) p2 ?_ ?_ ?_ ?_ ?_
          · intro e3 S3 hr φ3 H4 σ3 f3 r3 e3'
            refine ⟨φ3, S3, e3, r3, ⟨e3', W.mono (f2.trans f3) e'.c⟩, ?_⟩
            rcases hr with hr | hr <;> (rw [hr] at p2; exact p2.fut f3)
          · intro e3 S3 hr
            simp only [hr]
            rfl
          · intro d S3 hr
            simp only [hr]
            rfl
          · intro c fs e3 S3 hr
            simp only [hr]
            rfl
          · intro hr
            simp only [hr]
            rfl
      | exc c fs S1 =>
        rw [hf] at p'
        exact fun φ2 H2 dd fv f2 r2 hd hk => p' φ2 H2 σ' dd fv f2 r2 (e'.fut f2).e hd hk
      | bad => rw [hf] at p'; exact p'
  · exact p.elim
/-! ### comprehensions -/
def nox {α : Type} (r : R α) : R α := match r with
  | .ok d S => .ok d S
  | _ => .bad
@[simp] theorem nox_ok {α : Type} {d : α} {S : Sto} : nox (.ok d S) = .ok d S := rfl
@[simp] theorem nox_bad {α : Type} : nox (R.bad : R α) = .bad := rfl
theorem nox_inv {ρ : Rl α β} {r : R α} {Q : β → Hp → Prop} (p : Post K ρ φ n H X (nox r) Q) : ∃ d S1, r = .ok d S1 ∧ Post K ρ φ n H X (.ok d S1) Q := by
  cases r with
  | ok d S1 => exact ⟨d, S1, rfl, p⟩
  | exc c fs S1 => exact p.elim
  | bad => exact p.elim
open Classical in
/-- the turns of a comprehension: the new list lies at l -/
noncomputable def compX (ok : Sto → Prop) (fg : XG) (ft : Env → Sto → R Bool) (fe : Env → Sto → R D) (env0 : Env) (l : Nat) : List D → Sto → R D
  | [], S => if ok S then .ok (.ref l) S else .bad
  | x :: r, S => if ok S then (match fg x env0 S with
      | .ok e1 S1 => match ft e1 S1 with
        | .ok true S2 => match fe e1 S2 with
          | .ok y S3 => match at_ S3 l with
            | some (.lst acc) => if acc.length < 100000 then compX ok fg ft fe env0 l r (S3.set l (.lst (acc ++ [y]))) else .bad
            | _ => .bad
          | _ => .bad
        | .ok false S2 => compX ok fg ft fe env0 l r S2
        | _ => .bad
      | _ => .bad) else .bad
noncomputable def xLc (fi : Env → Sto → R Itx) (fg : XG) (ft : Env → Sto → R Bool) (fe : Env → Sto → R D) (vs : List Nat) : Env → Sto → R D := fun env S => (fi env S).bind fun it S1 => compX it.ok fg ft fe (wipeE env vs) S1.length it.items (S1 ++ [.lst []])
theorem wipe_get {σ : L2.St} {i : Nat} : ∀ {vs : List Nat}, i ∈ vs → i < σ.length → (wipe σ vs)[i]? = some none
  | [], h, _ => by cases h
  | v :: vs, h, hl => by
    unfold wipe
    by_cases hv : v = i
    · subst hv
      rw [List.getElem?_set_self (by rw [wipe_length]; exact hl)]
    · rw [List.getElem?_set_ne hv]
      rcases List.mem_cons.mp h with h | h
      · exact absurd h.symm hv
      · exact wipe_get h hl
theorem wipe_sets {σ σ2 : L2.St} {ts vs : List Nat} (h : Sets ts (wipe σ vs) σ2) (hs : ∀ i ∈ ts, i ∈ vs) : wipe σ2 vs = wipe σ vs := by
  obtain ⟨hl, hg⟩ := h
  rw [wipe_length] at hl
  refine List.ext_getElem? fun i => ?_
  by_cases hi : i ∈ vs
  · by_cases hlt : i < σ.length
    · rw [wipe_get hi (by omega), wipe_get hi hlt]
    · rw [List.getElem?_eq_none (by rw [wipe_length]; omega), List.getElem?_eq_none (by rw [wipe_length]; omega)]
  · rw [wipe_out hi]
    exact hg i fun z => hi (hs i z)
theorem imp_lc {wi : TI} {fi : Env → Sto → R Itx} {g : TG} {fg : XG} {ts : List Nat} {tt : TT} {ft : Env → Sto → R Bool} {te : TE} {fe : Env → Sto → R D} {vs : List Nat} (hi : Imp K W (itr K) wi fi) (hg : ImpG K ts g fg) (ht : Imp K (W0 K) same tt ft) (he : Imp K (W0 K) (vr K) te fe) (hs : ∀ i ∈ ts, i ∈ vs) :
    Imp K W (vr K) (tLc wi g tt te vs) (xLc fi fg ft fe vs) :=
  imp_bind (tb := fun (J : It) σ H1 (Q : VK) => ∀ D, H1 D = none → ∃ W : Nat → Nat → Hp → Prop, (∃ m, W 0 m (upd H1 D (.lst []))) ∧ ∀ i m H, W i m H →
  (J.stop i H ∧ Q (.ref D) H) ∨ (J.go i H ∧ ∃ Nx : Hp → Prop, (∀ H', Nx H' → ∃ m', m' < m ∧ W (i + 1) m' H') ∧ ∀ x H', J.yld i H x H' → g x (wipe σ vs) H' fun σ2 H2 => wipe σ2 vs = wipe σ vs ∧ tt σ2 H2 fun b H3 =>
    if b = true then te σ2 H3 fun y H4 => ∃ acc, H4 D = some (.lst acc) ∧ acc.length < sizeLine ∧ Nx (upd H4 D (.lst (acc ++ [y]))) else Nx H3)) hi fun φ S H env σ it J rl e hJ Q p Dl hD => by
    have hn : OR K (nxt φ S.length Dl) (S.length + 1) (upd H Dl (.lst [])) Dl (.lst []) := ⟨[], upd_same, .nil⟩
    have f0 : Fut K φ S.length H (nxt φ S.length Dl) (S ++ [O.lst []]).length (upd H Dl (.lst [])) := by
      rw [List.length_append]
      exact Fut.new hD
    have r0 := rl.new hD hn
    have e0 := ((e.wipe vs)).fut f0
    have p0 := p.fut f0
    refine ⟨fun i m H' => m = it.items.length - i ∧ i ≤ it.items.length ∧ ∃ φ' S', Fut K (nxt φ S.length Dl) (S ++ [O.lst []]).length (upd H Dl (.lst [])) φ' S'.length H' ∧ Rel K φ' S' H' ∧ Post K (vr K) φ' S'.length H' (fun c d h => W c d σ h) (compX it.ok fg ft fe (wipeE env vs) S.length (it.items.drop i) S') Q,
      ⟨it.items.length, rfl, Nat.zero_le _, _, _, Fut.refl, r0, p0⟩, ?_⟩
    rintro i m H' ⟨rfl, hle, φ', S', f', r', p'⟩
    have hφ : φ' S.length = Dl := by
      rw [f'.ag _ (by simp)]
      exact nxt_at
    by_cases hlt : i < it.items.length
    · rw [List.drop_eq_getElem_cons hlt, compX] at p'
      split at p'
      · rename_i hok
        obtain ⟨a1, _⟩ := hJ φ' S' H' (f0.trans f') r' hok
        obtain ⟨b1, b2⟩ := a1 i _ (List.getElem?_eq_getElem hlt)
        refine .inr ⟨b1, fun H2 => ∃ φ2 S2, Fut K (nxt φ S.length Dl) (S ++ [O.lst []]).length (upd H Dl (.lst [])) φ2 S2.length H2 ∧ Rel K φ2 S2 H2 ∧ Post K (vr K) φ2 S2.length H2 (fun c d h => W c d σ h) (compX it.ok fg ft fe (wipeE env vs) S.length (it.items.drop (i + 1)) S2) Q,
          fun H2 q => ⟨it.items.length - (i + 1), by omega, rfl, hlt, q⟩, fun v H2 y => ?_⟩
        obtain ⟨ex, hv⟩ := b2 v H2 y
        have fx : Fut K φ' S'.length H' φ' S'.length H2 := Fut.ex ex
        refine hg φ' S' H2 (wipeE env vs) (wipe σ vs) _ v (r'.ex ex) (e0.fut (f'.trans fx)).e hv _ ?_
        cases hgx : fg it.items[i] (wipeE env vs) S' with
        | ok e1 S1 =>
          simp only [hgx] at p'
          intro φ2 H3 σ2 f2 r2 e2 s2
          refine ⟨wipe_sets s2 hs, ht φ2 S1 H3 e1 σ2 r2 ⟨e2, trivial⟩ _ ?_⟩
          cases htx : ft e1 S1 with
          | ok b S2 =>
            simp only [htx] at p'
            intro φ3 H4 b' f3 r3 hb
            obtain rfl : b = b' := hb
            have f4 := ((f'.trans fx).trans f2).trans f3
            cases b with
            | false => exact ⟨φ3, S2, f4, r3, p'.fut ((fx.trans f2).trans f3)⟩
            | true =>
              refine he φ3 S2 H4 e1 σ2 r3 ⟨e2.fut f3, trivial⟩ _ ?_
              simp only at p'
              cases hex : fe e1 S2 with
              | ok y S3 =>
                simp only [hex] at p'
                intro φ4 H5 v f5 r5 hv5
                have f6 := f4.trans f5
                split at p'
                · rename_i acc hacc
                  split at p'
                  · rename_i hal
                    obtain ⟨us, u1, u2⟩ := r5.ob _ _ hacc
                    have hφ4 : φ4 S.length = Dl := by
                      rw [f6.ag _ (by simp)]
                      exact nxt_at
                    have fw : Fut K φ4 S3.length H5 φ4 S3.length (upd H5 (φ4 S.length) (.lst (us ++ [v]))) := Fut.upd u1 trivial
                    obtain ⟨q1, q2⟩ := r5.put (o' := .lst (acc ++ [y])) (u := .lst (us ++ [v])) hacc rfl rfl ⟨_, upd_same, (u2.app (.one hv5)).fut fw⟩
                    rw [hφ4] at u1 q1 q2
                    exact ⟨us, u1, sz_lt (by rw [u2.len]; exact hal), φ4, _, f6.trans q2, q1, p'.fut ((((fx.trans f2).trans f3).trans f5).trans q2)⟩
                  · exact p'.elim
                · exact p'.elim
              | exc c fs S3 => simp only [hex] at p'; exact p'.elim
              | bad => simp only [hex] at p'; exact p'.elim
          | exc c fs S2 => simp only [htx] at p'; exact p'.elim
          | bad => simp only [htx] at p'; exact p'.elim
        | exc c fs S1 => simp only [hgx] at p'; exact p'.elim
        | bad => simp only [hgx] at p'; exact p'.elim
      · exact p'.elim
    · have hd : it.items.drop i = [] := List.drop_eq_nil_of_le (by omega)
      rw [hd, compX] at p'
      split at p'
      · rename_i hok
        obtain ⟨_, a2⟩ := hJ φ' S' H' (f0.trans f') r' hok
        have : i = it.items.length := by omega
        subst this
        refine .inl ⟨a2, ?_⟩
        have q := p' φ' H' (.ref (φ' S.length)) Fut.refl r' (VR.ref (Nat.lt_of_lt_of_le (by simp) f'.le))
        rw [hφ] at q
        exact q
      · exact p'.elim
/-! ### list methods -/
def MtI (K : PySem.W.Frag) (r : V → List V → Hp → VK → Prop) (o : D → List D → Sto → R D) : Prop := ∀ φ S H x v ds vs X, Rel K φ S H → VR K φ S.length H x v → VRs K φ S.length H ds vs → ∀ Q, Post K (vr K) φ S.length H X (o x ds S) Q → r v vs H Q
def isLst (S : Sto) : D → Bool
  | .ref l => (rdL S l).isSome
  | _ => false
def xBM (o : D → List D → Sto → R D) (fo : Env → Sto → R D) (fa : Env → Sto → R (List D)) : Env → Sto → R D := fun env S => (fo env S).bind fun x S1 => if isLst S1 x = true then (fa env S1).bind fun ds S2 => o x ds S2 else .bad
theorem isLst_ty {x : D} {v : V} (r : Rel K φ S H) (h : isLst S x = true) (hv : VR K φ S.length H x v) : tyV K "list" v H := by
  cases x with
  | ref l =>
    obtain ⟨xs, hx⟩ := Option.isSome_iff_exists.mp h
    obtain ⟨_, rfl⟩ := hv.ref_inv
    obtain ⟨vs, q, _⟩ := r.rd hx
    exact .inl ⟨rfl, vs, q⟩
  | _ => cases h
theorem imp_bm {r : V → List V → Hp → VK → Prop} {o : D → List D → Sto → R D} {to : TE} {ta : TA} {fo : Env → Sto → R D} {fa : Env → Sto → R (List D)} (hr : MtI K r o) (ho : Imp K W (vr K) to fo) (ha : Imp K W (vrs K) ta fa) : Imp K W (vr K) (tBM K "list" r to ta) (xBM o fo fa) :=
  imp_bind (tb := fun (v : V) σ H (Q : VK) => tyV K "list" v H ∧ ta σ H fun xs H2 => r v xs H2 Q) ho fun φ S H env σ x v rl e hv Q p => by
    split at p
    · rename_i hl
      exact ⟨isLst_ty rl hl hv, ha.go rl e p fun φ1 S1 H1 ds vs f r1 _ hvs p1 => hr φ1 S1 H1 x v ds vs _ r1 (VR.fut f hv) hvs Q p1⟩
    · exact p.elim
theorem imp_bm0 {r : V → List V → Hp → VK → Prop} {o : D → List D → Sto → R D} {to : TE} {fo : Env → Sto → R D} (hr : MtI K r o) (ho : Imp K W (vr K) to fo) : Imp K W (vr K) (tBM0 K "list" r to) (xBM o fo xNil) :=
  imp_bind (tb := fun (v : V) σ H (Q : VK) => tyV K "list" v H ∧ r v [] H Q) ho fun φ S H env σ x v rl e hv Q p => by
    split at p
    · rename_i hl
      exact ⟨isLst_ty rl hl hv, hr φ S H x v [] [] _ rl hv .nil Q p⟩
    · exact p.elim
/-- a method that changes its list -/
def mL (g : List D → List D → Option (D × List D)) : D → List D → Sto → R D := fun x ds S => match x with
  | .ref l => match at_ S l with
    | some (.lst xs) => match g xs ds with
      | some (d, ys) => .ok d (S.set l (.lst ys))
      | none => .bad
    | _ => .bad
  | _ => .bad
theorem mL_eq {g : List D → List D → Option (D × List D)} {l : Nat} {xs ys ds : List D} {d : D} (h : at_ S l = some (.lst xs)) (e : g xs ds = some (d, ys)) : mL g (.ref l) ds S = .ok d (S.set l (.lst ys)) := by simp [mL, h, e]
theorem mL_inv {g : List D → List D → Option (D × List D)} {x : D} {v : V} {ds : List D} {Q : VK} (r : Rel K φ S H) (hv : VR K φ S.length H x v) (p : Post K (vr K) φ S.length H X (mL g x ds S) Q) :
    ∃ l xs ws d ys, v = .ref (φ l) ∧ at_ S l = some (.lst xs) ∧ H (φ l) = some (.lst ws) ∧ VRs K φ S.length H xs ws ∧ g xs ds = some (d, ys) ∧ ∀ w us, VR K φ S.length H d w → VRs K φ S.length H ys us → Q w (upd H (φ l) (.lst us)) := by
  unfold mL at p
  split at p
  · split at p
    · rename_i l _ xs hl
      split at p
      · rename_i d ys hg
        obtain ⟨_, rfl⟩ := hv.ref_inv
        obtain ⟨ws, q1, q2⟩ := r.ob _ _ hl
        refine ⟨l, xs, ws, d, ys, rfl, hl, q1, q2, hg, fun w us hw hu => ?_⟩
        have fw : Fut K φ S.length H φ S.length (upd H (φ l) (.lst us)) := Fut.upd q1 trivial
        exact p.put r hl rfl rfl ⟨us, upd_same, hu.fut fw⟩ (VR.fut fw hw)
      · exact p.elim
    · exact p.elim
  · exact p.elim
def gAppend : List D → List D → Option (D × List D) := fun xs ds => match ds with
  | [y] => if xs.length < 100000 then some (.non, xs ++ [y]) else none
  | _ => none
theorem gAppend_eq {xs : List D} {y : D} (h : xs.length < 100000) : gAppend xs [y] = some (.non, xs ++ [y]) := by simp [gAppend, h]
theorem mti_append : MtI K rAppend (mL gAppend) := by
  intro φ S H x v ds vs X r hx hd Q p
  obtain ⟨l, xs, ws, d, ys, rfl, hl, q1, q2, hg, q⟩ := mL_inv r hx p
  unfold gAppend at hg
  split at hg
  · split at hg
    · rename_i hz
      cases hg
      obtain ⟨u, rfl, hu⟩ := hd.one_inv
      exact ⟨_, ws, u, rfl, rfl, q1, sz_lt (by rw [q2.len]; exact hz), q _ _ VR.non (q2.app (.one hu))⟩
    · cases hg
  · cases hg
def gClear : List D → List D → Option (D × List D) := fun _ ds => match ds with
  | [] => some (.non, [])
  | _ => none
@[simp] theorem gClear_eq {xs : List D} : gClear xs [] = some (.non, []) := rfl
theorem mti_clear : MtI K rClear (mL gClear) := by
  intro φ S H x v ds vs X r hx hd Q p
  obtain ⟨l, xs, ws, d, ys, rfl, hl, q1, q2, hg, q⟩ := mL_inv r hx p
  unfold gClear at hg
  split at hg
  · cases hg
    cases hd
    exact ⟨_, ws, rfl, rfl, q1, q _ _ VR.non .nil⟩
  · cases hg
def gReverse : List D → List D → Option (D × List D) := fun xs ds => match ds with
  | [] => some (.non, xs.reverse)
  | _ => none
@[simp] theorem gReverse_eq {xs : List D} : gReverse xs [] = some (.non, xs.reverse) := rfl
theorem mti_reverse : MtI K rReverse (mL gReverse) := by
  intro φ S H x v ds vs X r hx hd Q p
  obtain ⟨l, xs, ws, d, ys, rfl, hl, q1, q2, hg, q⟩ := mL_inv r hx p
  unfold gReverse at hg
  split at hg
  · cases hg
    cases hd
    exact ⟨_, ws, rfl, rfl, q1, q _ _ VR.non q2.reverse⟩
  · cases hg
def gPop : List D → List D → Option (D × List D) := fun xs ds => match ds with
  | [] => (xs[xs.length - 1]?).map fun y => (y, xs.dropLast)
  | _ => none
theorem gPop_eq {xs : List D} {y : D} (h : xs[xs.length - 1]? = some y) : gPop xs [] = some (y, xs.dropLast) := by simp [gPop, h]
theorem mti_pop : MtI K rPop (mL gPop) := by
  intro φ S H x v ds vs X r hx hd Q p
  obtain ⟨l, xs, ws, d, ys, rfl, hl, q1, q2, hg, q⟩ := mL_inv r hx p
  unfold gPop at hg
  split at hg
  · obtain ⟨y, h1, h2⟩ := Option.map_eq_some_iff.mp hg
    cases h2
    cases hd
    obtain ⟨u, g1, g2⟩ := q2.get h1
    exact ⟨_, ws, u, rfl, rfl, q1, by rw [q2.len]; exact g1, q _ _ g2 q2.dropLast⟩
  · cases hg
def PopOk (i : Int) : Prop := -(2 ^ 63) ≤ i ∧ i < 2 ^ 63
open Classical in
noncomputable def gPopAt : List D → List D → Option (D × List D) := fun xs ds => match ds with
  | [.int i] => if PopOk i then (seqIndex? i xs.length).bind fun k => (xs[k]?).map fun y => (y, xs.eraseIdx k) else none
  | _ => none
open Classical in
theorem gPopAt_eq {xs : List D} {i : Int} {k : Nat} {y : D} (h1 : PopOk i) (h2 : seqIndex? i xs.length = some k) (h3 : xs[k]? = some y) : gPopAt xs [.int i] = some (y, xs.eraseIdx k) := by
  show (if _ then _ else _) = _
  rw [if_pos h1, h2]
  simp [h3]
open Classical in
theorem mti_popAt : MtI K rPopAt (mL gPopAt) := by
  intro φ S H x v ds vs X r hx hd Q p
  obtain ⟨l, xs, ws, d, ys, rfl, hl, q1, q2, hg, q⟩ := mL_inv r hx p
  unfold gPopAt at hg
  split at hg
  · split at hg
    · rename_i hb
      obtain ⟨k, h1, h2⟩ := Option.bind_eq_some_iff.mp hg
      obtain ⟨y, h3, h4⟩ := Option.map_eq_some_iff.mp h2
      cases h4
      obtain ⟨w, rfl, hw⟩ := hd.one_inv
      cases hw
      obtain ⟨u, g1, g2⟩ := q2.get h3
      exact ⟨_, ws, _, k, u, rfl, rfl, q1, hb.1, hb.2, by rw [q2.len]; exact h1, g1, q _ _ g2 (q2.eraseIdx k)⟩
    · cases hg
  · cases hg
/-- extend by another list -/
def mExtend : D → List D → Sto → R D := fun x ds S => match x, ds with
  | .ref l, [.ref b] => match at_ S l, at_ S b with
    | some (.lst xs), some (.lst zs) => if xs.length + zs.length ≤ 100000 then .ok .non (S.set l (.lst (xs ++ zs))) else .bad
    | _, _ => .bad
  | _, _ => .bad
theorem mExtend_eq {l b : Nat} {xs zs : List D} (h : at_ S l = some (.lst xs)) (g : at_ S b = some (.lst zs)) (hl : xs.length + zs.length ≤ 100000) : mExtend (.ref l) [.ref b] S = .ok .non (S.set l (.lst (xs ++ zs))) := by simp [mExtend, h, g, hl]
theorem mti_extend : MtI K rExtend mExtend := by
  intro φ S H x v ds vs X r hx hd Q p
  unfold mExtend at p
  split at p
  · split at p
    · rename_i l b _ _ xs zs h1 h2
      split at p
      · rename_i hz
        obtain ⟨_, rfl⟩ := hx.ref_inv
        obtain ⟨w, rfl, hw⟩ := hd.one_inv
        obtain ⟨_, rfl⟩ := hw.ref_inv
        obtain ⟨ws, a1, a2⟩ := r.ob _ _ h1
        obtain ⟨us, b1, b2⟩ := r.ob _ _ h2
        have fw : Fut K φ S.length H φ S.length (upd H (φ l) (.lst (ws ++ us))) := Fut.upd a1 trivial
        exact ⟨_, _, ws, us, rfl, rfl, a1, b1, sz_of (by rw [a2.len, b2.len]; exact hz), p.put r h1 rfl rfl ⟨_, upd_same, (a2.app b2).fut fw⟩ VR.non⟩
      · exact p.elim
    · exact p.elim
  · exact p.elim
/-! ### calls of defs -/
/-- a def that does what f says -/
def spF (K : PySem.W.Frag) (f : List D → Sto → R D) : Sp := fun vs H Q E => ∃ φ S ds, Rel K φ S H ∧ VRs K φ S.length H ds vs ∧ Post K (vr K) φ S.length H E (f ds S) Q
theorem Post.anyX {X' : XK} {ρ : Rl α β} {d : α} {S1 : Sto} {Q : β → Hp → Prop} (p : Post K ρ φ n H X (.ok d S1) Q) : Post K ρ φ n H X' (.ok d S1) Q := p
def xCall (f : List D → Sto → R D) (fa : Env → Sto → R (List D)) : Env → Sto → R D := fun env S => (fa env S).bind fun ds S1 => nox (f ds S1)
theorem imp_call {f : List D → Sto → R D} {ta : TA} {fa : Env → Sto → R (List D)} {E : XK} (ha : Imp K W (vrs K) ta fa) : Imp K W (vr K) (tCall (spF K f) [] E ta) (xCall f fa) :=
  imp_bind (tb := fun (vs : List V) _ H (Q : VK) => spF K f (vs ++ []) H Q E) ha fun φ S H env σ x v rl e hv Q p => by
    rw [List.append_nil]
    obtain ⟨d, S1, hf, p⟩ := nox_inv p
    exact ⟨φ, S, x, rl, hv, by rw [hf]; exact p⟩
/-- a call that an error may leave -/
def xCallX (f : List D → Sto → R D) (fa : Env → Sto → R (List D)) : Env → Sto → R D := fun env S => (fa env S).bind fun ds S1 => f ds S1
theorem imp_callX {f : List D → Sto → R D} {ta : TA} {fa : Env → Sto → R (List D)} (ha : Imp K W (vrs K) ta fa) : Imp K W (vr K) (tCallS (spF K f) (WE W.wx) ta) (xCallX f fa) :=
  imp_bind (tb := fun (vs : List V) σ H (Q : VK) => spF K f vs H Q (WE W.wx σ)) ha fun φ S H env σ x v rl e hv Q p => ⟨φ, S, x, rl, hv, p⟩
/-- a def's body as a function of its arguments: m parameters, k slots behind them -/
def defX (m k : Nat) (f : Env → Sto → RS) : List D → Sto → R D := fun ds S => if ds.length = m then (match f (ds.map some ++ List.replicate k none) S with
    | .nx _ S1 => .ok .non S1
    | .ret d S1 => .ok d S1
    | .exc c fs _ S1 => .exc c fs S1
    | _ => .bad) else .bad
theorem spF_len {m k : Nat} {f : Env → Sto → RS} {ps : List Str} (hp : ps.length = m) : ∀ vs H Q E, spF K (defX m k f) vs H Q E → vs.length = ps.length := fun vs H Q E ⟨φ, S, ds, r, hv, p⟩ => by
  unfold defX at p
  split at p
  · rename_i h
    rw [hv.len, h, hp]
  · exact p.elim
theorem body_of {m k : Nat} {f : Env → Sto → RS} {t : TS} {N : List Str} {vs : List V} {H : Hp} {Q : VK} {E : XK} (hN : N.length = m + k) (hs : spF K (defX m k f) vs H Q E) (hf : ImpS K (WEx K E) t f) : t { nx := fun _ H' => Q .non H', rt := Q } (L2.start N vs) H := by
  obtain ⟨φ, S, ds, r, hv, p⟩ := hs
  unfold defX at p
  split at p
  · rename_i hl
    have he : ER K φ S.length H (ds.map some ++ List.replicate k none) (L2.start N vs) := by
      unfold L2.start
      rw [hv.len, hN, hl, Nat.add_sub_cancel_left]
      exact ER.ofs k hv
    refine hf φ S H _ _ r ⟨he, trivial⟩ _ ?_
    split at p
    · rename_i e1 S1 h1
      rw [h1]
      exact fun φ' H' σ' f' r' e' => p φ' H' .non f' r' VR.non
    · rename_i d S1 h1
      rw [h1]
      exact p
    · rename_i c fs e1 S1 h1
      rw [h1]
      exact fun φ' H' σ' dd fv f' r' e' hd hk => p φ' H' dd fv f' r' hd hk
    · exact p.elim
  · exact p.elim
end
end Mi

namespace Mi
open PySem PySem.Spec PyProof.Rows L2 Evl My
/-! ### set(a list of ints), k in it, len -/
def dedupL (ns : List Int) : List Int := ns.foldl step_dedup []
theorem firstMet_dedup (ns : List Int) : firstMet (fun i => ns.getD i 0) ns.length = dedupL ns := by
  unfold firstMet dedupL
  congr 1
  refine List.ext_getElem? fun i => ?_
  rw [List.getElem?_map]
  by_cases h : i < ns.length
  · rw [List.getElem?_range h, List.getElem?_eq_getElem h]
    simp [List.getD, h]
  · rw [List.getElem?_eq_none (by simpa using h), List.getElem?_eq_none (by omega)]
    rfl
theorem dedup_any (ns : List Int) (k : Int) : (dedupL ns).any (· == k) = ns.any (· == k) := by
  rw [← firstMet_dedup, firstMet_any]
  congr 1
  refine List.ext_getElem? fun i => ?_
  rw [List.getElem?_map]
  by_cases h : i < ns.length
  · rw [List.getElem?_range h, List.getElem?_eq_getElem h]
    simp [List.getD, h]
  · rw [List.getElem?_eq_none (by simpa using h), List.getElem?_eq_none (by omega)]
    rfl
theorem dedup_len (ns : List Int) : (dedupL ns).length ≤ ns.length := by
  rw [← firstMet_dedup]
  exact firstMet_length_le _ _
/-- k is in ns -/
def memI (ns : List Int) (k : Int) : Bool := ns.any (· == k)
theorem memI_iff {ns : List Int} {k : Int} : memI ns k = true ↔ k ∈ ns := by simp [memI]
theorem inV_ints {ns : List Int} {k : Int} : inV (.int k) (ns.map V.int) = memI ns k := by simp [inV, eqV, memI, List.any_map, Function.comp_def]
def rSetI (K : PySem.W.Frag) : List V → Hp → VK → Prop := fun xs H Q => ∃ (l : Addr) (ns : List Int), xs = [.ref l] ∧ SqL K H l (ns.map V.int) ∧ ns.length ≤ 4000 ∧ ∀ a, H a = none → Q (.ref a) (upd H a (.set (fun k => ns.any (· == k)) (dedupL ns).length))
section
variable {X : Cx}
theorem cr_setI (K : PySem.W.Frag) (hc : X.calm = true) (hK : X.K = K := by rfl) : CallR X (.type "set") (rSetI K) := by
  subst hK
  intro pins s σ H xs us Q I r h
  obtain ⟨l, ns, rfl, hl, hz, q⟩ := h
  rw [Vals.ref1 r]
  obtain ⟨its, rv, pl, _⟩ := I.list hl
  have hlen : its.toArray.size = ns.length := by rw [List.size_toArray, ← rv.length, List.length_map]
  have hn : H s.heap.objs.size = none := I.hok.fresh (Nat.le_refl _)
  refine call_set_list (I.ok.hd hc) pl.isList (by simpa using RZ.intsAre_vals rv) (by rw [hlen]; unfold scanBound; omega) fun h' tk hS hk => ?_
  rw [hlen, firstMet_dedup] at hS
  have e : (fun k' => (dedupL ns).any (· == k')) = fun k => ns.any (· == k) := funext fun k => dedup_any ns k
  rw [e] at hS
  exact ⟨.ref s.heap.objs.size, upd H s.heap.objs.size (.set (fun k => ns.any (· == k)) (dedupL ns).length), I.laid (t' := tk) (fun b o e => hk b o (Heap.lt_size e) e) (Nat.le_refl _) hS, rfl, q _ hn⟩
def rSetIn (neg : Bool) : R2 := fun x y H Q => ∃ k a S n, x = .int k ∧ y = .ref a ∧ H a = some (.set S n) ∧ Q (.bl (if neg then !S k else S k)) H
theorem or_setIn : OpR X (compareOp .In) (rSetIn false) := by
  intro pins s σ H x y v u Q I rx ry h
  obtain ⟨k, a, S, n, rfl, rfl, ha, q⟩ := h
  obtain ⟨tk, rfl⟩ := rx
  cases ry
  exact wpAny_inSet_of (intKind_is _ _ _ _) rfl (I.hok a _ ha) ⟨.bl (S k), H, I.tok _, rfl, q⟩
theorem or_setNin : OpR X (compareOp .NotIn) (rSetIn true) := by
  intro pins s σ H x y v u Q I rx ry h
  obtain ⟨k, a, S, n, rfl, rfl, ha, q⟩ := h
  obtain ⟨tk, rfl⟩ := rx
  cases ry
  exact wpAny_notInSet_of (intKind_is _ _ _ _) rfl (I.hok a _ ha) ⟨.bl (!S k), H, I.tok _, rfl, q⟩
def rSetLen : List V → Hp → VK → Prop := fun xs H Q => ∃ a S n, xs = [.ref a] ∧ H a = some (.set S n) ∧ n ≤ 4000 ∧ Q (.int (n : Int)) H
theorem cr_setLen : CallR X (.builtin "len") rSetLen := by
  intro pins s σ H xs us Q I r h
  obtain ⟨a, S, n, rfl, ha, hz, q⟩ := h
  rw [Vals.ref1 r]
  obtain ⟨o, es, ep, t, ho, hex, hd, _, _, _, hf, hn⟩ := (show s.heap.SetOf (intKind X.prog X.w) a S n from I.hok a _ ha)
  refine call_len_set ho hex hd hf (by rw [hn] <;> omega) ⟨.int n, H, (I.tok _), ⟨_, by rw [hn]⟩, q⟩
end
section
variable {K : PySem.W.Frag} {φ φ1 φ' : Nat → Addr} {n n1 n' : Nat} {H H1 H' : Hp} {X : XK} {W W1 : Wc K} {S : Sto} {α β γ δ : Type} {ρ : Rl α β}
def bSet : List D → Sto → R D := bInts fun ns S => if ns.length ≤ 4000 then .ok (.ref S.length) (S ++ [.set (memI ns) (dedupL ns).length]) else .bad
theorem cbi_set : CallI K (rSetI K) bSet := by
  intro φ S H ds vs X r h Q p
  obtain ⟨a, ns, rfl, q1, p⟩ := bInts_inv r h p
  split at p
  · rename_i hz
    exact ⟨a, ns, rfl, q1, hz, fun b hb => p.new r hb upd_same⟩
  · exact p.elim
def oInSet (neg : Bool) : D → D → Sto → R D := fun x y S => match x, y with
  | .int k, .ref l => match at_ S l with
    | some (.set f _) => .ok (.bl (if neg = true then !f k else f k)) S
    | _ => .bad
  | _, _ => .bad
theorem oInSet_eq {neg : Bool} {k : Int} {l : Nat} {f : Int → Bool} {m : Nat} (h : at_ S l = some (.set f m)) : oInSet neg (.int k) (.ref l) S = .ok (.bl (if neg = true then !f k else f k)) S := by simp [oInSet, h]
theorem opi_inSet {neg : Bool} : OpI K (rSetIn neg) (oInSet neg) := by
  intro φ S H x y v w X r hx hy Q p
  unfold oInSet at p
  split at p
  · split at p
    · rename_i k l _ f m e
      cases hx
      obtain ⟨_, rfl⟩ := hy.ref_inv
      exact ⟨k, _, f, m, rfl, rfl, r.ob _ _ e, p.here r (VR.bl _)⟩
    · exact p.elim
  · exact p.elim
def bLenSet : List D → Sto → R D := fun ds S => match ds with
  | [.ref l] => match at_ S l with
    | some (.set _ m) => if m ≤ 4000 then .ok (.int (m : Int)) S else .bad
    | _ => .bad
  | _ => .bad
theorem bLenSet_eq {l : Nat} {f : Int → Bool} {m : Nat} (h : at_ S l = some (.set f m)) (hm : m ≤ 4000) : bLenSet [.ref l] S = .ok (.int (m : Int)) S := by simp [bLenSet, h, hm]
theorem cbi_lenSet : CallI K rSetLen bLenSet := by
  intro φ S H ds vs X r h Q p
  unfold bLenSet at p
  split at p
  · split at p
    · rename_i l _ f m e
      split at p
      · rename_i hm
        obtain ⟨v, rfl, hv⟩ := h.one_inv
        obtain ⟨_, rfl⟩ := hv.ref_inv
        exact ⟨_, f, m, rfl, r.ob _ _ e, hm, p.here r (VR.int _)⟩
      · exact p.elim
    · exact p.elim
  · exact p.elim
/-! ### assert; what is never reached -/
def xAssert (ft : Env → Sto → R Bool) : Env → Sto → RS := fun env S => (ft env S).bindS env fun b S1 => if b = true then .nx env S1 else .bad
theorem imp_assert {tt : TT} {ft : Env → Sto → R Bool} (ht : Imp K W same tt ft) : ImpS K W (tAssert tt) (xAssert ft) := by
  intro φ S H env σ r e D p
  refine ht.goS (tb := fun b H1 => b = true ∧ D.nx σ H1) r e p fun φ1 S1 H1 x v f1 r1 e1 hv p1 => ?_
  obtain rfl : x = v := hv
  cases x with
  | true => exact ⟨rfl, p1 φ1 H1 σ Fut.refl r1 e1.e⟩
  | false => exact p1.elim
def xNever : Env → Sto → RS := fun _ _ => .bad
theorem imp_never : ImpS K W tNever xNever := fun φ S H env σ r e D p => p
/-! ### dicts with ints and texts as keys -/
def valX {κ α : Type} [DecidableEq κ] (kvs : List (κ × α)) (k : κ) : Option α := (kvs.find? fun kv => decide (kv.1 = k)).map (·.2)
def putX {κ α : Type} [DecidableEq κ] (kvs : List (κ × α)) (k : κ) (v : α) : List (κ × α) := if (kvs.any fun kv => decide (kv.1 = k)) = true then kvs.map (fun kv => if kv.1 = k then (kv.1, v) else kv) else kvs ++ [(k, v)]
theorem valX_cons {κ α : Type} [DecidableEq κ] {kvs : List (κ × α)} {k k' : κ} {v : α} : valX ((k', v) :: kvs) k = if k' = k then some v else valX kvs k := by
  unfold valX
  rw [List.find?_cons]
  by_cases h : k' = k <;> simp [h]
theorem KR.len {κ : Type} : ∀ {kvs : List (κ × D)} {kws : List (κ × V)}, KR K φ n H kvs kws → kws.length = kvs.length
  | _, _, .nil => rfl
  | _, _, .cons _ t => congrArg Nat.succ (KR.len t)
theorem KR.val {κ : Type} [DecidableEq κ] {k : κ} : ∀ {kvs : List (κ × D)} {kws : List (κ × V)} {d : D}, KR K φ n H kvs kws → valX kvs k = some d → ∃ v, valV kws k = some v ∧ VR K φ n H d v
  | _, _, _, .nil, h => by cases h
  | (k', x) :: r, _, d, .cons h t, e => by
    rw [valX_cons] at e
    split at e
    · rename_i hk
      cases e
      exact ⟨_, valV_pos hk, h⟩
    · rename_i hk
      obtain ⟨v, h1, h2⟩ := KR.val t e
      exact ⟨v, by rw [valV_neg hk]; exact h1, h2⟩
theorem KR.val_none {κ : Type} [DecidableEq κ] {k : κ} : ∀ {kvs : List (κ × D)} {kws : List (κ × V)}, KR K φ n H kvs kws → valX kvs k = none → valV kws k = none
  | _, _, .nil, _ => rfl
  | (k', x) :: r, _, .cons h t, e => by
    rw [valX_cons] at e
    split at e
    · cases e
    · rename_i hk
      rw [valV_neg hk]
      exact KR.val_none t e
theorem KR.any {κ : Type} [DecidableEq κ] {k : κ} : ∀ {kvs : List (κ × D)} {kws : List (κ × V)}, KR K φ n H kvs kws → (kws.any fun kv => decide (kv.1 = k)) = (kvs.any fun kv => decide (kv.1 = k))
  | _, _, .nil => rfl
  | _, _, .cons _ t => by rw [List.any_cons, List.any_cons, KR.any t]
theorem KR.mapPut {κ : Type} [DecidableEq κ] {k : κ} {d : D} {v : V} (hv : VR K φ n H d v) : ∀ {kvs : List (κ × D)} {kws : List (κ × V)}, KR K φ n H kvs kws → KR K φ n H (kvs.map fun kv => if kv.1 = k then (kv.1, d) else kv) (kws.map fun kv => if kv.1 = k then (kv.1, v) else kv)
  | _, _, .nil => .nil
  | (k', x) :: r, (_, _) :: _, .cons h t => by
    rw [List.map_cons, List.map_cons]
    by_cases hk : k' = k
    · rw [if_pos hk, if_pos hk]
      exact .cons hv (KR.mapPut hv t)
    · rw [if_neg hk, if_neg hk]
      exact .cons h (KR.mapPut hv t)
theorem KR.app {κ : Type} : ∀ {kvs lvs : List (κ × D)} {kws lws : List (κ × V)}, KR K φ n H kvs kws → KR K φ n H lvs lws → KR K φ n H (kvs ++ lvs) (kws ++ lws)
  | _, _, _, _, .nil, h => h
  | _, _, _, _, .cons a t, h => .cons a (KR.app t h)
theorem KR.put {κ : Type} [DecidableEq κ] {k : κ} {d : D} {v : V} {kvs : List (κ × D)} {kws : List (κ × V)} (h : KR K φ n H kvs kws) (hv : VR K φ n H d v) : KR K φ n H (putX kvs k d) (putK kws k v) := by
  unfold putX putK
  rw [h.any]
  split
  · exact h.mapPut hv
  · exact h.app (.cons hv .nil)
def keyD : D → Option Key
  | .int i => some (.inl i)
  | .str s => some (.inr s)
  | _ => none
@[simp] theorem keyD_int {i : Int} : keyD (.int i) = some (.inl i) := rfl
@[simp] theorem keyD_str {i : Str} : keyD (.str i) = some (.inr i) := rfl
theorem keyD_eq {d : D} {v : V} {k : Key} (h : keyD d = some k) (q : VR K φ n H d v) : v = kV k := by
  cases d <;> simp [keyD] at h <;> subst h <;> cases q <;> rfl
def getDX (S : Sto) (x y : D) : Option (Option D) := match x, keyD y with
  | .ref l, some k => match at_ S l with
    | some (.dK kvs) => some (valX kvs k)
    | _ => none
  | _, _ => none
theorem getDX_eq {l : Nat} {kvs : List (Key × D)} {y : D} {k : Key} (h : at_ S l = some (.dK kvs)) (hy : keyD y = some k) : getDX S (.ref l) y = some (valX kvs k) := by simp [getDX, h, hy]
theorem getDX_inv {x y : D} {v w : V} {o : Option D} (r : Rel K φ S H) (h : getDX S x y = some o) (hx : VR K φ S.length H x v) (hy : VR K φ S.length H y w) : ∃ a kws k, v = .ref a ∧ w = kV k ∧ H a = some (.dK kws) ∧ (∀ d, o = some d → ∃ u, valV kws k = some u ∧ VR K φ S.length H d u) ∧ (o = none → valV kws k = none) := by
  unfold getDX at h
  split at h
  · split at h
    · rename_i l k hk _ kvs e
      cases h
      obtain ⟨_, rfl⟩ := hx.ref_inv
      obtain ⟨kws, q1, q2⟩ := r.ob _ _ e
      exact ⟨_, kws, k, rfl, keyD_eq hk hy, q1, fun d hd => q2.val hd, fun hn => q2.val_none hn⟩
    · cases h
  · cases h
def oDGet : D → D → Sto → R D := fun x y S => match getDX S x y with
  | some (some d) => .ok d S
  | _ => .bad
def xDGet (fo fi : Env → Sto → R D) : Env → Sto → R D := xOp oDGet fo fi
theorem oDGet_eq {l : Nat} {kvs : List (Key × D)} {y d : D} {k : Key} (h : at_ S l = some (.dK kvs)) (hy : keyD y = some k) (hd : valX kvs k = some d) : oDGet (.ref l) y S = .ok d S := by simp [oDGet, getDX_eq h hy, hd]
theorem imp_dget {to ti : TE} {fo fi : Env → Sto → R D} (ho : Imp K W (vr K) to fo) (hi : Imp K W (vr K) ti fi) : Imp K W (vr K) (tDGet to ti) (xDGet fo fi) :=
  imp_op (r := fun x y H Q => ∃ a v, x = .ref a ∧ DGet H a y (some v) ∧ Q v H) (fun φ S H x y v w X r hx hy Q p => by
    unfold oDGet at p
    split at p
    · rename_i d e
      obtain ⟨a, kws, k, rfl, rfl, q1, q2, _⟩ := getDX_inv r e hx hy
      obtain ⟨u, h1, h2⟩ := q2 d rfl
      exact ⟨a, u, rfl, .inl ⟨kws, k, .inl q1, rfl, h1.symm⟩, p.here r h2⟩
    · exact p.elim) ho hi
def oDIn (neg : Bool) : D → D → Sto → R D := fun y x S => match getDX S x y with
  | some o => .ok (.bl (if neg = true then !o.isSome else o.isSome)) S
  | _ => .bad
theorem oDIn_eq {neg : Bool} {l : Nat} {kvs : List (Key × D)} {y : D} {k : Key} (h : at_ S l = some (.dK kvs)) (hy : keyD y = some k) : oDIn neg y (.ref l) S = .ok (.bl (if neg = true then !(valX kvs k).isSome else (valX kvs k).isSome)) S := by simp [oDIn, getDX_eq h hy]
def xDIn (neg : Bool) (fi fo : Env → Sto → R D) : Env → Sto → R D := xOp (oDIn neg) fi fo
theorem getDX_dget {x y : D} {v w : V} {o : Option D} (r : Rel K φ S H) (h : getDX S x y = some o) (hx : VR K φ S.length H x v) (hy : VR K φ S.length H y w) : ∃ a o', v = .ref a ∧ DGet H a w o' ∧ o'.isSome = o.isSome ∧ (∀ d, o = some d → ∃ u, o' = some u ∧ VR K φ S.length H d u) := by
  obtain ⟨a, kws, k, rfl, rfl, q1, q2, q3⟩ := getDX_inv r h hx hy
  cases o with
  | none => exact ⟨a, none, rfl, .inl ⟨kws, k, .inl q1, rfl, (q3 rfl).symm⟩, rfl, fun d hd => by cases hd⟩
  | some d =>
    obtain ⟨u, h1, h2⟩ := q2 d rfl
    exact ⟨a, some u, rfl, .inl ⟨kws, k, .inl q1, rfl, h1.symm⟩, rfl, fun d' hd => by cases hd; exact ⟨u, rfl, h2⟩⟩
theorem imp_din {to ti : TE} {fo fi : Env → Sto → R D} (hi : Imp K W (vr K) ti fi) (ho : Imp K W (vr K) to fo) : Imp K W (vr K) (tDIn ti to) (xDIn false fi fo) :=
  imp_op (r := fun y x H Q => ∃ a o, x = .ref a ∧ DGet H a y o ∧ Q (.bl o.isSome) H) (fun φ S H y x w v X r hy hx Q p => by
    unfold oDIn at p
    split at p
    · rename_i o e
      obtain ⟨a, o', rfl, q1, q2, _⟩ := getDX_dget r e hx hy
      exact ⟨a, o', rfl, q1, by rw [q2]; exact p.here r (VR.bl _)⟩
    · exact p.elim) hi ho
theorem imp_dnotin {to ti : TE} {fo fi : Env → Sto → R D} (hi : Imp K W (vr K) ti fi) (ho : Imp K W (vr K) to fo) : Imp K W (vr K) (tDNotIn ti to) (xDIn true fi fo) :=
  imp_op (r := fun y x H Q => ∃ a o, x = .ref a ∧ DGet H a y o ∧ Q (.bl (!o.isSome)) H) (fun φ S H y x w v X r hy hx Q p => by
    unfold oDIn at p
    split at p
    · rename_i o e
      obtain ⟨a, o', rfl, q1, q2, _⟩ := getDX_dget r e hx hy
      exact ⟨a, o', rfl, q1, by rw [q2]; exact p.here r (VR.bl _)⟩
    · exact p.elim) hi ho
/-- d[k] = v -/
def putDX (x y v : D) (S : Sto) : Option Sto := match x, keyD y with
  | .ref l, some k => match at_ S l with
    | some (.dK kvs) => if kvs.length < 100000 then some (S.set l (.dK (putX kvs k v))) else none
    | _ => none
  | _, _ => none
theorem putDX_eq {l : Nat} {kvs : List (Key × D)} {y v : D} {k : Key} (h : at_ S l = some (.dK kvs)) (hy : keyD y = some k) (hl : kvs.length < 100000) : putDX (.ref l) y v S = some (S.set l (.dK (putX kvs k v))) := by simp [putDX, h, hy, hl]
def xDPut (fo fi fv : Env → Sto → R D) : Env → Sto → RS := fun env S => (fv env S).bindS env fun v S1 => (fo env S1).bindS env fun x S2 => (fi env S2).bindS env fun y S3 => match putDX x y v S3 with
  | some S4 => .nx env S4
  | none => .bad
theorem imp_dput {to ti tv : TE} {fo fi fv : Env → Sto → R D} (ho : Imp K W (vr K) to fo) (hi : Imp K W (vr K) ti fi) (hv : Imp K W (vr K) tv fv) : ImpS K W (sDPut to ti tv) (xDPut fo fi fv) := by
  intro φ S H env σ r e D p
  refine hv.goS r e p fun φ1 S1 H1 v v' f1 r1 e1 hv1 p1 => ho.goS r1 e1 p1 fun φ2 S2 H2 x x' f2 r2 e2 hx p2 => hi.goS r2 e2 p2 fun φ3 S3 H3 y y' f3 r3 e3 hy p3 => ?_
  split at p3
  · rename_i S4 hp
    unfold putDX at hp
    split at hp
    · split at hp
      · rename_i l k hk _ kvs el
        split at hp
        · rename_i hz
          cases hp
          obtain ⟨_, rfl⟩ := (VR.fut f3 hx).ref_inv
          obtain ⟨kws, q1, q2⟩ := r3.ob _ _ el
          have hv3 := VR.fut (f2.trans f3) hv1
          have fw : Fut K φ3 S3.length H3 φ3 S3.length (upd H3 (φ3 l) (.dK (putK kws k v'))) := Fut.upd q1 trivial
          have q := r3.put (o' := .dK (putX kvs k v)) (u := .dK (putK kws k v')) el rfl rfl ⟨_, upd_same, (q2.put hv3).fut fw⟩
          exact ⟨_, _, rfl, .inl ⟨kws, k, q1, keyD_eq hk hy, sz_lt (by rw [q2.len]; exact hz), rfl⟩, p3 _ _ σ q.2 q.1 (e3.fut q.2).e⟩
        · cases hp
      · cases hp
    · cases hp
  · exact p3.elim
/-- d.get(k) -/
def xDGet1 (fo fi : Env → Sto → R D) : Env → Sto → R D := fun env S => (fo env S).bind fun x S1 => match x with
  | .ref l => match at_ S1 l with
    | some (.dK _) => (fi env S1).bind fun y S2 => match getDX S2 (.ref l) y with
      | some o => .ok (o.getD .non) S2
      | none => .bad
    | _ => .bad
  | _ => .bad
theorem imp_dget1 {to ti : TE} {fo fi : Env → Sto → R D} (ho : Imp K W (vr K) to fo) (hi : Imp K W (vr K) ti fi) : Imp K W (vr K) (tDGet1 to ti) (xDGet1 fo fi) :=
  imp_bind (tb := fun (x : V) σ H1 (Q : VK) => ∃ a, x = .ref a ∧ IsD H1 a ∧ ti σ H1 fun y H2 => ∃ o, DGet H2 a y o ∧ Q (o.getD .non) H2) ho fun φ S H env σ x v rl e hv Q p => by
    split at p
    · split at p
      · rename_i l _ kvs el
        obtain ⟨hl, rfl⟩ := hv.ref_inv
        obtain ⟨kws, q1, _⟩ := rl.ob _ _ el
        refine ⟨_, rfl, .inl ⟨kws, .inl q1⟩, hi.go rl e p fun φ1 S1 H1 y w f r1 _ hw p1 => ?_⟩
        split at p1
        · rename_i o eo
          obtain ⟨a, o', ea, b1, b2, b3⟩ := getDX_dget r1 eo (VR.ref (Nat.lt_of_lt_of_le hl f.le)) hw
          rw [f.ag _ hl] at ea
          cases ea
          refine ⟨o', b1, ?_⟩
          cases o with
          | none =>
            cases o' with
            | none => exact p1.here r1 VR.non
            | some u => cases b2
          | some d =>
            obtain ⟨u, rfl, hu⟩ := b3 d rfl
            exact p1.here r1 hu
        · exact p1.elim
      · exact p.elim
    · exact p.elim
def bLenD : List D → Sto → R D := fun ds S => match ds with
  | [.ref l] => match at_ S l with
    | some (.dK kvs) => .ok (.int (kvs.length : Int)) S
    | _ => .bad
  | _ => .bad
theorem cbi_lenD : CallI K (fun xs H Q => ∃ a kvs, xs = [V.ref a] ∧ H a = some (.dK kvs) ∧ Q (.int kvs.length) H) bLenD := by
  intro φ S H ds vs X r h Q p
  unfold bLenD at p
  split at p
  · split at p
    · rename_i l _ kvs e
      obtain ⟨v, rfl, hv⟩ := h.one_inv
      obtain ⟨_, rfl⟩ := hv.ref_inv
      obtain ⟨kws, q1, q2⟩ := r.ob _ _ e
      exact ⟨_, kws, rfl, q1, by rw [q2.len]; exact p.here r (VR.int _)⟩
    · exact p.elim
  · exact p.elim
def xDNew : Env → Sto → R D := fun _ S => .ok (.ref S.length) (S ++ [.dK []])
theorem imp_dnew : Imp K W (vr K) tDNewK xDNew := fun φ S H env σ r e Q p a ha => p.new r ha ⟨[], upd_same, .nil⟩
/-! displays -/
def prs (K : PySem.W.Frag) : Rl (List (D × D)) (List (V × V)) := fun φ n H ds vs => Paired (fun p q => VR K φ n H p.1 q.1 ∧ VR K φ n H p.2 q.2) ds vs
def xPNil : Env → Sto → R (List (D × D)) := fun _ S => .ok [] S
def xPCons (fk fv : Env → Sto → R D) (fr : Env → Sto → R (List (D × D))) : Env → Sto → R (List (D × D)) := fun env S => (fk env S).bind fun x S1 => (fv env S1).bind fun y S2 => (fr env S2).bind fun ps S3 => .ok ((x, y) :: ps) S3
theorem impp_nil : Imp K W (prs K) (tPairs []) xPNil := fun φ S H env σ r e Q p => p.here r Paired.nil
theorem impp_cons {tk tv : TE} {trs : List (TE × TE)} {fk fv : Env → Sto → R D} {fr : Env → Sto → R (List (D × D))} (hk : Imp K W (vr K) tk fk) (hv : Imp K W (vr K) tv fv) (hr : Imp K W (prs K) (tPairs trs) fr) : Imp K W (prs K) (tPairs ((tk, tv) :: trs)) (xPCons fk fv fr) :=
  imp_bind (tb := fun (x : V) σ H1 (Q : List (V × V) → Hp → Prop) => tv σ H1 fun y H2 => tPairs trs σ H2 fun ps H3 => Q ((x, y) :: ps) H3) hk fun φ S H env σ x v rl e hx Q p =>
    hv.go rl e p fun φ1 S1 H1 y w f1 r1 e1 hy p1 => hr.go r1 e1 p1 fun φ2 S2 H2 ps qs f2 r2 e2 hp p2 => p2.here r2 (Paired.cons ⟨VR.fut f2 (VR.fut f1 hx), VR.fut f2 hy⟩ hp)
def keysX : List (D × D) → Option (List (Key × D))
  | [] => some []
  | (k, v) :: r => (keyD k).bind fun k' => (keysX r).map fun r' => (k', v) :: r'
def mergeX (kvs more : List (Key × D)) : List (Key × D) := more.foldl (fun acc kv => putX acc kv.1 kv.2) kvs
theorem keysX_inv : ∀ {ds : List (D × D)} {ks : List (Key × D)} {vs : List (V × V)}, keysX ds = some ks → Paired (fun p q => VR K φ n H p.1 q.1 ∧ VR K φ n H p.2 q.2) ds vs → ∃ kws : List (Key × V), vs = kws.map (fun kv => (kV kv.1, kv.2)) ∧ KR K φ n H ks kws ∧ kws.length = ks.length
  | [], _, _, h, .nil => by cases h; exact ⟨[], rfl, .nil, rfl⟩
  | (k, v) :: r, _, _, h, .cons (b := b) q t => by
    obtain ⟨k', h1, h2⟩ := Option.bind_eq_some_iff.mp h
    obtain ⟨r', h3, h4⟩ := Option.map_eq_some_iff.mp h2
    obtain ⟨kws, e1, e2, e3⟩ := keysX_inv h3 t
    cases h4
    obtain ⟨b1, b2⟩ := b
    have := keyD_eq h1 q.1
    dsimp only at this
    subst this
    exact ⟨(k', b2) :: kws, by rw [e1]; rfl, .cons q.2 e2, congrArg Nat.succ e3⟩
theorem KR.merge : ∀ {more : List (Key × D)} {mw : List (Key × V)} {kvs : List (Key × D)} {kws : List (Key × V)}, KR K φ n H more mw → KR K φ n H kvs kws → KR K φ n H (mergeX kvs more) (mergeK kws mw)
  | _, _, _, _, .nil, h => h
  | (k, x) :: r, (_, v) :: vs, _, _, .cons q t, h => KR.merge (more := r) (mw := vs) t (h.put q)
def xDisp (fp : Env → Sto → R (List (D × D))) : Env → Sto → R D := fun env S => (fp env (S ++ [.dK []])).bind fun ps S1 => match at_ S1 S.length, keysX ps with
  | some (.dK []), some ks => if ks.length ≤ 15 then .ok (.ref S.length) (S1.set S.length (.dK (mergeX [] ks))) else .bad
  | _, _ => .bad
theorem imp_disp {trs : List (TE × TE)} {fp : Env → Sto → R (List (D × D))} (hp : Imp K W (prs K) (tPairs trs) fp) : Imp K W (vr K) (tDisp trs) (xDisp fp) := by
  intro φ S H env σ r e Q p a ha
  have r0 : Rel K (nxt φ S.length a) (S ++ [.dK []]) (upd H a (.dK [])) := r.new ha ⟨[], upd_same, .nil⟩
  have f0 : Fut K φ S.length H (nxt φ S.length a) (S ++ [O.dK []]).length (upd H a (.dK [])) := by
    rw [List.length_append]
    exact Fut.new ha
  refine hp.go r0 (e.fut f0) (p.fut f0) fun φ1 S1 H1 ps qs f1 r1 e1 hq p1 => ?_
  split at p1
  · rename_i ks h1 h2
    split at p1
    · rename_i hl
      obtain ⟨kws, e1', e2, e3⟩ := keysX_inv h2 hq
      obtain ⟨zs, q1, q2⟩ := r1.ob _ _ h1
      cases q2
      have hφ : φ1 S.length = a := by
        rw [f1.ag _ (by simp)]
        exact nxt_at
      have fw : Fut K φ1 S1.length H1 φ1 S1.length (upd H1 (φ1 S.length) (.dK (mergeK [] kws))) := Fut.upd q1 trivial
      have q := r1.put (o' := .dK (mergeX [] ks)) (u := .dK (mergeK [] kws)) h1 rfl rfl ⟨_, upd_same, (e2.merge .nil).fut fw⟩
      have fin := p1 φ1 _ (.ref (φ1 S.length)) q.2 q.1 (VR.ref (by
        rw [List.length_set]
        exact (List.getElem?_eq_some_iff.mp h1).1))
      rw [hφ] at q1 fin
      exact ⟨q1, kws, e1', by rw [e3]; exact hl, fin⟩
    · exact p1.elim
  · exact p1.elim
/-! ### instances -/
def lkX {α : Type} (f : Str) (fs : List (Str × α)) : Option α := fs.lookup f
theorem KR.lookup {f : Str} : ∀ {fs : List (Str × D)} {fv : List (Str × V)} {d : D}, KR K φ n H fs fv → fs.lookup f = some d → ∃ v, fv.lookup f = some v ∧ VR K φ n H d v
  | _, _, _, .nil, h => by cases h
  | (k, x) :: r, _, d, .cons h t, e => by
    rw [List.lookup_cons] at e ⊢
    cases hk : f == k with
    | true =>
      rw [hk] at e
      cases e
      exact ⟨_, rfl, h⟩
    | false =>
      rw [hk] at e
      exact KR.lookup t e
theorem KR.lookup_none {f : Str} : ∀ {fs : List (Str × D)} {fv : List (Str × V)}, KR K φ n H fs fv → fs.lookup f = none → fv.lookup f = none
  | _, _, .nil, _ => rfl
  | (k, x) :: r, _, .cons h t, e => by
    rw [List.lookup_cons] at e ⊢
    cases hk : f == k with
    | true =>
      rw [hk] at e
      cases e
    | false =>
      rw [hk] at e
      exact KR.lookup_none t e
def putFX (f : Str) (v : D) : List (Str × D) → List (Str × D)
  | [] => [(f, v)]
  | (g, x) :: r => if g = f then (g, v) :: r else (g, x) :: putFX f v r
theorem KR.putF {f : Str} {d : D} {v : V} (hv : VR K φ n H d v) : ∀ {fs : List (Str × D)} {fv : List (Str × V)}, KR K φ n H fs fv → KR K φ n H (putFX f d fs) (L2.putF f v fv)
  | _, _, .nil => .cons hv .nil
  | (g, x) :: r, (_, _) :: _, .cons h t => by
    unfold putFX L2.putF
    by_cases hg : g = f
    · rw [if_pos hg, if_pos hg]
      exact .cons hv t
    · rw [if_neg hg, if_neg hg]
      exact .cons h (KR.putF hv t)
def insX (S : Sto) (C : Str) : D → Option (Nat × List (Str × D))
  | .ref l => match at_ S l with
    | some (.ins C' fs) => if C' = C then some (l, fs) else none
    | _ => none
  | _ => none
theorem insX_eq {l : Nat} {C : Str} {fs : List (Str × D)} (h : at_ S l = some (.ins C fs)) : insX S C (.ref l) = some (l, fs) := by simp [insX, h]
theorem insX_inv {x : D} {v : V} {C : Str} {l : Nat} {fs : List (Str × D)} (r : Rel K φ S H) (h : insX S C x = some (l, fs)) (hv : VR K φ S.length H x v) : x = .ref l ∧ v = .ref (φ l) ∧ at_ S l = some (.ins C fs) ∧ ∃ dx fv, H (φ l) = some (.ins (He.ga K C) dx fv) ∧ KR K φ S.length H fs fv := by
  unfold insX at h
  split at h
  · split at h
    · rename_i l' _ C' fs' e
      split at h
      · rename_i hc
        cases h
        subst hc
        obtain ⟨_, rfl⟩ := hv.ref_inv
        exact ⟨rfl, rfl, e, r.ob _ _ e⟩
      · cases h
    · cases h
  · cases h
def xFld (C f : Str) (fa : Env → Sto → R D) : Env → Sto → R D := fun env S => (fa env S).bind fun x S1 => match (insX S1 C x).bind fun p => p.2.lookup f with
  | some d => .ok d S1
  | none => .bad
theorem imp_fld {C f : Str} {ta : TE} {fa : Env → Sto → R D} (c : Cls K (He.ga K C)) (na : NoAttr K (He.ga K C) f) (ha : Imp K W (vr K) ta fa) : Imp K W (vr K) (tFld K ta f) (xFld C f fa) :=
  imp_bind (tb := fun (x : V) _ H1 (Q : VK) => ∃ a C dx fs v, x = .ref a ∧ H1 a = some (.ins C dx fs) ∧ Cls K C ∧ NoAttr K C f ∧ fs.lookup f = some v ∧ Q v H1) ha fun φ S H env σ x v rl e hv Q p => by
    split at p
    · rename_i d hd
      obtain ⟨⟨l, fs⟩, h1, h2⟩ := Option.bind_eq_some_iff.mp hd
      obtain ⟨_, rfl, _, dx, fv, q1, q2⟩ := insX_inv rl h1 hv
      obtain ⟨u, h3, h4⟩ := q2.lookup h2
      exact ⟨_, _, dx, fv, u, rfl, q1, c, na, h3, p.here rl h4⟩
    · exact p.elim
def setFX (C f : Str) (x y : D) (S : Sto) : Option Sto := (insX S C x).bind fun p => if p.2.length < 900 then some (S.set p.1 (.ins C (putFX f y p.2))) else none
theorem setFX_eq {C f : Str} {l : Nat} {fs : List (Str × D)} {y : D} (h : at_ S l = some (.ins C fs)) (hl : fs.length < 900) : setFX C f (.ref l) y S = some (S.set l (.ins C (putFX f y fs))) := by simp [setFX, insX_eq h, hl]
theorem setFX_inv {C f : Str} {x y : D} {v w : V} {S' : Sto} (r : Rel K φ S H) (h : setFX C f x y S = some S') (hx : VR K φ S.length H x v) (hy : VR K φ S.length H y w) :
    ∃ l dx fv, x = .ref l ∧ v = .ref (φ l) ∧ H (φ l) = some (.ins (He.ga K C) dx fv) ∧ fv.length < 900 ∧ Rel K φ S' (upd H (φ l) (.ins (He.ga K C) dx (L2.putF f w fv))) ∧ Fut K φ S.length H φ S'.length (upd H (φ l) (.ins (He.ga K C) dx (L2.putF f w fv))) := by
  obtain ⟨⟨l, fs⟩, h1, h2⟩ := Option.bind_eq_some_iff.mp h
  split at h2
  · rename_i hl
    cases h2
    obtain ⟨rfl, rfl, el, dx, fv, q1, q2⟩ := insX_inv r h1 hx
    have fw : Fut K φ S.length H φ S.length (upd H (φ l) (.ins (He.ga K C) dx (L2.putF f w fv))) := Fut.upd q1 trivial
    have q := r.put (o' := .ins C (putFX f y fs)) (u := .ins (He.ga K C) dx (L2.putF f w fv)) el rfl rfl ⟨dx, _, upd_same, (q2.putF hy).fut fw⟩
    exact ⟨l, dx, fv, rfl, rfl, q1, by rw [q2.len]; exact hl, q.1, q.2⟩
  · cases h2
def xSetF (C f : Str) (fo fv : Env → Sto → R D) : Env → Sto → RS := fun env S => (fv env S).bindS env fun y S1 => (fo env S1).bindS env fun x S2 => match setFX C f x y S2 with
  | some S3 => .nx env S3
  | none => .bad
theorem imp_setF {C f : Str} {to tv : TE} {fo fv : Env → Sto → R D} (c : Cls K (He.ga K C)) (na : NoAttr K (He.ga K C) f) (ho : Imp K W (vr K) to fo) (hv : Imp K W (vr K) tv fv) : ImpS K W (sFld K to tv f) (xSetF C f fo fv) := by
  intro φ S H env σ r e D p
  refine hv.goS r e p fun φ1 S1 H1 y y' f1 r1 e1 hy p1 => ho.goS r1 e1 p1 fun φ2 S2 H2 x x' f2 r2 e2 hx p2 => ?_
  split at p2
  · rename_i S3 hs
    obtain ⟨l, dx, fv, rfl, rfl, q1, q2, q3, q4⟩ := setFX_inv r2 hs hx (VR.fut f2 hy)
    exact ⟨_, _, dx, fv, rfl, q1, c, na, by omega, p2 _ _ σ q4 q3 (e2.fut q4).e⟩
  · exact p2.elim
def xAugF (C f : Str) (fo fv : Env → Sto → R D) (o : D → D → Sto → R D) : Env → Sto → RS := fun env S => (fo env S).bindS env fun x S1 => match (insX S1 C x).bind fun p => p.2.lookup f with
  | some d => (fv env S1).bindS env fun y S2 => (o d y S2).bindS env fun z S3 => match setFX C f x z S3 with
    | some S4 => .nx env S4
    | none => .bad
  | none => .bad
theorem imp_augF {C f : Str} {to tv : TE} {fo fv : Env → Sto → R D} {op : Int → Int → Int} (c : Cls K (He.ga K C)) (na : NoAttr K (He.ga K C) f) (ho : Imp K W (vr K) to fo) (hv : Imp K W (vr K) tv fv) :
    ImpS K W (sFldAug K to tv (fun x y H Q => ∃ i j, x = .int i ∧ y = .int j ∧ Q (.int (op i j)) H) f) (xAugF C f fo fv (oI fun i j => .int (op i j))) := by
  intro φ S H env σ r e D p
  refine ho.goS r e p fun φ1 S1 H1 x x' f1 r1 e1 hx p1 => ?_
  split at p1
  · rename_i d hd
    obtain ⟨⟨l, fs⟩, h1, h2⟩ := Option.bind_eq_some_iff.mp hd
    obtain ⟨rfl, rfl, _, dx, fv1, q1, q2⟩ := insX_inv r1 h1 hx
    obtain ⟨u, h3, h4⟩ := q2.lookup h2
    refine ⟨_, _, dx, fv1, u, rfl, q1, c, na, h3, hv.goS r1 e1 p1 fun φ2 S2 H2 y y' f2 r2 e2 hy p2 => ?_⟩
    unfold oI at p2
    split at p2
    · cases VR.fut f2 h4
      cases hy
      simp only [R.bindS_ok] at p2
      split at p2
      · rename_i S4 hs
        obtain ⟨l', dx', fv', e', ev, q3, q4, q5, q6⟩ := setFX_inv r2 hs (VR.fut f2 hx) (VR.int _)
        cases e'
        injection ev with ev
        rw [ev]
        exact ⟨_, _, rfl, rfl, dx', fv', q3, by omega, p2 _ _ σ q6 q5 (e2.fut q6).e⟩
      · exact p2.elim
    · exact p2.elim
  · exact p1.elim
theorem imp_augF_add {C f : Str} {to tv : TE} {fo fv : Env → Sto → R D} (c : Cls K (He.ga K C)) (na : NoAttr K (He.ga K C) f) (ho : Imp K W (vr K) to fo) (hv : Imp K W (vr K) tv fv) : ImpS K W (sFldAug K to tv rAdd f) (xAugF C f fo fv (oI fun i j => .int (i + j))) := imp_augF c na ho hv
theorem imp_augF_sub {C f : Str} {to tv : TE} {fo fv : Env → Sto → R D} (c : Cls K (He.ga K C)) (na : NoAttr K (He.ga K C) f) (ho : Imp K W (vr K) to fo) (hv : Imp K W (vr K) tv fv) : ImpS K W (sFldAug K to tv rSub f) (xAugF C f fo fv (oI fun i j => .int (i - j))) := imp_augF c na ho hv
/-- o.m(..) -/
def xMeth (C m : Str) (f : List D → Sto → R D) (fo : Env → Sto → R D) (fa : Env → Sto → R (List D)) : Env → Sto → R D := fun env S => (fo env S).bind fun x S1 => match insX S1 C x with
  | some (_, fs) => match fs.lookup m with
    | none => (fa env S1).bind fun ds S2 => nox (f (x :: ds) S2)
    | some _ => .bad
  | none => .bad
theorem imp_meth {C m : Str} {f : List D → Sto → R D} {to : TE} {ta : TA} {fo : Env → Sto → R D} {fa : Env → Sto → R (List D)} {E : XK} (ho : Imp K W (vr K) to fo) (ha : Imp K W (vrs K) ta fa) : Imp K W (vr K) (tMeth (He.ga K C) m (spF K f) [] E to ta) (xMeth C m f fo fa) :=
  imp_bind (tb := fun (x : V) σ H1 (Q : VK) => ∃ a dx fs, x = .ref a ∧ H1 a = some (.ins (He.ga K C) dx fs) ∧ fs.lookup m = none ∧ ta σ H1 fun vs H2 => spF K f (x :: (vs ++ [])) H2 Q E) ho fun φ S H env σ x v rl e hv Q p => by
    split at p
    · rename_i l fs hi
      split at p
      · rename_i hm
        obtain ⟨rfl, rfl, _, dx, fv, q1, q2⟩ := insX_inv rl hi hv
        refine ⟨_, dx, fv, rfl, q1, q2.lookup_none hm, ha.go rl e p fun φ1 S1 H1 ds vs f1 r1 _ hvs p1 => ?_⟩
        rw [List.append_nil]
        obtain ⟨d, S2, hf, p1⟩ := nox_inv p1
        exact ⟨φ1, S1, _, r1, .cons (VR.fut f1 hv) hvs, by rw [hf]; exact p1⟩
      · exact p.elim
    · exact p.elim
def xMethX (C m : Str) (f : List D → Sto → R D) (fo : Env → Sto → R D) (fa : Env → Sto → R (List D)) : Env → Sto → R D := fun env S => (fo env S).bind fun x S1 => match insX S1 C x with
  | some (_, fs) => match fs.lookup m with
    | none => (fa env S1).bind fun ds S2 => f (x :: ds) S2
    | some _ => .bad
  | none => .bad
theorem imp_methX {C m : Str} {f : List D → Sto → R D} {to : TE} {ta : TA} {fo : Env → Sto → R D} {fa : Env → Sto → R (List D)} (ho : Imp K W (vr K) to fo) (ha : Imp K W (vrs K) ta fa) : Imp K W (vr K) (tMethS (He.ga K C) m (spF K f) (WE W.wx) to ta) (xMethX C m f fo fa) :=
  imp_bind (tb := fun (x : V) σ H1 (Q : VK) => ∃ a dx fs, x = .ref a ∧ H1 a = some (.ins (He.ga K C) dx fs) ∧ fs.lookup m = none ∧ ta σ H1 fun vs H2 => spF K f (x :: vs) H2 Q (WE W.wx σ)) ho fun φ S H env σ x v rl e hv Q p => by
    split at p
    · rename_i l fs hi
      split at p
      · rename_i hm
        obtain ⟨rfl, rfl, _, dx, fv, q1, q2⟩ := insX_inv rl hi hv
        exact ⟨_, dx, fv, rfl, q1, q2.lookup_none hm, ha.go rl e p fun φ1 S1 H1 ds vs f1 r1 _ hvs p1 => ⟨φ1, S1, _, r1, .cons (VR.fut f1 hv) hvs, p1⟩⟩
      · exact p.elim
    · exact p.elim
/-- C(..) -/
def xMake (C : Str) (f : List D → Sto → R D) (fa : Env → Sto → R (List D)) : Env → Sto → R D := fun env S => (fa env S).bind fun ds S1 => match f (.ref S1.length :: ds) (S1 ++ [.ins C []]) with
  | .ok .non S2 => .ok (.ref S1.length) S2
  | _ => .bad
theorem imp_make {C : Str} {f : List D → Sto → R D} {ta : TA} {fa : Env → Sto → R (List D)} {E : XK} (ha : Imp K W (vrs K) ta fa) : Imp K W (vr K) (tMake (He.ga K C) (spF K f) [] E ta) (xMake C f fa) :=
  imp_bind (tb := fun (vs : List V) _ H1 (Q : VK) => ∀ x dx, H1 x = none → H1 dx = none → dx ≠ x → spF K f (.ref x :: (vs ++ [])) (upd (upd H1 dx (.own x)) x (.ins (He.ga K C) dx [])) (fun v H2 => v = .non ∧ Q (.ref x) H2) E) ha fun φ S H env σ ds vs rl e hv Q p x dx hx hd ne => by
    split at p
    · rename_i S2 hf
      have e1 : Ex H (upd H dx (.own x)) := Ex.new hd
      have hx1 : (upd H dx (.own x)) x = none := by rw [upd_ne ne.symm]; exact hx
      have r1 := (rl.ex e1).new (o := .ins C []) (u := .ins (He.ga K C) dx []) hx1 ⟨dx, [], upd_same, .nil⟩
      have f1 : Fut K φ S.length H (nxt φ S.length x) (S ++ [O.ins C []]).length (upd (upd H dx (.own x)) x (.ins (He.ga K C) dx [])) := by
        rw [List.length_append]
        exact (Fut.ex e1).trans (Fut.new hx1)
      have hr := VR.ref (K := K) (φ := nxt φ S.length x) (n := (S ++ [O.ins C []]).length) (H := upd (upd H dx (.own x)) x (.ins (He.ga K C) dx [])) (l := S.length) (by simp)
      rw [nxt_at] at hr
      refine ⟨_, _, _, r1, .cons hr (by rw [List.append_nil]; exact hv.fut f1), ?_⟩
      rw [hf]
      intro φ' H' v f' r' hv'
      cases hv'
      refine ⟨rfl, ?_⟩
      have q := p φ' H' (.ref (φ' S.length)) (f1.trans f') r' (VR.ref (Nat.lt_of_lt_of_le (by simp) f'.le))
      rw [f'.ag _ (by simp), nxt_at] at q
      exact q
    · exact p.elim
end
end Mi

namespace Mi
open PySem PySem.Spec PyProof.Rows L2 Evl My
/-! ### the first part first -/
def RS.turn (r : RS) (g : Env → Sto → RS) : RS := match r with
  | .nx e S => g e S
  | .ct e S => g e S
  | q => q
def R.bindE (r : R Env) (g : Env → Sto → RS) : RS := match r with
  | .ok e S => g e S
  | _ => .bad
@[simp] theorem turn_nx {e : Env} {S : Sto} {g : Env → Sto → RS} : (RS.nx e S).turn g = g e S := rfl
@[simp] theorem turn_ct {e : Env} {S : Sto} {g : Env → Sto → RS} : (RS.ct e S).turn g = g e S := rfl
@[simp] theorem turn_ret {d : D} {S : Sto} {g : Env → Sto → RS} : (RS.ret d S).turn g = .ret d S := rfl
@[simp] theorem turn_bk {e : Env} {S : Sto} {g : Env → Sto → RS} : (RS.bk e S).turn g = .bk e S := rfl
@[simp] theorem turn_exc {c : Str} {fs : List (Str × D)} {e : Env} {S : Sto} {g : Env → Sto → RS} : (RS.exc c fs e S).turn g = .exc c fs e S := rfl
@[simp] theorem bindE_ok {e : Env} {S : Sto} {g : Env → Sto → RS} : (R.ok e S).bindE g = g e S := rfl
open Classical in
theorem loopX_cons {ok : Sto → Prop} {fg : XG} {fb : Env → Sto → RS} {x : D} {r : List D} {env : Env} {S : Sto} (h : ok S) : loopX ok fg fb (x :: r) env S = (fg x env S).bindE fun e1 S1 => (fb e1 S1).turn (loopX ok fg fb r) := by
  rw [loopX, if_pos h]
  cases fg x env S with
  | ok e1 S1 =>
    simp only [bindE_ok]
    cases fb e1 S1 <;> rfl
  | _ => rfl
open Classical in
theorem loopX_nil {ok : Sto → Prop} {fg : XG} {fb : Env → Sto → RS} {env : Env} {S : Sto} (h : ok S) : loopX ok fg fb [] env S = .nx env S := by rw [loopX, if_pos h]
theorem whileX_succ {ft : Env → Sto → R Bool} {fb : Env → Sto → RS} {k : Nat} {env : Env} {S : Sto} : whileX ft fb (k + 1) env S = (ft env S).bindS env fun b S1 => if b = true then (fb env S1).turn (whileX ft fb k) else .nx env S1 := by
  rw [whileX]
  congr 1
/-! ### reckoning in the store -/
theorem str_beq (a b : Str) : (a == b) = decide (a = b) := by rw [Bool.eq_iff_iff]; simp
section
variable {S S' : Sto} {l i : Nat} {o : O} {xs : List D}
theorem at_set {j : Nat} : at_ (S.set i o) j = if i = j then (if i < S.length then some o else none) else at_ S j := by
  unfold at_
  rw [List.getElem?_set]
theorem at_set_eq (h : i < S.length) : at_ (S.set i o) i = some o := List.getElem?_set_self h
theorem at_set_ne (h : i ≠ l) : at_ (S.set i o) l = at_ S l := List.getElem?_set_ne h
theorem at_app (h : at_ S l = some o) {T : Sto} : at_ (S ++ T) l = some o := by
  unfold at_ at *
  rw [List.getElem?_append_left (List.getElem?_eq_some_iff.mp h).1]
  exact h
theorem at_app_lt (h : l < S.length) {T : Sto} : at_ (S ++ T) l = at_ S l := List.getElem?_append_left h
theorem at_new {T : Sto} : at_ (S ++ o :: T) S.length = some o := by simp [at_]
theorem rdL_at : rdL S l = (match at_ S l with
  | some (.lst xs) => some xs
  | some (.rol xs) => some xs
  | _ => none) := rfl
theorem rdL_lst (h : at_ S l = some (.lst xs)) : rdL S l = some xs := by simp [rdL, h]
theorem rdL_set_ne (h : i ≠ l) : rdL (S.set i o) l = rdL S l := by unfold rdL; rw [at_set_ne h]
theorem rdL_set_eq (h : i < S.length) : rdL (S.set i (.lst xs)) i = some xs := rdL_lst (at_set_eq h)
theorem rdL_app (h : rdL S l = some xs) {T : Sto} : rdL (S ++ T) l = some xs := by
  unfold rdL at h ⊢
  rw [at_app_lt (rdL_lt (S := S) (l := l) (xs := xs) (by unfold rdL; exact h))]
  exact h
theorem rdL_new {T : Sto} : rdL (S ++ O.lst xs :: T) S.length = some xs := rdL_lst at_new
theorem rdL_of_at {S' : Sto} (e : at_ S' l = at_ S l) (h : rdL S l = some xs) : rdL S' l = some xs := by
  unfold rdL at h ⊢
  rw [e]
  exact h
theorem at_app_ge {T : Sto} {k : Nat} : at_ (S ++ T) (S.length + k) = at_ T k := by
  unfold at_
  rw [List.getElem?_append_right (by omega), Nat.add_sub_cancel_left]
theorem at_app_self {T : Sto} : at_ (S ++ T) S.length = at_ T 0 := at_app_ge (k := 0)
theorem at_zero {T : Sto} : at_ (o :: T) 0 = some o := rfl
theorem at_succ {T : Sto} {k : Nat} : at_ (o :: T) (k + 1) = at_ T k := by simp [at_]
theorem rdL_app_ge {T : Sto} {k : Nat} : rdL (S ++ T) (S.length + k) = rdL T k := by unfold rdL; rw [at_app_ge]
theorem rdL_app_self {T : Sto} : rdL (S ++ T) S.length = rdL T 0 := rdL_app_ge (k := 0)
theorem rdL_zero {T : Sto} : rdL (.lst xs :: T) 0 = some xs := rfl
theorem rdL_succ {T : Sto} {k : Nat} : rdL (o :: T) (k + 1) = rdL T k := by unfold rdL; rw [at_succ]
theorem rdL_app_lt (h : l < S.length) {T : Sto} : rdL (S ++ T) l = rdL S l := by unfold rdL; rw [at_app_lt h]
/-- all below n but what lies in [b, b + k) is as it was -/
structure Frm (b k : Nat) (S S' : Sto) : Prop where
  le : S.length ≤ S'.length
  eq : ∀ i, i < S.length → ¬ (b ≤ i ∧ i < b + k) → at_ S' i = at_ S i
theorem Frm.refl {b k : Nat} : Frm b k S S := ⟨Nat.le_refl _, fun _ _ _ => rfl⟩
theorem Frm.trans {b k : Nat} {S1 S2 : Sto} (a : Frm b k S S1) (c : Frm b k S1 S2) : Frm b k S S2 := ⟨Nat.le_trans a.le c.le, fun i h n => (c.eq i (Nat.lt_of_lt_of_le h a.le) n).trans (a.eq i h n)⟩
theorem Frm.set {b k j : Nat} (h : b ≤ j ∧ j < b + k) : Frm b k S (S.set j o) := ⟨by simp, fun i _ n => List.getElem?_set_ne (fun z => n (by rw [← z]; exact h))⟩
theorem Frm.app {b k : Nat} {T : Sto} : Frm b k S (S ++ T) := ⟨by simp, fun i h _ => List.getElem?_append_left h⟩
theorem Frm.get {b k : Nat} (f : Frm b k S S') (h : at_ S l = some o) (n : ¬ (b ≤ l ∧ l < b + k)) : at_ S' l = some o := by rw [f.eq l (at_lt h) n]; exact h
theorem Frm.rd {b k : Nat} (f : Frm b k S S') (h : rdL S l = some xs) (n : ¬ (b ≤ l ∧ l < b + k)) : rdL S' l = some xs := rdL_of_at (f.eq l (rdL_lt h) n) h
end
/-! ### comprehensions that leave the store -/
theorem lc_pure {ok : Sto → Prop} {fg : XG} {ft : Env → Sto → R Bool} {fe : Env → Sto → R D} {env0 : Env} {S : Sto} (g : D → Option D) : ∀ (items : List D) (acc : List D), (∀ acc, ok (S ++ [.lst acc])) →
    (∀ x ∈ items, ∀ acc, ∃ e1, fg x env0 (S ++ [.lst acc]) = .ok e1 (S ++ [.lst acc]) ∧ (match g x with
      | some y => ft e1 (S ++ [.lst acc]) = .ok true (S ++ [.lst acc]) ∧ fe e1 (S ++ [.lst acc]) = .ok y (S ++ [.lst acc])
      | none => ft e1 (S ++ [.lst acc]) = .ok false (S ++ [.lst acc]))) →
    acc.length + items.length < 100000 → compX ok fg ft fe env0 S.length items (S ++ [.lst acc]) = .ok (.ref S.length) (S ++ [.lst (acc ++ items.filterMap g)])
  | [], acc, hok, _, _ => by simp [compX, hok]
  | x :: r, acc, hok, ht, hl => by
    obtain ⟨e1, h1, h2⟩ := ht x List.mem_cons_self acc
    rw [List.length_cons] at hl
    have ht' : ∀ y ∈ r, _ := fun y hy => ht y (List.mem_cons_of_mem _ hy)
    rw [compX, if_pos (hok acc), h1]
    cases hg : g x with
    | none =>
      rw [hg] at h2
      simp only [h2]
      rw [lc_pure g r acc hok ht' (by omega), List.filterMap_cons_none hg]
    | some y =>
      rw [hg] at h2
      simp only [h2.1, h2.2]
      have hs : at_ (S ++ [O.lst acc]) S.length = some (.lst acc) := by simp [at_]
      have hset : (S ++ [O.lst acc]).set S.length (.lst (acc ++ [y])) = S ++ [.lst (acc ++ [y])] := by simp
      rw [hs]
      simp only
      rw [if_pos (by omega), hset, lc_pure g r (acc ++ [y]) hok ht' (by simp; omega), List.filterMap_cons_some hg]
      simp
/-- .. each item gives one -/
theorem lc_map {ok : Sto → Prop} {fg : XG} {fe : Env → Sto → R D} {env0 : Env} {S : Sto} (g : D → D) (items : List D) (hok : ∀ acc, ok (S ++ [.lst acc]))
    (ht : ∀ x ∈ items, ∀ acc, ∃ e1, fg x env0 (S ++ [.lst acc]) = .ok e1 (S ++ [.lst acc]) ∧ fe e1 (S ++ [.lst acc]) = .ok (g x) (S ++ [.lst acc])) (hl : items.length < 100000) :
    compX ok fg xYes fe env0 S.length items (S ++ [.lst []]) = .ok (.ref S.length) (S ++ [.lst (items.map g)]) := by
  have := lc_pure (ok := ok) (fg := fg) (ft := xYes) (fe := fe) (env0 := env0) (S := S) (fun x => some (g x)) items [] hok (fun x hx acc => by
    obtain ⟨e1, h1, h2⟩ := ht x hx acc
    exact ⟨e1, h1, rfl, h2⟩) (by simpa using hl)
  rw [this]
  simp
theorem rngD_mem {lo : Int} {k : Nat} {x : D} (h : x ∈ rngD lo k) : ∃ i : Nat, i < k ∧ x = .int (lo + (i : Int)) := by
  obtain ⟨i, hi, rfl⟩ := List.mem_map.mp h
  exact ⟨i, List.mem_range.mp hi, rfl⟩
/-! ### loops by a word -/
def Exits : RS → Prop
  | .ret _ _ => True
  | .bk _ _ => True
  | .exc _ _ _ _ => True
  | _ => False
theorem loop_run {ok : Sto → Prop} {fg : XG} {fb : Env → Sto → RS} (I : Nat → Env → Sto → Prop) (F : RS → Prop) : ∀ (items : List D) (k : Nat) (env : Env) (S : Sto), (∀ i env S, i ≤ k + items.length → I i env S → ok S) →
    (∀ (i : Nat) x env S, items[i]? = some x → I (k + i) env S → ∃ e1 S1, fg x env S = .ok e1 S1 ∧ ((∃ e S', (fb e1 S1 = .nx e S' ∨ fb e1 S1 = .ct e S') ∧ I (k + i + 1) e S') ∨ (F (fb e1 S1) ∧ Exits (fb e1 S1)))) → I k env S →
    (∃ e S', loopX ok fg fb items env S = .nx e S' ∧ I (k + items.length) e S') ∨ (F (loopX ok fg fb items env S) ∧ Exits (loopX ok fg fb items env S))
  | [], k, env, S, hok, _, h => .inl ⟨env, S, by rw [loopX, if_pos (hok k env S (by simp) h)], h⟩
  | x :: r, k, env, S, hok, turn, h => by
    rw [loopX, if_pos (hok k env S (by simp) h)]
    obtain ⟨e1, S1, h1, h2⟩ := turn 0 x env S rfl h
    rw [h1]
    simp only
    have next : ∀ e S', I (k + 1) e S' → (∃ e2 S2, loopX ok fg fb r e S' = .nx e2 S2 ∧ I (k + (x :: r).length) e2 S2) ∨ (F (loopX ok fg fb r e S') ∧ Exits (loopX ok fg fb r e S')) := fun e S' hI => by
      have := loop_run I F r (k + 1) e S' (fun i env S hi => hok i env S (by rw [List.length_cons]; omega)) (fun i y env S hy hI => by
        have := turn (i + 1) y env S hy (by rw [show k + (i + 1) = k + 1 + i by omega]; exact hI)
        rw [show k + (i + 1) = k + 1 + i by omega] at this
        exact this) hI
      rw [show k + (x :: r).length = k + 1 + r.length by rw [List.length_cons]; omega]
      exact this
    rcases h2 with ⟨e, S', h3, h4⟩ | ⟨h3, h4⟩
    · rcases h3 with h3 | h3
      · rw [h3]
        exact next e S' h4
      · rw [h3]
        exact next e S' h4
    · cases hb : fb e1 S1 with
      | nx e S' => rw [hb] at h4; exact h4.elim
      | ct e S' => rw [hb] at h4; exact h4.elim
      | bad => rw [hb] at h4; exact h4.elim
      | ret d S' => rw [hb] at h3; exact .inr ⟨h3, trivial⟩
      | bk e S' => rw [hb] at h3; exact .inr ⟨h3, trivial⟩
      | exc c fs e S' => rw [hb] at h3; exact .inr ⟨h3, trivial⟩
/-- no way out within -/
theorem loop_all {ok : Sto → Prop} {fg : XG} {fb : Env → Sto → RS} {items : List D} {env : Env} {S : Sto} (I : Nat → Env → Sto → Prop) (hok : ∀ i env S, i ≤ items.length → I i env S → ok S)
    (turn : ∀ (i : Nat) x env S, items[i]? = some x → I i env S → ∃ e1 S1, fg x env S = .ok e1 S1 ∧ ∃ e S', (fb e1 S1 = .nx e S' ∨ fb e1 S1 = .ct e S') ∧ I (i + 1) e S') (h : I 0 env S) :
    ∃ e S', loopX ok fg fb items env S = .nx e S' ∧ I items.length e S' := by
  rcases loop_run (ok := ok) (fg := fg) (fb := fb) I (fun _ => False) items 0 env S (fun i env S hi => hok i env S (by omega)) (fun i x env S hx hI => by
    rw [Nat.zero_add] at hI
    obtain ⟨e1, S1, h1, h2⟩ := turn i x env S hx hI
    exact ⟨e1, S1, h1, .inl (by rw [Nat.zero_add]; exact h2)⟩) h with h1 | h1
  · rw [Nat.zero_add] at h1
    exact h1
  · exact h1.1.elim
/-- some way out -/
theorem loop_or {ok : Sto → Prop} {fg : XG} {fb : Env → Sto → RS} {items : List D} {env : Env} {S : Sto} (I : Nat → Env → Sto → Prop) (F : RS → Prop) (hok : ∀ i env S, i ≤ items.length → I i env S → ok S)
    (turn : ∀ (i : Nat) x env S, items[i]? = some x → I i env S → ∃ e1 S1, fg x env S = .ok e1 S1 ∧ ((∃ e S', (fb e1 S1 = .nx e S' ∨ fb e1 S1 = .ct e S') ∧ I (i + 1) e S') ∨ (F (fb e1 S1) ∧ Exits (fb e1 S1)))) (h : I 0 env S) :
    (∃ e S', loopX ok fg fb items env S = .nx e S' ∧ I items.length e S') ∨ (F (loopX ok fg fb items env S) ∧ Exits (loopX ok fg fb items env S)) := by
  have := loop_run (ok := ok) (fg := fg) (fb := fb) I F items 0 env S (fun i env S hi => hok i env S (by omega)) (fun i x env S hx hI => by
    rw [Nat.zero_add] at hI
    rw [Nat.zero_add]
    exact turn i x env S hx hI) h
  rw [Nat.zero_add] at this
  exact this
theorem atI_of {α : Type} {xs : List α} {i : Int} {x : α} (h0 : 0 ≤ i) (h : xs[i.toNat]? = some x) : atI xs i = some x := by
  have := (List.getElem?_eq_some_iff.mp h).1
  unfold atI ixN
  rw [if_pos h0, if_pos (by omega)]
  exact h
theorem ixN_of {n : Nat} {i : Int} (h0 : 0 ≤ i) (h : i < n) : ixN n i = some i.toNat := by
  unfold ixN
  rw [if_pos h0, if_pos h]
theorem erase_map {α β : Type} {f : α → β} : ∀ {l : List α} {i : Nat}, (l.map f).eraseIdx i = (l.eraseIdx i).map f
  | [], _ => by simp
  | _ :: _, 0 => rfl
  | _ :: r, i + 1 => by simp [List.eraseIdx_cons_succ, erase_map (l := r) (i := i)]
theorem seqIx {n : Nat} {i : Int} (h0 : 0 ≤ i) (h : i < n) : seqIndex? i n = some i.toNat := by
  unfold seqIndex?
  have h1 : ¬ i < 0 := by omega
  simp [h1, h0, h]
end Mi

namespace Mi
open PySem PySem.Spec PyProof.Rows L2 Evl My
/-! ### the law itself -/
theorem law_in {K : PySem.W.Frag} {f : List D → Sto → R D} (h : ∀ (o : O) (ns : List Int), (o = .lst (ns.map .int) ∨ o = .rol (ns.map .int)) → ns.length ≤ 63 → ∃ S', f [.ref 0] [o] = .ok (.bl true) S') : ∀ vs H Q E, My.spLaw K vs H Q E → spF K f vs H Q E := fun vs H Q E ⟨a, ns, hv, hS, hl, q⟩ => by
  subst hv
  have go : ∀ o : O, (o = .lst (ns.map .int) ∨ o = .rol (ns.map .int)) → OR K (fun _ => a) 1 H a o → spF K f [.ref a] H Q E := fun o ho hO => by
    obtain ⟨S', hf⟩ := h o ns ho hl
    refine ⟨fun _ => a, [o], [.ref 0], ⟨fun i j oi oj hi hj _ _ _ => ?_, fun l oo hl => ?_⟩, .cons (.ref (l := 0) (by simp)) .nil, ?_⟩
    · have h1 := (List.getElem?_eq_some_iff.mp hi).1
      have h2 := (List.getElem?_eq_some_iff.mp hj).1
      simp at h1 h2
      omega
    · have h1 := (List.getElem?_eq_some_iff.mp hl).1
      simp at h1
      subst h1
      cases hl
      exact hO
    · rw [hf]
      intro φ' H' v _ _ hv
      cases hv
      exact q H'
  rcases hS with (hS | ⟨o, hS⟩) | hS
  · exact go (.lst (ns.map .int)) (.inl rfl) ⟨_, hS, VRs.ints ns⟩
  · exact go (.rol (ns.map .int)) (.inr rfl) ⟨_, .inl ⟨o, hS⟩, VRs.ints ns⟩
  · exact go (.rol (ns.map .int)) (.inr rfl) ⟨_, .inr fun H' => .inr hS, VRs.ints ns⟩
end Mi

namespace Mi
open PySem PySem.Spec PyProof.Rows L2 Evl My
section
variable {K : PySem.W.Frag} {φ φ1 φ' : Nat → Addr} {n n1 n' : Nat} {H H1 H' : Hp} {X : XK} {W : Wc K} {S : Sto} {α β γ δ : Type} {ρ : Rl α β}
/-! ### a call of a def that raises, where no error is awaited -/
theorem imp_callX0 {f : List D → Sto → R D} {ta : TA} {fa : Env → Sto → R (List D)} {E : L2.St → XK} (ha : Imp K W (vrs K) ta fa) : Imp K W (vr K) (tCallS (spF K f) E ta) (xCall f fa) :=
  imp_bind (tb := fun (vs : List V) σ H (Q : VK) => spF K f vs H Q (E σ)) ha fun φ S H env σ x v rl e hv Q p => by
    obtain ⟨d, S1, hf, p⟩ := nox_inv p
    exact ⟨φ, S, x, rl, hv, by rw [hf]; exact p⟩
theorem imp_methX0 {C m : Str} {f : List D → Sto → R D} {to : TE} {ta : TA} {fo : Env → Sto → R D} {fa : Env → Sto → R (List D)} {E : L2.St → XK} (ho : Imp K W (vr K) to fo) (ha : Imp K W (vrs K) ta fa) : Imp K W (vr K) (tMethS (He.ga K C) m (spF K f) E to ta) (xMeth C m f fo fa) :=
  imp_bind (tb := fun (x : V) σ H1 (Q : VK) => ∃ a dx fs, x = .ref a ∧ H1 a = some (.ins (He.ga K C) dx fs) ∧ fs.lookup m = none ∧ ta σ H1 fun vs H2 => spF K f (x :: vs) H2 Q (E σ)) ho fun φ S H env σ x v rl e hv Q p => by
    split at p
    · rename_i l fs hi
      split at p
      · rename_i hm
        obtain ⟨rfl, rfl, _, dx, fv, q1, q2⟩ := insX_inv rl hi hv
        refine ⟨_, dx, fv, rfl, q1, q2.lookup_none hm, ha.go rl e p fun φ1 S1 H1 ds vs f1 r1 _ hvs p1 => ?_⟩
        obtain ⟨d, S2, hf, p1⟩ := nox_inv p1
        exact ⟨φ1, S1, _, r1, .cons (VR.fut f1 hv) hvs, by rw [hf]; exact p1⟩
      · exact p.elim
    · exact p.elim
/-! ### raise -/
/-- how an error's fields come of its arguments -/
structure ErrD (K : PySem.W.Frag) (ok : List V → Prop) (fs : List V → List (Str × V)) (g : List D → Option (List (Str × D))) : Prop where
  of : ∀ {φ n H ds vs ef}, g ds = some ef → VRs K φ n H ds vs → ok vs ∧ vs.length ≤ 1000 ∧ KR K φ n H ef (fs vs)
def xRaise (C : Str) (g : List D → Option (List (Str × D))) (fa : Env → Sto → R (List D)) : Env → Sto → RS := fun env S => (fa env S).bindS env fun ds S1 => match g ds with
  | some ef => .exc C ef env S1
  | none => .bad
theorem imp_raise {C : Str} {ok : List V → Prop} {fs : List V → List (Str × V)} {g : List D → Option (List (Str × D))} {ta : TA} {fa : Env → Sto → R (List D)} (G : ErrD K ok fs g) (ha : Imp K W (vrs K) ta fa) :
    ImpS K W (fun _ σ H => tMkO (He.ga K C) (My.spXinit K (He.ga K C) ok fs) [] ta σ H fun cls d H' => W.wx cls d σ H') (xRaise C g fa) := by
  intro φ S H env σ r e D p
  refine ha.goS (tb := fun vs H1 => vs.length ≤ 1000 ∧ ∀ a, H1 a = none → My.spXinit K (He.ga K C) ok fs (.ref a :: (vs ++ [])) (upd H1 a (exo a (He.ga K C) none)) _ _) r e p fun φ1 S1 H1 ds vs f1 r1 e1 hv p1 => ?_
  split at p1
  · rename_i ef hg
    obtain ⟨h0, hl, hk⟩ := G.of hg hv
    refine ⟨hl, fun a na => ⟨a, vs, by rw [List.append_nil], h0, upd_same, fun d H' nd da h1 h2 kp => ⟨rfl, d, fs vs, h1, h2, by
      rw [upd_ne da] at nd
      exact nd, ?_⟩⟩⟩
    have nd' : H1 d = none := by
      rw [upd_ne da] at nd
      exact nd
    have ex : Ex H1 (upd (del H' a) d (.xd (fs vs))) := fun b o hb => by
      have hba : b ≠ a := ne_of_none hb na
      have hbd : b ≠ d := ne_of_none hb nd'
      rw [upd_ne hbd, del_ne hba]
      exact kp b o hba (by rw [upd_ne hba]; exact hb)
    exact p1 φ1 _ σ d (fs vs) (Fut.ex ex) (r1.ex ex) (e1.fut (Fut.ex ex)).e upd_same (hk.fut (Fut.ex ex))
  · exact p1.elim
/-! ### try .. except -/
/-- what is known of the error that a suite holds -/
def WErr (W : Wc K) (a dd : Addr) (l : Nat) (ef : List (Str × D)) : Wc K := ⟨fun _ _ _ _ => False, fun φ n H => W.ctx φ n H ∧ φ l = a ∧ l < n ∧ ∃ fv, H dd = some (.xd fv) ∧ KR K φ n H ef fv, fun f ⟨h, h0, h3, fv, h1, h2⟩ => ⟨W.mono f h, (f.ag _ h3).trans h0, Nat.lt_of_lt_of_le h3 f.le, fv, f.xd _ _ h1, h2.fut f⟩⟩
/-- an error's field in its suite -/
def xErrF (C f : Str) (l : Nat) (ec : Str) (ef : List (Str × D)) (fe : Env → Sto → R D) : Env → Sto → R D := fun env S => (fe env S).bind fun x S1 => match x with
  | .ref k => if k = l ∧ ec = C then match ef.lookup f with
    | some d => .ok d S1
    | none => .bad
    else .bad
  | _ => .bad
theorem xErrF_ok {C f : Str} {l : Nat} {ef : List (Str × D)} {fe : Env → Sto → R D} {env : Env} {S1 : Sto} {d : D} (h : fe env S = .ok (.ref l) S1) (hd : ef.lookup f = some d) : xErrF C f l C ef fe env S = .ok d S1 := by simp [xErrF, h, hd]
theorem imp_errF {C f ec : Str} {ef : List (Str × D)} {a dd : Addr} {l : Nat} {te : TE} {fe : Env → Sto → R D} (he : Imp K (WErr W a dd l ef) (vr K) te fe) : Imp K (WErr W a dd l ef) (vr K) (tXf a (.ref (He.ga K ec)) (some dd) (He.ga K C) f te) (xErrF C f l ec ef fe) :=
  imp_bind (tb := fun x σ H1 (Q : VK) => x = .ref a ∧ (Value.ref (He.ga K ec)) = .ref (He.ga K C) ∧ ∃ (dd' : Addr) (fs : List (Str × V)) (v : V), some dd = some dd' ∧ H1 dd' = some (.xd fs) ∧ fs.lookup f = some v ∧ Q v H1) he fun φ S H env σ x v rl e hv Q p => by
    split at p
    · rename_i k
      split at p
      · rename_i hk
        obtain ⟨rfl, rfl⟩ := hk
        split at p
        · rename_i d hd
          obtain ⟨_, h0, _, fv, h1, h2⟩ := e.c
          obtain ⟨u, h3, h4⟩ := h2.lookup hd
          obtain ⟨_, rfl⟩ := VR.ref_inv hv
          exact ⟨by rw [h0], rfl, dd, fv, u, rfl, h1, h3, p.here rl h4⟩
        · exact p.elim
      · exact p.elim
    · exact p.elim
/-- isinstance(e, X) -/
def xIsE (C : Str) (b : Bool) (l : Nat) (ec : Str) (fe : Env → Sto → R D) : Env → Sto → R D := fun env S => (fe env S).bind fun x S1 => match x with
  | .ref k => if k = l ∧ ec = C then .ok (.bl b) S1 else .bad
  | _ => .bad
theorem xIsE_ok {C : Str} {b : Bool} {l : Nat} {fe : Env → Sto → R D} {env : Env} {S1 : Sto} (h : fe env S = .ok (.ref l) S1) : xIsE C b l C fe env S = .ok (.bl b) S1 := by simp [xIsE, h]
theorem imp_isE1 {C ec : Str} {b : Bool} {ef : List (Str × D)} {a dd : Addr} {l : Nat} {c : V} {cv : Value} {te : TE} {fe : Env → Sto → R D} (hc : ClsV c cv) (hk : PySem.W.kitOne K (.ref (He.ga K C)) cv = some b) (he : Imp K (WErr W a dd l ef) (vr K) te fe) :
    Imp K (WErr W a dd l ef) (vr K) (tCB (rIsX K (He.ga K C) a (.ref (He.ga K ec)) (some dd)) (tCons te (tCons (tC c) tNil))) (xIsE C b l ec fe) :=
  imp_bind (tb := fun (x : V) σ H1 (Q : VK) => rIsX K (He.ga K C) a (.ref (He.ga K ec)) (some dd) [x, c] H1 Q) he fun φ S H env σ x v rl e hv Q p => by
    split at p
    · rename_i k
      split at p
      · rename_i hk'
        obtain ⟨rfl, rfl⟩ := hk'
        obtain ⟨_, h0, _, fv, h1, h2⟩ := e.c
        obtain ⟨_, rfl⟩ := VR.ref_inv hv
        exact ⟨rfl, ⟨dd, fv, rfl, h1⟩, .inl ⟨c, cv, b, by rw [h0], hc, hk, p.here rl (VR.bl _)⟩⟩
      · exact p.elim
    · exact p.elim
theorem imp_isET {C ec : Str} {b : Bool} {ef : List (Str × D)} {a dd : Addr} {l : Nat} {cs : List V} {us : List Value} {te : TE} {ta : TA} {fe : Env → Sto → R D} (hc : Paired ClsV cs us) (hl : cs.length ≤ 100) (hta : ∀ σ H Q, Q cs H → ta σ H Q) (hk : PySem.W.kitAny K (.ref (He.ga K C)) us = some b)
    (he : Imp K (WErr W a dd l ef) (vr K) te fe) :
    Imp K (WErr W a dd l ef) (vr K) (tCB (rIsX K (He.ga K C) a (.ref (He.ga K ec)) (some dd)) (tCons te (tCons (tTup ta) tNil))) (xIsE C b l ec fe) :=
  imp_bind (tb := fun (x : V) σ H1 (Q : VK) => tTup ta σ H1 fun y H2 => rIsX K (He.ga K C) a (.ref (He.ga K ec)) (some dd) [x, y] H2 Q) he fun φ S H env σ x v rl e hv Q p => by
    split at p
    · rename_i k
      split at p
      · rename_i hk'
        obtain ⟨rfl, rfl⟩ := hk'
        obtain ⟨_, h0, _, fv, h1, h2⟩ := e.c
        obtain ⟨_, rfl⟩ := VR.ref_inv hv
        refine hta σ H _ ⟨sz_of (by omega), fun tp ht => ?_⟩
        have ex : Ex H (upd H tp (.tup cs)) := Ex.new ht
        exact ⟨rfl, ⟨dd, fv, rfl, ex _ _ h1⟩, .inr ⟨tp, cs, us, b, by rw [h0], upd_same, hc, hk, p.ex rl ex (VR.bl _)⟩⟩
      · exact p.elim
    · exact p.elim
def RS.unset (i : Nat) (r : RS) : RS := match r with
  | .nx e S => .nx (e.set i none) S
  | .bk e S => .bk (e.set i none) S
  | .ct e S => .ct (e.set i none) S
  | .ret d S => .ret d S
  | _ => .bad
@[simp] theorem unset_nx {i : Nat} {e : Env} : (RS.nx e S).unset i = .nx (e.set i none) S := rfl
@[simp] theorem unset_bk {i : Nat} {e : Env} : (RS.bk e S).unset i = .bk (e.set i none) S := rfl
@[simp] theorem unset_ct {i : Nat} {e : Env} : (RS.ct e S).unset i = .ct (e.set i none) S := rfl
@[simp] theorem unset_ret {i : Nat} {d : D} : (RS.ret d S).unset i = .ret d S := rfl
def CatOk (K : PySem.W.Frag) (cv : Value) (cat : List (Str × Bool)) : Prop := ∀ c b, cat.lookup c = some b → PySem.W.exmOne K (.ref (He.ga K c)) cv = some b
theorem cat_nil {cv : Value} : CatOk K cv [] := fun c b h => by cases h
theorem cat_cons {cv : Value} {c : Str} {b : Bool} {cat : List (Str × Bool)} (h : PySem.W.exmOne K (.ref (He.ga K c)) cv = some b) (r : CatOk K cv cat) : CatOk K cv ((c, b) :: cat) := fun c' b' h' => by
  rw [List.lookup_cons] at h'
  split at h'
  · rename_i hc
    cases h'
    rw [eq_of_beq hc]
    exact h
  · exact r c' b' h'
def tTryAs (K : PySem.W.Frag) (c : Value) (i : Nat) (tb : WX → TS) (ts : Addr → Value → Option Addr → TS) (Wout : WX) : TS := fun D σ H => tb (wAs K c i ts Wout D) D σ H
def tTryOnly (K : PySem.W.Frag) (c : Value) (tb : WX → TS) (ts : Addr → Value → Option Addr → TS) (Wout : WX) : TS := fun D σ H => tb (wOnly K c ts Wout D) D σ H
section
variable {X : Cx} {x n : Str} {c : Value} {i : Nat} {body suite : List Stmt} {b₀ : Stmt} {np pos pos' : Pos} {tb : WX → TS} {ts : Addr → Value → Option Addr → TS} {Wout : WX}
theorem ps_try_asK (K : PySem.W.Frag) (hs : X.stack = X.env :: X.outer) (hf : X.env.frame = some X.env.locals) (hN : X.N.Nodup) (hi : X.N[i]? = some n) (hln : X.env.kindOf n = some .local) (hc : Names X x c) (tk : Takes X Wout)
    (hb : ∀ (W : WX) (pn : List (Addr × Obj)) (xe : Value → Shared → Prop), Takes (X.tr pn xe) W → PassesOwn (model X.prog X.w) X.A X.env xe → PSs (X.tr pn xe) body (tb W))
    (hsu : ∀ (a : Addr) (oe : Obj) (cls : Value) (d : Option Addr) (pn : List (Addr × Obj)), Zc cls d oe → (∃ vs, oe.data = .fields vs) → PSs (X.suite a ((a, oe) :: pn)) (b₀ :: suite) (ts a cls d)) (hK : X.K = K := by rfl) :
    PS X (.Try body [.ExceptHandler (some (.Name x np)) (some n) (b₀ :: suite) pos'] [] [] pos) (tTryAs K c i tb ts Wout) := by
  subst hK
  exact ps_try_as hs hf hN hi hln hc tk hb hsu
theorem ps_try_onlyK (K : PySem.W.Frag) (hs : X.stack = X.env :: X.outer) (hf : X.env.frame = some X.env.locals) (hc : Names X x c) (tk : Takes X Wout)
    (hb : ∀ (W : WX) (pn : List (Addr × Obj)) (xe : Value → Shared → Prop), Takes (X.tr pn xe) W → PassesOwn (model X.prog X.w) X.A X.env xe → PSs (X.tr pn xe) body (tb W))
    (hsu : ∀ (a : Addr) (oe : Obj) (cls : Value) (d : Option Addr) (pn : List (Addr × Obj)), Zc cls d oe → (∃ vs, oe.data = .fields vs) → PSs (X.suite a ((a, oe) :: pn)) (b₀ :: suite) (ts a cls d)) (hK : X.K = K := by rfl) :
    PS X (.Try body [.ExceptHandler (some (.Name x np)) none (b₀ :: suite) pos'] [] [] pos) (tTryOnly K c tb ts Wout) := by
  subst hK
  exact ps_try_only hs hf hc tk hb hsu
end
def xTryAs (cat : List (Str × Bool)) (i : Nat) (fb : Env → Sto → RS) (fs : Nat → Str → List (Str × D) → Env → Sto → RS) : Env → Sto → RS := fun env S => match fb env S with
  | .exc c ef e S1 => match cat.lookup c with
    | some true => (fs S1.length c ef (e.set i (some (.ref S1.length))) (S1 ++ [.opq])).unset i
    | some false => .exc c ef e S1
    | none => .bad
  | r => r
theorem imp_tryAs {cv : Value} {cat : List (Str × Bool)} {i : Nat} {tb : WX → TS} {ts : Addr → Value → Option Addr → TS} {fb : Env → Sto → RS} {fs : Nat → Str → List (Str × D) → Env → Sto → RS} (hcat : CatOk K cv cat)
    (hb : ∀ wx, ImpS K ⟨wx, W.ctx, W.mono⟩ (tb wx) fb) (hs : ∀ a dd l ec ef, ImpS K (WErr W a dd l ef) (ts a (.ref (He.ga K ec)) (some dd)) (fs l ec ef)) :
    ImpS K W (tTryAs K cv i tb ts W.wx) (xTryAs cat i fb fs) := by
  intro φ S H env σ r e D p
  refine hb (wAs K cv i ts W.wx D) φ S H env σ r ⟨e.e, e.c⟩ D ?_
  unfold xTryAs at p
  cases hf : fb env S with
  | nx e1 S1 => rw [hf] at p; exact p
  | ret d S1 => rw [hf] at p; exact p
  | bk e1 S1 => rw [hf] at p; exact p
  | ct e1 S1 => rw [hf] at p; exact p
  | bad => rw [hf] at p; exact p
  | exc c ef e1 S1 =>
    rw [hf] at p
    dsimp only at p
    intro φ' H' σ' dd fv f r' er hd hk
    split at p
    · rename_i hl
      refine ⟨true, hcat _ _ hl, fun _ a na => ?_, fun z => by cases z⟩
      have f2 : Fut K φ' S1.length H' (nxt φ' S1.length a) (S1 ++ [O.opq]).length H' := by
        rw [List.length_append]
        exact Fut.newO
      have hr := VR.ref (K := K) (φ := nxt φ' S1.length a) (n := (S1 ++ [O.opq]).length) (H := H') (l := S1.length) (by simp)
      rw [nxt_at] at hr
      refine hs a dd S1.length c ef _ _ H' _ _ (r'.newO a) ⟨(er.fut f2).set i hr, W.mono (f.trans f2) e.c, nxt_at, by simp, fv, hd, hk.fut f2⟩ _ ?_
      have p2 := p.fut (f.trans f2)
      revert p2
      cases fs S1.length c ef (e1.set i (some (.ref S1.length))) (S1 ++ [O.opq]) with
      | nx e2 S2 => exact fun p2 φ2 H2 σ2 g2 r2 er2 => p2 φ2 H2 _ g2 r2 (er2.unset none i)
      | bk e2 S2 => exact fun p2 φ2 H2 σ2 g2 r2 er2 => p2 φ2 H2 _ g2 r2 (er2.unset none i)
      | ct e2 S2 => exact fun p2 φ2 H2 σ2 g2 r2 er2 => p2 φ2 H2 _ g2 r2 (er2.unset none i)
      | ret d2 S2 => exact fun p2 => p2
      | exc c2 ef2 e2 S2 => exact fun p2 => p2.elim
      | bad => exact fun p2 => p2.elim
    · rename_i hl
      refine ⟨false, hcat _ _ hl, ?_, ?_⟩
      · intro z
        cases z
      · exact fun _ => p φ' H' σ' dd fv f r' er hd hk
    · exact p.elim
def RS.noexc (r : RS) : RS := match r with
  | .exc _ _ _ _ => .bad
  | r => r
def xTryOnly (cat : List (Str × Bool)) (fb fs : Env → Sto → RS) : Env → Sto → RS := fun env S => match fb env S with
  | .exc c ef e S1 => match cat.lookup c with
    | some true => (fs e S1).noexc
    | some false => .exc c ef e S1
    | none => .bad
  | r => r
theorem imp_tryOnly {cv : Value} {cat : List (Str × Bool)} {tb : WX → TS} {ts : Addr → Value → Option Addr → TS} {fb fs : Env → Sto → RS} (hcat : CatOk K cv cat)
    (hb : ∀ wx, ImpS K ⟨wx, W.ctx, W.mono⟩ (tb wx) fb) (hs : ∀ a cls d, ImpS K ⟨fun _ _ _ _ => False, W.ctx, W.mono⟩ (ts a cls d) fs) :
    ImpS K W (tTryOnly K cv tb ts W.wx) (xTryOnly cat fb fs) := by
  intro φ S H env σ r e D p
  refine hb (wOnly K cv ts W.wx D) φ S H env σ r ⟨e.e, e.c⟩ D ?_
  unfold xTryOnly at p
  cases hf : fb env S with
  | nx e1 S1 => rw [hf] at p; exact p
  | ret d S1 => rw [hf] at p; exact p
  | bk e1 S1 => rw [hf] at p; exact p
  | ct e1 S1 => rw [hf] at p; exact p
  | bad => rw [hf] at p; exact p
  | exc c ef e1 S1 =>
    rw [hf] at p
    dsimp only at p
    intro φ' H' σ' dd fv f r' er hd hk
    split at p
    · rename_i hl
      refine ⟨true, hcat _ _ hl, fun _ a na => ?_, fun z => by cases z⟩
      refine hs a _ _ _ _ H' _ _ r' ⟨er, W.mono f e.c⟩ _ ?_
      have p2 := p.fut f
      revert p2
      cases fs e1 S1 with
      | exc c2 ef2 e2 S2 => exact fun p2 => p2.elim
      | _ => exact fun p2 => p2
    · rename_i hl
      refine ⟨false, hcat _ _ hl, ?_, ?_⟩
      · intro z
        cases z
      · exact fun _ => p φ' H' σ' dd fv f r' er hd hk
    · exact p.elim
/-! .. where no error is awaited -/
theorem ImpS.noexc {t : TS} {f : Env → Sto → RS} (h : ImpS K ⟨fun _ _ _ _ => False, W.ctx, W.mono⟩ t f) : ImpS K W t fun env S => (f env S).noexc := by
  intro φ S H env σ r e D p
  refine h φ S H env σ r ⟨e.e, e.c⟩ D ?_
  dsimp only at p
  revert p
  cases f env S with
  | exc c ef e1 S1 => exact fun p => p.elim
  | _ => exact fun p => p
def xTryAs0 (cat : List (Str × Bool)) (i : Nat) (fb : Env → Sto → RS) (fs : Nat → Str → List (Str × D) → Env → Sto → RS) : Env → Sto → RS := fun env S => (xTryAs cat i fb fs env S).noexc
theorem imp_tryAs0 {cv : Value} {cat : List (Str × Bool)} {i : Nat} {tb : WX → TS} {ts : Addr → Value → Option Addr → TS} {fb : Env → Sto → RS} {fs : Nat → Str → List (Str × D) → Env → Sto → RS} (hcat : CatOk K cv cat)
    (hb : ∀ wx, ImpS K ⟨wx, W.ctx, W.mono⟩ (tb wx) fb) (hs : ∀ a dd l ec ef, ImpS K (WErr W a dd l ef) (ts a (.ref (He.ga K ec)) (some dd)) (fs l ec ef)) :
    ImpS K W (tTryAs K cv i tb ts fun _ _ _ _ => False) (xTryAs0 cat i fb fs) := ImpS.noexc (imp_tryAs (W := ⟨fun _ _ _ _ => False, W.ctx, W.mono⟩) hcat hb hs)
def xTryOnly0 (cat : List (Str × Bool)) (fb fs : Env → Sto → RS) : Env → Sto → RS := fun env S => (xTryOnly cat fb fs env S).noexc
theorem imp_tryOnly0 {cv : Value} {cat : List (Str × Bool)} {tb : WX → TS} {ts : Addr → Value → Option Addr → TS} {fb fs : Env → Sto → RS} (hcat : CatOk K cv cat)
    (hb : ∀ wx, ImpS K ⟨wx, W.ctx, W.mono⟩ (tb wx) fb) (hs : ∀ a cls d, ImpS K ⟨fun _ _ _ _ => False, W.ctx, W.mono⟩ (ts a cls d) fs) :
    ImpS K W (tTryOnly K cv tb ts fun _ _ _ _ => False) (xTryOnly0 cat fb fs) := ImpS.noexc (imp_tryOnly (W := ⟨fun _ _ _ _ => False, W.ctx, W.mono⟩) hcat hb hs)
end
end Mi

namespace Mi
open PySem PySem.Spec PyProof.Rows L2 Evl My
/-! ### text * int -/
def strRepS (x : Str) (n : Int) : Str := if n < 1 then Str.empty else if (n == 1 || x.length == 0) = true then x else ⟨(List.replicate n.toNat x.cps).foldl (· ++ ·) #[]⟩
def rMulS : R2 := fun x y H Q => ∃ (a : Str) (n : Int), x = .str a ∧ y = .int n ∧ a.length ≤ 1000 ∧ -1000 ≤ n ∧ n ≤ 1000 ∧ Q (.str (strRepS a n)) H
theorem op_mulS {X : Cx} : OpR X (binaryOp .Mult) rMulS := by
  intro pins s σ H x y v u Q I rx ry h
  obtain ⟨a, n, rfl, rfl, h1, h2, h3, q⟩ := h
  obtain ⟨t, rfl⟩ := rx
  obtain ⟨t', rfl⟩ := ry
  have hm : a.length * n.toNat ≤ 1000 * 1000 := Nat.mul_le_mul h1 (by omega)
  have hlen : Builtin.Str.tooLong (a.length * n.toNat) = false := decide_eq_false (by rw [sizeLine_eq]; omega)
  refine P.mul_str (by
    have e1 : ¬ n < -(2 ^ 63 : Int) := by omega
    have e2 : ¬ n ≥ 2 ^ 63 := by omega
    rw [decide_eq_false e1, decide_eq_false e2]; rfl) (fun hn _ => ?_) (fun _ _ => hlen) ?_
  · have : (1000 : Int) ≤ (2 ^ 63 - 1) / n := by
      rw [Int.le_ediv_iff_mul_le (by omega)]
      omega
    omega
  · unfold strRepS at q
    split
    · rename_i hn
      rw [if_pos hn] at q
      exact ⟨by decide, .str _, H, I.tok _, ⟨_, rfl⟩, q⟩
    · rename_i hn
      rw [if_neg hn] at q
      split
      · rename_i hn1
        rw [if_pos hn1] at q
        exact ⟨.str _, H, I, ⟨_, rfl⟩, q⟩
      · rename_i hn1
        rw [if_neg hn1] at q
        exact ⟨fits_reps hlen, .str _, H, I.tok _, ⟨_, rfl⟩, q⟩
section
variable {K : PySem.W.Frag} {φ φ1 φ' : Nat → Addr} {n n1 n' : Nat} {H H1 H' : Hp} {X : XK} {W : Wc K} {S : Sto} {α β γ δ : Type} {ρ : Rl α β}
def oMulS : D → D → Sto → R D := fun x y S => match x, y with
  | .str a, .int n => if a.length ≤ 1000 ∧ -1000 ≤ n ∧ n ≤ 1000 then .ok (.str (strRepS a n)) S else .bad
  | _, _ => .bad
theorem oMulS_eq {a : Str} {n : Int} (h : a.length ≤ 1000) (h1 : -1000 ≤ n) (h2 : n ≤ 1000) : oMulS (.str a) (.int n) S = .ok (.str (strRepS a n)) S := by simp [oMulS, h, h1, h2]
theorem opi_mulS : OpI K rMulS oMulS := by
  intro φ S H x y v w X r hx hy Q p
  unfold oMulS at p
  split at p
  · split at p
    · rename_i hc
      cases hx; cases hy
      exact ⟨_, _, rfl, rfl, hc.1, hc.2.1, hc.2.2, p.here r (VR.str _)⟩
    · exact p.elim
  · exact p.elim
/-! ### list(a dict), list(range(..)) -/
def keyOf : Key → D
  | .inl i => .int i
  | .inr s => .str s
theorem keyOf_vr (k : Key) : VR K φ n H (keyOf k) (kV k) := by
  cases k with
  | inl i => exact .int i
  | inr s => exact .str s
def rListDk : List V → Hp → VK → Prop := fun xs H Q => ∃ (a : Addr) (kvs : List (Key × V)), xs = [.ref a] ∧ Rd H a (.dK kvs) ∧ ∀ p, H p = none → Q (.ref p) (upd H p (.lst (kvs.map fun kv => kV kv.1)))
def bListD : List D → Sto → R D := fun ds S => match ds with
  | [.ref l] => match at_ S l with
    | some (.dK kvs) => .ok (.ref S.length) (S ++ [.lst (kvs.map fun kv => keyOf kv.1)])
    | _ => .bad
  | _ => .bad
theorem bListD_eq {l : Nat} {kvs : List (Key × D)} (h : at_ S l = some (.dK kvs)) : bListD [.ref l] S = .ok (.ref S.length) (S ++ [.lst (kvs.map fun kv => keyOf kv.1)]) := by simp [bListD, h]
theorem KR.keysV : ∀ {kvs : List (Key × D)} {kws : List (Key × V)}, KR K φ n H kvs kws → VRs K φ' n' H' (kvs.map fun kv => keyOf kv.1) (kws.map fun kv => kV kv.1)
  | _, _, .nil => .nil
  | _, _, .cons _ t => .cons (keyOf_vr _) (KR.keysV t)
theorem cbi_listD : CallI K rListDk bListD := by
  intro φ S H ds vs X r h Q p
  unfold bListD at p
  split at p
  · split at p
    · rename_i l _ kvs e
      obtain ⟨v, rfl, hv⟩ := h.one_inv
      obtain ⟨_, rfl⟩ := hv.ref_inv
      obtain ⟨kws, q1, q2⟩ := r.ob _ _ e
      exact ⟨_, kws, rfl, .inl q1, fun a ha => p.new r ha ⟨_, upd_same, q2.keysV⟩⟩
    · exact p.elim
  · exact p.elim
open Classical in
noncomputable def mkRg (a b : Int) (S : Sto) : R D := if RgOk a b then .ok (.ref S.length) (S ++ [.lst (rngD a (b - a).toNat)]) else .bad
theorem mkRg_eq {a b : Int} (h : RgOk a b) : mkRg a b S = .ok (.ref S.length) (S ++ [.lst (rngD a (b - a).toNat)]) := by simp [mkRg, h]
theorem vr_rg {a : Int} : ∀ {l : List Nat}, VRs K φ n H (l.map fun (i : Nat) => D.int (a + (i : Int))) (l.map fun (i : Nat) => V.int (a + (i : Int)))
  | [] => .nil
  | _ :: r => .cons (.int _) (vr_rg (l := r))
theorem Post.mkRg {a b : Int} {Q : VK} (r : Rel K φ S H) (p : Post K (vr K) φ S.length H X (mkRg a b S) Q) : RgOk a b ∧ ∀ q, H q = none → Q (.ref q) (upd H q (.lst (rgV a b))) := by
  unfold Mi.mkRg at p
  split at p
  · rename_i ok
    exact ⟨ok, fun q hq => p.new r hq ⟨_, upd_same, vr_rg⟩⟩
  · exact p.elim
noncomputable def xLRg1 (fa : Env → Sto → R D) : Env → Sto → R D := fun env S => (fa env S).bind fun x S1 => match x with
  | .int b => mkRg 0 b S1
  | _ => .bad
theorem imp_lrg1 {ta : TE} {fa : Env → Sto → R D} (ha : Imp K W (vr K) ta fa) : Imp K W (vr K) (tLstRg (tRg1 ta)) (xLRg1 fa) :=
  imp_bind (tb := fun (x : V) σ H1 (Q : VK) => ∃ m, x = .int m ∧ (RgOk 0 m ∧ ∀ q, H1 q = none → Q (.ref q) (upd H1 q (.lst (rgV 0 m))))) ha fun φ S H env σ x v rl e hv Q p => by
    split at p
    · cases VR.int_inv hv
      exact ⟨_, rfl, Post.mkRg rl p⟩
    · exact p.elim
noncomputable def xLRg2 (fa fb : Env → Sto → R D) : Env → Sto → R D := fun env S => (fa env S).bind fun x S1 => (fb env S1).bind fun y S2 => match x, y with
  | .int a, .int b => mkRg a b S2
  | _, _ => .bad
theorem imp_lrg2 {ta tb : TE} {fa fb : Env → Sto → R D} (ha : Imp K W (vr K) ta fa) (hb : Imp K W (vr K) tb fb) : Imp K W (vr K) (tLstRg (tRg2 ta tb)) (xLRg2 fa fb) :=
  imp_bind (tb := fun (x : V) σ H1 (Q : VK) => tb σ H1 fun y H2 => ∃ i j, x = .int i ∧ y = .int j ∧ (RgOk i j ∧ ∀ q, H2 q = none → Q (.ref q) (upd H2 q (.lst (rgV i j))))) ha fun φ S H env σ x v rl e hv Q p => hb.go rl e p fun φ1 S1 H1 y w f1 r1 e1 hw p1 => by
    split at p1
    · cases VR.int_inv hv
      cases VR.int_inv hw
      exact ⟨_, _, rfl, rfl, Post.mkRg r1 p1⟩
    · exact p1.elim
/-! ### slices and sums of tuples -/
def oSlT : D → Option Int → Option Int → Sto → R D := fun x lo hi S => match x with
  | .tup xs => if ¬ (HT.sIx xs.length 0 lo = 0 ∧ HT.sIx xs.length xs.length hi = xs.length) then .ok (.tup (cutX xs lo hi)) S else .bad
  | _ => .bad
theorem sli_T : SlI K (rSlT K) oSlT := by
  intro φ S H x v lo hi X r hx Q p
  unfold oSlT at p
  split at p
  · split at p
    · rename_i xs hc
      obtain ⟨a, vs, rfl, q1, q2⟩ := hx.tup_inv
      refine ⟨a, vs, rfl, q1, ?_, fun b hb => ?_⟩
      · rw [q2.len]; exact hc
      · exact p.tup r hb q2.cut
    · exact p.elim
  · exact p.elim
end
end Mi
namespace My
open PySem PySem.Spec PyProof.Rows L2 Evl
theorem pe_bmK {X : Cx} {T name id : String} {r : V → List V → Hp → VK → Prop} {o e : Expr} {es : List Expr} {to : TE} {t : TA} {apos cpos : Pos} (K : PySem.W.Frag) (pa : PlainAttrs T) (slot : Slot T name id) (hty : typeOf (.builtin id) = pure (.type "method_descriptor")) (hm : MtR X id r) (ho : PE X o to) (ha : PA X (e :: es) t)
    (hK : X.K = K := by rfl)
    (hbase : attributeBase o name X.env (eval o X.env) = eval o X.env := by rfl)
    (hfew : ((backTo cpos (starEach (e :: es) X.env)).all (fun x => !x.1) && (backToKw cpos (keywordEach [] X.env)).all (fun x => x.1.isSome)
      && decide ((e :: es).length + ([] : List Keyword).length + (if ([] : List Keyword).isEmpty then 0 else 1) < 30)) = true := by rfl)
    (hline : (apos.endLine == cpos.line) = true := by rfl) (hs : starEach (e :: es) X.env = (false, eval e X.env) :: starEach es X.env := by rfl) (hplain : (backTo cpos (starEach es X.env)).any (·.1) = false := by rfl) :
    PE X (.Call (.Attribute o name apos) (e :: es) [] cpos) (tBM K T r to t) := by
  subst hK
  exact pe_bm pa slot hty hm ho ha hbase hfew hline hs hplain
/-- e.f, isinstance(e, ..) in a suite, the context left open -/
theorem pe_xfS {Y : Cx} (a : Addr) (K : PySem.W.Frag) {C : Addr} {oe : Obj} {cls : Value} {d : Option Addr} {e : Expr} {te : TE} {pos : Pos} {n : Str} (T : XcC K C) (hno : PySem.W.findIn K (.ref C) n = some none)
    (hz : Zc cls d oe) (hf : ∃ vs, oe.data = .fields vs) (he : PE Y e te) (hY : ∃ (X : Cx) (pn : List (Addr × Obj)), X.K = K ∧ Y = X.suite a ((a, oe) :: pn) := by exact ⟨_, _, rfl, rfl⟩) (hb : attributeBase e n Y.env (eval e Y.env) = eval e Y.env := by rfl) :
    PE Y (.Attribute e n pos) (tXf a cls d C n te) := by
  obtain ⟨X, pn, hK, rfl⟩ := hY
  exact pe_xfK K T hno hz hf he hK hb
theorem call_isS {Y : Cx} (a : Addr) (K : PySem.W.Frag) {D : Addr} {oe : Obj} {cls : Value} {d : Option Addr} (C : XcC K D) (hz : Zc cls d oe) (hf : ∃ vs, oe.data = .fields vs) (hY : ∃ (X : Cx) (pn : List (Addr × Obj)), X.K = K ∧ Y = X.suite a ((a, oe) :: pn) := by exact ⟨_, _, rfl, rfl⟩) :
    CallR Y (.builtin "isinstance") (rIsX K D a cls d) := by
  obtain ⟨X, pn, hK, rfl⟩ := hY
  exact call_isX K C hz hf hK
end My

namespace Mi
open PySem PySem.Spec PyProof.Rows L2 Evl My
/-! ### what is left to be shown, from left to right. The continuations are instances, so that simp leaves them alone until they are reached -/
class Cn (α : Type) where
  k : α → Sto → Prop
  x : Str → List (Str × D) → Sto → Prop
class Cx where
  n : Env → Sto → Prop
  q : RS → Prop
def wpe {α : Type} (r : R α) [K : Cn α] : Prop := match r with
  | .ok a S => K.k a S
  | .exc c fs S => K.x c fs S
  | .bad => False
def wps (r : RS) [K : Cx] : Prop := match r with
  | .nx e S => K.n e S
  | .bad => False
  | r => K.q r
def noX : Str → List (Str × D) → Sto → Prop := fun _ _ _ => False
section
variable {α β : Type} {S S' : Sto} {env : Env}
theorem cn_k {f : α → Sto → Prop} {x : Str → List (Str × D) → Sto → Prop} {a : α} : Cn.k (self := ⟨f, x⟩) a S = f a S := rfl
theorem cn_x {f : α → Sto → Prop} {x : Str → List (Str × D) → Sto → Prop} {c : Str} {fs : List (Str × D)} : Cn.x α (self := ⟨f, x⟩) c fs S = x c fs S := rfl
theorem cx_n {f : Env → Sto → Prop} {q : RS → Prop} : Cx.n (self := ⟨f, q⟩) env S = f env S := rfl
theorem cx_q {f : Env → Sto → Prop} {q : RS → Prop} {r : RS} : Cx.q (self := ⟨f, q⟩) r = q r := rfl
theorem wpe_ret {K : Cn α} {a : α} : wpe (.ok a S) = K.k a S := rfl
theorem wpe_exc {K : Cn α} {c : Str} {fs : List (Str × D)} : wpe (α := α) (.exc c fs S) = K.x c fs S := rfl
theorem wpe_bind {K : Cn β} {r : R α} {g : α → Sto → R β} : wpe (r.bind g) = wpe (K := ⟨fun a S => wpe (g a S), K.x⟩) r := by cases r <;> rfl
theorem wps_nx {K : Cx} {e : Env} : wps (.nx e S) = K.n e S := rfl
theorem wps_ret {K : Cx} {d : D} : wps (.ret d S) = K.q (.ret d S) := rfl
theorem wps_bk {K : Cx} {e : Env} : wps (.bk e S) = K.q (.bk e S) := rfl
theorem wps_ct {K : Cx} {e : Env} : wps (.ct e S) = K.q (.ct e S) := rfl
theorem wps_exc {K : Cx} {c : Str} {fs : List (Str × D)} {e : Env} : wps (.exc c fs e S) = K.q (.exc c fs e S) := rfl
theorem wps_bindS {K : Cx} {r : R α} {g : α → Sto → RS} : wps (r.bindS env g) = wpe (K := ⟨fun a S => wps (g a S), fun c fs S => K.q (.exc c fs env S)⟩) r := by cases r <;> rfl
theorem wps_seq {K : Cx} {r : RS} {g : Env → Sto → RS} : wps (r.seq g) = wps (K := ⟨fun e S => wps (g e S), K.q⟩) r := by cases r <;> rfl
theorem wps_xSeq {K : Cx} {f g : Env → Sto → RS} : wps (xSeq f g env S) = wps (K := ⟨fun e S => wps (g e S), K.q⟩) (f env S) := wps_seq
theorem wps_toS {K : Cx} {r : R Env} : wps (toS r) = wpe (K := ⟨fun e S => K.n e S, noX⟩) r := by cases r <;> rfl
theorem wpe_nox {K : Cn α} {r : R α} : wpe (nox r) = wpe (K := ⟨K.k, noX⟩) r := by cases r <;> rfl
/-- what a def's end asks -/
def defQ (K : Cn D) : RS → Prop
  | .ret d S => K.k d S
  | .exc c fs _ S => K.x c fs S
  | _ => False
theorem defQ_ret {K : Cn D} {d : D} : defQ K (.ret d S) = K.k d S := rfl
theorem defQ_exc {K : Cn D} {c : Str} {fs : List (Str × D)} {e : Env} : defQ K (.exc c fs e S) = K.x c fs S := rfl
theorem wpe_def {K : Cn D} {m k : Nat} {f : Env → Sto → RS} {ds : List D} (h : ds.length = m) (w : wps (K := ⟨fun _ S => K.k .non S, defQ K⟩) (f (ds.map some ++ List.replicate k none) S)) : wpe (defX m k f ds S) := by
  unfold defX
  rw [if_pos h]
  cases hf : f (ds.map some ++ List.replicate k none) S <;> rw [hf] at w <;> first | exact w | exact w.elim
/-- what a call promises -/
def Ok {α : Type} (r : R α) (P : α → Sto → Prop) : Prop := wpe (K := ⟨P, noX⟩) r
theorem Ok.ex {r : R α} {P : α → Sto → Prop} (h : Ok r P) : ∃ a S, r = .ok a S ∧ P a S := by
  cases r with
  | ok a S => exact ⟨a, S, rfl, h⟩
  | exc c fs S => exact h.elim
  | bad => exact h.elim
theorem Ok.of {r : R α} {P : α → Sto → Prop} (h : ∃ a S, r = .ok a S ∧ P a S) : Ok r P := by
  obtain ⟨a, S, rfl, h⟩ := h
  exact h
theorem wpe_k {K : Cn α} {r : R α} {P : α → Sto → Prop} (h : Ok r P) (k : ∀ a S, P a S → K.k a S) : wpe r := by
  obtain ⟨a, S, rfl, h⟩ := h.ex
  exact k a S h
theorem Ok.mono {r : R α} {P P' : α → Sto → Prop} (h : Ok r P) (k : ∀ a S, P a S → P' a S) : Ok r P' := wpe_k (K := ⟨P', noX⟩) h k
/-- a statement's promise -/
theorem wps_k {K : Cx} {r : RS} {N : Env → Sto → Prop} {Q : RS → Prop} (h : wps (K := ⟨N, Q⟩) r) (k : ∀ e S, N e S → K.n e S) (q : ∀ r, Q r → K.q r) : wps r := by
  cases r with
  | nx e S => exact k e S h
  | bad => exact h.elim
  | ret d S => exact q _ h
  | bk e S => exact q _ h
  | ct e S => exact q _ h
  | exc c fs e S => exact q _ h
theorem wps_if {K : Cx} {ft : Env → Sto → R Bool} {f g : Env → Sto → RS} : wps (xIfS ft f g env S) = wpe (K := ⟨fun b S1 => wps (if b = true then f env S1 else g env S1), fun c fs S => K.q (.exc c fs env S)⟩) (ft env S) := wps_bindS
/-! ### chunks of the store -/
structure Asn where
  h : Sto → List Nat → Prop
  loc : ∀ S S' F, h S F → (∀ l ∈ F, at_ S' l = at_ S l) → h S' F
def pt (l : Nat) (o : O) : Asn := ⟨fun S F => F = [l] ∧ at_ S l = some o, fun S S' F h e => ⟨h.1, by rw [e l (by rw [h.1]; simp)]; exact h.2⟩⟩
/-- a list that is only read -/
def rl (l : Nat) (xs : List D) : Asn := ⟨fun S F => F = [l] ∧ rdL S l = some xs, fun S S' F h e => ⟨h.1, rdL_of_at (e l (by rw [h.1]; simp)) h.2⟩⟩
def pu (p : Prop) : Asn := ⟨fun _ F => F = [] ∧ p, fun _ _ _ h _ => h⟩
def exA {α : Type} (A : α → Asn) : Asn := ⟨fun S F => ∃ x, (A x).h S F, fun S S' F ⟨x, h⟩ e => ⟨x, (A x).loc S S' F h e⟩⟩
def HsF : List Asn → Sto → List Nat → Prop
  | [], _, F => F = []
  | A :: As, S, F => ∃ F1 F2, F = F1 ++ F2 ∧ A.h S F1 ∧ HsF As S F2
theorem HsF.loc : ∀ {As : List Asn} {S S' : Sto} {F : List Nat}, HsF As S F → (∀ l ∈ F, at_ S' l = at_ S l) → HsF As S' F
  | [], _, _, _, h, _ => h
  | A :: As, S, S', F, ⟨F1, F2, e, h1, h2⟩, q => ⟨F1, F2, e, A.loc S S' F1 h1 (fun l hl => q l (by rw [e]; exact List.mem_append_left _ hl)), HsF.loc h2 (fun l hl => q l (by rw [e]; exact List.mem_append_right _ hl))⟩
def bun (As : List Asn) : Asn := ⟨HsF As, fun _ _ _ h e => h.loc e⟩
def Hs (As : List Asn) (S : Sto) : Prop := ∃ F, HsF As S F ∧ F.Nodup ∧ ∀ l ∈ F, l < S.length
theorem HsF.app : ∀ {As Bs : List Asn} {S : Sto} {F : List Nat}, HsF (As ++ Bs) S F ↔ ∃ F1 F2, F = F1 ++ F2 ∧ HsF As S F1 ∧ HsF Bs S F2
  | [], Bs, S, F => ⟨fun h => ⟨[], F, rfl, rfl, h⟩, fun ⟨F1, F2, e, h1, h2⟩ => by cases h1; rw [e]; exact h2⟩
  | A :: As, Bs, S, F => ⟨fun ⟨F1, F2, e, h1, h2⟩ => by
      obtain ⟨G1, G2, e', h3, h4⟩ := HsF.app.mp h2
      exact ⟨F1 ++ G1, G2, by rw [e, e', List.append_assoc], ⟨F1, G1, rfl, h1, h3⟩, h4⟩, fun ⟨F1, F2, e, ⟨G1, G2, e', h1, h2⟩, h3⟩ => ⟨G1, G2 ++ F2, by rw [e, e', List.append_assoc], h1, HsF.app.mpr ⟨G2, F2, rfl, h2, h3⟩⟩⟩
theorem HsF.up : ∀ {As : List Asn} {i : Nat} {A : Asn} {S : Sto} {F : List Nat}, HsF As S F → As[i]? = some A → ∃ F', F'.Perm F ∧ HsF (A :: As.eraseIdx i) S F'
  | [], _, _, _, _, _, e => by simp at e
  | B :: As, 0, A, S, F, h, e => by
    cases e
    exact ⟨F, .refl _, h⟩
  | B :: As, i + 1, A, S, F, ⟨F1, F2, e1, h1, h2⟩, e => by
    obtain ⟨F', p, G1, G2, e', h3, h4⟩ := HsF.up (As := As) (i := i) h2 e
    refine ⟨G1 ++ (F1 ++ G2), ?_, G1, F1 ++ G2, rfl, h3, F1, G2, rfl, h1, h4⟩
    rw [e1]
    refine List.Perm.trans ?_ (List.Perm.append_left F1 p)
    rw [e', ← List.append_assoc, ← List.append_assoc]
    exact List.Perm.append_right G2 List.perm_append_comm
variable {As Bs : List Asn} {A : Asn} {l i : Nat} {o o' : O} {xs : List D}
/-- the i-th one to the front -/
theorem Hs.up (i : Nat) (h : Hs As S) (e : As[i]? = some A := by rfl) : Hs (A :: As.eraseIdx i) S := by
  obtain ⟨F, h1, h2, h3⟩ := h
  obtain ⟨F', p, q⟩ := h1.up e
  exact ⟨F', q, p.nodup_iff.mpr h2, fun l hl => h3 l (p.mem_iff.mp hl)⟩
theorem Hs.drop (h : Hs (A :: As) S) : Hs As S := by
  obtain ⟨F, ⟨F1, F2, e, h1, h2⟩, n, b⟩ := h
  subst e
  exact ⟨F2, h2, (List.nodup_append.mp n).2.1, fun l hl => b l (List.mem_append_right _ hl)⟩
theorem Hs.lt (h : Hs (pt l o :: As) S) : l < S.length := by
  obtain ⟨F, ⟨F1, F2, e, h1, h2⟩, n, b⟩ := h
  exact at_lt h1.2
theorem Hs.at0 (h : Hs (pt l o :: As) S) : at_ S l = some o := by
  obtain ⟨F, ⟨F1, F2, e, h1, h2⟩, n, b⟩ := h
  exact h1.2
theorem Hs.rd0 (h : Hs (rl l xs :: As) S) : rdL S l = some xs := by
  obtain ⟨F, ⟨F1, F2, e, h1, h2⟩, n, b⟩ := h
  exact h1.2
theorem Hs.at (i : Nat) (h : Hs As S) (e : As[i]? = some (pt l o) := by rfl) : at_ S l = some o := (h.up i e).at0
theorem Hs.rd (i : Nat) (h : Hs As S) (e : As[i]? = some (rl l xs) := by rfl) : rdL S l = some xs := (h.up i e).rd0
theorem Hs.rp (i : Nat) (h : Hs As S) (e : As[i]? = some (pt l (.lst xs)) := by rfl) : rdL S l = some xs := rdL_lst (h.at i e)
theorem Hs.ins {C : Str} {fs : List (Str × D)} (i : Nat) (h : Hs As S) (e : As[i]? = some (pt l (.ins C fs)) := by rfl) : insX S C (.ref l) = some (l, fs) := insX_eq (h.at i e)
theorem Hs.fr (h : Hs As S) (le : S.length ≤ S'.length) (q : ∀ F, HsF As S F → ∀ l ∈ F, at_ S' l = at_ S l) : Hs As S' := by
  obtain ⟨F, h1, n, b⟩ := h
  exact ⟨F, h1.loc (q F h1), n, fun l hl => Nat.lt_of_lt_of_le (b l hl) le⟩
theorem Hs.app (h : Hs As S) {T : Sto} : Hs As (S ++ T) := by
  obtain ⟨F, h1, n, b⟩ := h
  exact ⟨F, h1.loc (fun l hl => at_app_lt (b l hl)), n, fun l hl => by rw [List.length_append]; exact Nat.lt_of_lt_of_le (b l hl) (Nat.le_add_right _ _)⟩
theorem Hs.new (h : Hs As S) : Hs (pt S.length o :: As) (S ++ [o]) := by
  obtain ⟨F, h1, n, b⟩ := h
  refine ⟨S.length :: F, ⟨[S.length], F, rfl, ⟨rfl, at_new⟩, h1.loc (fun l hl => at_app_lt (b l hl))⟩, List.nodup_cons.mpr ⟨fun z => Nat.lt_irrefl _ (b _ z), n⟩, fun l hl => ?_⟩
  rw [List.length_append]
  rcases List.mem_cons.mp hl with rfl | hl
  · exact Nat.lt_succ_self _
  · exact Nat.lt_succ_of_lt (b l hl)
theorem Hs.set (h : Hs (pt l o :: As) S) : Hs (pt l o' :: As) (S.set l o') := by
  obtain ⟨F, ⟨F1, F2, e, h1, h2⟩, n, b⟩ := h
  subst e
  obtain ⟨rfl, h1⟩ := h1
  refine ⟨[l] ++ F2, ⟨[l], F2, rfl, ⟨rfl, at_set_eq (at_lt h1)⟩, h2.loc (fun k hk => at_set_ne fun z => ?_)⟩, n, fun k hk => by rw [List.length_set]; exact b k hk⟩
  subst z
  exact (List.nodup_cons.mp n).1 hk
theorem Hs.ne0 (h : Hs (pt l o :: pt i o' :: As) S) : l ≠ i := by
  obtain ⟨F, ⟨F1, F2, e, ⟨e1, h1⟩, ⟨F3, F4, e2, ⟨e3, h3⟩, h4⟩⟩, n, b⟩ := h
  subst e e1 e2 e3
  intro z
  subst z
  simp at n
theorem Hs.bun : Hs (bun As :: Bs) S ↔ Hs (As ++ Bs) S := by
  constructor
  · rintro ⟨F, ⟨F1, F2, e, h1, h2⟩, n, b⟩
    exact ⟨F, HsF.app.mpr ⟨F1, F2, e, h1, h2⟩, n, b⟩
  · rintro ⟨F, h1, n, b⟩
    obtain ⟨F1, F2, e, h1, h2⟩ := HsF.app.mp h1
    exact ⟨F, ⟨F1, F2, e, h1, h2⟩, n, b⟩
theorem Hs.ex {α : Type} {A : α → Asn} : Hs (exA A :: As) S ↔ ∃ x, Hs (A x :: As) S := by
  constructor
  · rintro ⟨F, ⟨F1, F2, e, ⟨x, h1⟩, h2⟩, n, b⟩
    exact ⟨x, F, ⟨F1, F2, e, h1, h2⟩, n, b⟩
  · rintro ⟨x, F, ⟨F1, F2, e, h1, h2⟩, n, b⟩
    exact ⟨F, ⟨F1, F2, e, ⟨x, h1⟩, h2⟩, n, b⟩
theorem Hs.pu {p : Prop} : Hs (pu p :: As) S ↔ p ∧ Hs As S := by
  constructor
  · rintro ⟨F, ⟨F1, F2, e, ⟨e1, h1⟩, h2⟩, n, b⟩
    subst e e1
    exact ⟨h1, F2, h2, n, b⟩
  · rintro ⟨h1, F, h2, n, b⟩
    exact ⟨F, ⟨[], F, rfl, ⟨rfl, h1⟩, h2⟩, n, b⟩
theorem Hs.front {B : Asn} (h : Hs (A :: As) S) (i : ∀ S F, A.h S F → B.h S F) : Hs (B :: As) S := by
  obtain ⟨F, ⟨F1, F2, e, h1, h2⟩, n, b⟩ := h
  exact ⟨F, ⟨F1, F2, e, i S F1 h1, h2⟩, n, b⟩
theorem Hs.toRl (h : Hs (pt l (.lst xs) :: As) S) : Hs (rl l xs :: As) S := h.front fun _ _ ⟨e, h⟩ => ⟨e, rdL_lst h⟩
/-- a whole bundle to the front: As1 ++ (Bs ++ As2) -/
theorem Hs.swap (h : Hs (As ++ Bs) S) : Hs (Bs ++ As) S := by
  obtain ⟨F, h1, n, b⟩ := h
  obtain ⟨F1, F2, rfl, h1, h2⟩ := HsF.app.mp h1
  have p : (F2 ++ F1).Perm (F1 ++ F2) := List.perm_append_comm
  exact ⟨F2 ++ F1, HsF.app.mpr ⟨F2, F1, rfl, h2, h1⟩, p.nodup_iff.mpr n, fun l hl => b l (p.mem_iff.mp hl)⟩
theorem Hs.nil : Hs [] S := ⟨[], rfl, List.nodup_nil, by simp⟩
/-- the first object of all -/
theorem Hs.one (h : at_ S l = some o) : Hs [pt l o] S := ⟨[l], ⟨[l], [], rfl, ⟨rfl, h⟩, rfl⟩, by simp, by simp; exact at_lt h⟩
theorem Hs.oneRl (h : rdL S l = some xs) : Hs [rl l xs] S := ⟨[l], ⟨[l], [], rfl, ⟨rfl, h⟩, rfl⟩, by simp, by simp; exact rdL_lt h⟩
/-! ### what changes the store stops the reckoning; each has its rule -/
def allo (o : O) (S : Sto) : R D := .ok (.ref S.length) (S ++ [o])
theorem wpe_allo {K : Cn D} (h : Hs As S) (k : ∀ l S', Hs (pt l o :: As) S' → K.k (.ref l) S') : wpe (allo o S) := k _ _ h.new
theorem wpe_lst {K : Cn D} {fa : Env → Sto → R (List D)} : wpe (xLst fa env S) = wpe (K := ⟨fun xs S1 => xs.length ≤ 100000 ∧ wpe (allo (.lst xs) S1), K.x⟩) (fa env S) := by
  unfold xLst
  rw [wpe_bind]
  congr 2
  funext xs S1
  by_cases h : xs.length ≤ 100000
  · rw [if_pos h]
    simp [h, allo]
  · rw [if_neg h]
    simp [h, wpe]
theorem wpe_dnew {K : Cn D} : wpe (xDNew env S) = wpe (allo (.dK []) S) := rfl
theorem wpe_mL {K : Cn D} {g : List D → List D → Option (D × List D)} {xs ys ds : List D} {d : D} (h : Hs (pt l (.lst xs) :: As) S) (e : g xs ds = some (d, ys)) (k : ∀ S', Hs (pt l (.lst ys) :: As) S' → K.k d S') : wpe (mL g (.ref l) ds S) := by
  rw [mL_eq h.at0 e]
  exact k _ h.set
theorem wpe_append {K : Cn D} {xs : List D} {d : D} (h : Hs (pt l (.lst xs) :: As) S) (e : xs.length < 100000) (k : ∀ S', Hs (pt l (.lst (xs ++ [d])) :: As) S' → K.k .non S') : wpe (mL gAppend (.ref l) [d] S) := wpe_mL h (gAppend_eq e) k
def setFS (C f : Str) (x y : D) (env : Env) (S : Sto) : RS := match setFX C f x y S with
  | some S3 => .nx env S3
  | none => .bad
theorem wps_xSetF {K : Cx} {C f : Str} {fo fv : Env → Sto → R D} : wps (xSetF C f fo fv env S) = wps ((fv env S).bindS env fun y S1 => (fo env S1).bindS env fun x S2 => setFS C f x y env S2) := rfl
theorem wps_setF {K : Cx} {C f : Str} {y : D} {fs : List (Str × D)} (h : Hs (pt l (.ins C fs) :: As) S) (hl : fs.length < 900) (k : ∀ S', Hs (pt l (.ins C (putFX f y fs)) :: As) S' → K.n env S') : wps (setFS C f (.ref l) y env S) := by
  unfold setFS
  rw [setFX_eq h.at0 hl]
  exact k _ h.set
theorem wps_xAugF {K : Cx} {C f : Str} {fo fv : Env → Sto → R D} {o : D → D → Sto → R D} : wps (xAugF C f fo fv o env S) = wps ((fo env S).bindS env fun x S1 => match (insX S1 C x).bind fun p => p.2.lookup f with
  | some d => (fv env S1).bindS env fun y S2 => (o d y S2).bindS env fun z S3 => setFS C f x z env S3
  | none => .bad) := rfl
def putDS (x y v : D) (env : Env) (S : Sto) : RS := match putDX x y v S with
  | some S4 => .nx env S4
  | none => .bad
theorem wps_xDPut {K : Cx} {fo fi fv : Env → Sto → R D} : wps (xDPut fo fi fv env S) = wps ((fv env S).bindS env fun v S1 => (fo env S1).bindS env fun x S2 => (fi env S2).bindS env fun y S3 => putDS x y v env S3) := rfl
theorem wps_putD {K : Cx} {y v : D} {kvs : List (Key × D)} {q : Key} (h : Hs (pt l (.dK kvs) :: As) S) (hy : keyD y = some q) (hl : kvs.length < 100000) (k : ∀ S', Hs (pt l (.dK (putX kvs q v)) :: As) S' → K.n env S') : wps (putDS (.ref l) y v env S) := by
  unfold putDS
  rw [putDX_eq h.at0 hy hl]
  exact k _ h.set
def setLE (x i v : D) (env : Env) (S : Sto) : R Env := match setLX x i v S with
  | some S3 => .ok env S3
  | none => .bad
theorem gSub_eq {fo fi : Env → Sto → R D} {d : D} : gSubX fo fi d env S = (fo env S).bind fun x S1 => (fi env S1).bind fun i S2 => setLE x i d env S2 := rfl
theorem wpe_setL {K : Cn Env} {v : D} {xs : List D} {q : Int} {j : Nat} (h : Hs (pt l (.lst xs) :: As) S) (hj : ixN xs.length q = some j) (k : ∀ S', Hs (pt l (.lst (xs.set j v)) :: As) S' → K.k env S') : wpe (setLE (.ref l) (.int q) v env S) := by
  unfold setLE
  rw [setLX_eq h.at0 hj]
  exact k _ h.set
/-- C(..) -/
def mkEnd (l : Nat) (r : R D) : R D := match r with
  | .ok .non S2 => .ok (.ref l) S2
  | _ => .bad
theorem wpe_xMake {K : Cn D} {C : Str} {f : List D → Sto → R D} {fa : Env → Sto → R (List D)} : wpe (xMake C f fa env S) = wpe ((fa env S).bind fun ds S1 => mkEnd S1.length (f (.ref S1.length :: ds) (S1 ++ [.ins C []]))) := rfl
theorem wpe_make {K : Cn D} {C : Str} {f : List D → Sto → R D} {ds : List D} {P : Nat → Sto → Prop} (h : Hs As S) (q : ∀ l S', Hs (pt l (.ins C []) :: As) S' → Ok (f (.ref l :: ds) S') (fun v S2 => v = .non ∧ P l S2)) (k : ∀ l S', P l S' → K.k (.ref l) S') : wpe (mkEnd S.length (f (.ref S.length :: ds) (S ++ [.ins C []]))) := by
  obtain ⟨a, S2, e, rfl, p⟩ := (q S.length (S ++ [.ins C []]) h.new).ex
  rw [e]
  exact k _ _ p
/-! ### loops -/
def loopQ (J : Env → Sto → Prop) (K : Cx) : RS → Prop
  | .ct e S => J e S
  | .bk e S => K.n e S
  | .nx _ _ => False
  | .bad => False
  | r => K.q r
theorem loopQ_ct {J : Env → Sto → Prop} {K : Cx} {e : Env} : loopQ J K (.ct e S) = J e S := rfl
theorem loopQ_bk {J : Env → Sto → Prop} {K : Cx} {e : Env} : loopQ J K (.bk e S) = K.n e S := rfl
theorem loopQ_ret {J : Env → Sto → Prop} {K : Cx} {d : D} : loopQ J K (.ret d S) = K.q (.ret d S) := rfl
theorem loopQ_exc {J : Env → Sto → Prop} {K : Cx} {c : Str} {fs : List (Str × D)} {e : Env} : loopQ J K (.exc c fs e S) = K.q (.exc c fs e S) := rfl
theorem loop_go {K : Cx} {ok : Sto → Prop} {fg : XG} {fb : Env → Sto → RS} (I : Nat → Env → Sto → Prop) : ∀ (items : List D) (j : Nat) (env : Env) (S : Sto), (∀ i env S, i ≤ j + items.length → I i env S → ok S) →
    (∀ i x env S, items[i]? = some x → I (j + i) env S → wpe (K := ⟨fun e1 S1 => wps (K := ⟨I (j + i + 1), loopQ (I (j + i + 1)) K⟩) (fb e1 S1), noX⟩) (fg x env S)) →
    (∀ e S', I (j + items.length) e S' → K.n e S') → I j env S → wps (finX (loopX ok fg fb items env S))
  | [], j, env, S, hok, _, fin, h => by
    rw [loopX_nil (hok j env S (by simp) h)]
    exact fin env S h
  | x :: r, j, env, S, hok, turn, fin, h => by
    have next : ∀ e S', I (j + 1) e S' → wps (finX (loopX ok fg fb r e S')) := fun e S' h' =>
      loop_go I r (j + 1) e S' (fun i env S hi => hok i env S (by rw [List.length_cons]; omega)) (fun i y env S hy hI => by
        have := turn (i + 1) y env S hy (by rw [show j + (i + 1) = j + 1 + i by omega]; exact hI)
        rw [show j + (i + 1) = j + 1 + i by omega] at this
        exact this) (fun e S' q => fin e S' (by rw [show j + (x :: r).length = j + 1 + r.length by rw [List.length_cons]; omega]; exact q)) h'
    rw [loopX_cons (hok j env S (by simp) h)]
    have t := turn 0 x env S rfl h
    rw [Nat.add_zero] at t
    cases hg : fg x env S with
    | ok e1 S1 =>
      rw [hg] at t
      change wps (K := ⟨I (j + 1), loopQ (I (j + 1)) K⟩) (fb e1 S1) at t
      rw [bindE_ok]
      cases hb : fb e1 S1 with
      | nx e S' => rw [hb] at t; exact next e S' t
      | ct e S' => rw [hb] at t; exact next e S' t
      | bk e S' => rw [hb] at t; exact t
      | ret d S' => rw [hb] at t; exact t
      | exc c fs e S' => rw [hb] at t; exact t
      | bad => rw [hb] at t; exact t.elim
    | exc c fs S1 => rw [hg] at t; exact t.elim
    | bad => rw [hg] at t; exact t.elim
theorem wps_xFor {K : Cx} {fi : Env → Sto → R Itx} {fg : XG} {fb : Env → Sto → RS} : wps (xFor fi fg fb env S) = wpe (K := ⟨fun it S1 => wps (finX (loopX it.ok fg fb it.items env S1)), fun c fs S => K.q (.exc c fs env S)⟩) (fi env S) := wps_bindS
theorem wps_loop {K : Cx} {ok : Sto → Prop} {fg : XG} {fb : Env → Sto → RS} {items : List D} (I : Nat → Env → Sto → Prop) (start : I 0 env S) (hok : ∀ i env S, I i env S → ok S)
    (turn : ∀ i x env S, items[i]? = some x → I i env S → wpe (K := ⟨fun e1 S1 => wps (K := ⟨I (i + 1), loopQ (I (i + 1)) K⟩) (fb e1 S1), noX⟩) (fg x env S))
    (fin : ∀ e S', I items.length e S' → K.n e S') : wps (finX (loopX ok fg fb items env S)) := by
  refine loop_go I items 0 env S (fun i env S _ h => hok i env S h) (fun i x env S hx h => ?_) (fun e S' h => fin e S' (by rw [Nat.zero_add] at h; exact h)) start
  rw [Nat.zero_add] at h ⊢
  exact turn i x env S hx h
/-- for .. else -/
def loopE (fe : Env → Sto → RS) (r : RS) : RS := match r with
  | .nx e S2 => fe e S2
  | r => finX r
theorem wps_xForE {K : Cx} {fi : Env → Sto → R Itx} {fg : XG} {fb fe : Env → Sto → RS} : wps (xForE fi fg fb fe env S) = wpe (K := ⟨fun it S1 => wps (loopE fe (loopX it.ok fg fb it.items env S1)), fun c fs S => K.q (.exc c fs env S)⟩) (fi env S) := wps_bindS
theorem wps_loopE {K : Cx} {ok : Sto → Prop} {fg : XG} {fb fe : Env → Sto → RS} {items : List D} (I : Nat → Env → Sto → Prop) (start : I 0 env S) (hok : ∀ i env S, I i env S → ok S)
    (turn : ∀ i x env S, items[i]? = some x → I i env S → wpe (K := ⟨fun e1 S1 => wps (K := ⟨I (i + 1), loopQ (I (i + 1)) K⟩) (fb e1 S1), noX⟩) (fg x env S))
    (fin : ∀ e S', I items.length e S' → wps (fe e S')) : wps (loopE fe (loopX ok fg fb items env S)) := by
  have := loop_go (K := ⟨fun e S' => (I items.length e S' ∧ loopX ok fg fb items env S = .nx e S') ∨ (K.n e S' ∧ loopX ok fg fb items env S = .bk e S'), fun r => K.q r ∧ loopX ok fg fb items env S = r⟩) (ok := ok) (fg := fg) (fb := fb) I items 0 env S
  have gen : wps (K := ⟨I items.length, fun r => match r with
      | .bk e S' => K.n e S'
      | .ct _ _ => False
      | r => K.q r⟩) (loopX ok fg fb items env S) := by
    clear this
    have : ∀ (r : List D) (j : Nat) (env : Env) (S : Sto), j + r.length = items.length → (∀ i x, r[i]? = some x → items[j + i]? = some x) → I j env S → wps (K := ⟨I items.length, fun r => match r with
      | .bk e S' => K.n e S'
      | .ct _ _ => False
      | r => K.q r⟩) (loopX ok fg fb r env S) := by
      intro r
      induction r with
      | nil =>
        intro j env S hj _ h
        rw [loopX_nil (hok j env S h)]
        have : j = items.length := by simpa using hj
        subst this
        exact h
      | cons x r ih =>
        intro j env S hj hx h
        rw [loopX_cons (hok j env S h)]
        have t := turn j x env S (by have := hx 0 x rfl; rwa [Nat.add_zero] at this) h
        have next : ∀ e S', I (j + 1) e S' → _ := fun e S' h' => ih (j + 1) e S' (by rw [← hj, List.length_cons]; omega) (fun i y hy => by have := hx (i + 1) y hy; rwa [show j + (i + 1) = j + 1 + i by omega] at this) h'
        cases hg : fg x env S with
        | ok e1 S1 =>
          rw [hg] at t
          change wps (K := ⟨I (j + 1), loopQ (I (j + 1)) K⟩) (fb e1 S1) at t
          rw [bindE_ok]
          cases hb : fb e1 S1 with
          | nx e S' => rw [hb] at t; exact next e S' t
          | ct e S' => rw [hb] at t; exact next e S' t
          | bk e S' => rw [hb] at t; exact t
          | ret d S' => rw [hb] at t; exact t
          | exc c fs e S' => rw [hb] at t; exact t
          | bad => rw [hb] at t; exact t.elim
        | exc c fs S1 => rw [hg] at t; exact t.elim
        | bad => rw [hg] at t; exact t.elim
    exact this items 0 env S (by simp) (fun i x h => by rwa [Nat.zero_add]) start
  unfold loopE
  cases hl : loopX ok fg fb items env S with
  | nx e S' => rw [hl] at gen; exact fin e S' gen
  | ct e S' => rw [hl] at gen; exact gen.elim
  | bk e S' => rw [hl] at gen; exact gen
  | ret d S' => rw [hl] at gen; exact gen
  | exc c fs e S' => rw [hl] at gen; exact gen
  | bad => rw [hl] at gen; exact gen.elim
/-- while, by a measure -/
theorem while_fuel {K : Cx} {ft : Env → Sto → R Bool} {fb : Env → Sto → RS} (I : Nat → Env → Sto → Prop)
    (turn : ∀ m env S, I m env S → wpe (K := ⟨fun b S1 => if b = true then wps (K := ⟨fun e S' => ∃ m', m' < m ∧ I m' e S', loopQ (fun e S' => ∃ m', m' < m ∧ I m' e S') K⟩) (fb env S1) else K.n env S1, noX⟩) (ft env S)) :
    ∀ (N m : Nat) (env : Env) (S : Sto), m < N → I m env S → wps (finX (whileX ft fb N env S)) ∧ whileX ft fb N env S ≠ .bad
  | 0, m, _, _, h, _ => absurd h (Nat.not_lt_zero _)
  | N + 1, m, env, S, hm, h => by
    rw [whileX_succ]
    have t := turn m env S h
    cases ht : ft env S with
    | ok b S1 =>
      rw [ht] at t
      rw [R.bindS_ok]
      have t' : if b = true then wps (K := ⟨fun e S' => ∃ m', m' < m ∧ I m' e S', loopQ (fun e S' => ∃ m', m' < m ∧ I m' e S') K⟩) (fb env S1) else K.n env S1 := t
      cases b with
      | false => exact ⟨t', by simp⟩
      | true =>
        rw [if_pos rfl] at t' ⊢
        have next : ∀ e S', (∃ m', m' < m ∧ I m' e S') → wps (finX (whileX ft fb N e S')) ∧ whileX ft fb N e S' ≠ .bad := fun e S' ⟨m', h1, h2⟩ => while_fuel I turn N m' e S' (by omega) h2
        cases hb : fb env S1 with
        | nx e S' => rw [hb] at t'; exact next e S' t'
        | ct e S' => rw [hb] at t'; exact next e S' t'
        | bk e S' => rw [hb] at t'; exact ⟨t', by simp⟩
        | ret d S' => rw [hb] at t'; exact ⟨t', by simp⟩
        | exc c fs e S' => rw [hb] at t'; exact ⟨t', by simp⟩
        | bad => rw [hb] at t'; exact t'.elim
    | exc c fs S1 => rw [ht] at t; exact t.elim
    | bad => rw [ht] at t; exact t.elim
theorem wps_while {K : Cx} {ft : Env → Sto → R Bool} {fb : Env → Sto → RS} (I : Nat → Env → Sto → Prop) (m : Nat) (start : I m env S)
    (turn : ∀ m env S, I m env S → wpe (K := ⟨fun b S1 => if b = true then wps (K := ⟨fun e S' => ∃ m', m' < m ∧ I m' e S', loopQ (fun e S' => ∃ m', m' < m ∧ I m' e S') K⟩) (fb env S1) else K.n env S1, noX⟩) (ft env S)) : wps (xWhile ft fb env S) := by
  obtain ⟨h1, h2⟩ := while_fuel I turn (m + 1) m env S (Nat.lt_succ_self _) start
  rw [xWhile_eq rfl h2]
  exact h1
/-! ### comprehensions -/
theorem wpe_xLc {K : Cn D} {fi : Env → Sto → R Itx} {fg : XG} {ft : Env → Sto → R Bool} {fe : Env → Sto → R D} {vs : List Nat} : wpe (xLc fi fg ft fe vs env S) = wpe (K := ⟨fun it S1 => wpe (compX it.ok fg ft fe (wipeE env vs) S1.length it.items (S1 ++ [.lst []])), K.x⟩) (fi env S) := wpe_bind
theorem comp_go {K : Cn D} {ok : Sto → Prop} {fg : XG} {ft : Env → Sto → R Bool} {fe : Env → Sto → R D} {env0 : Env} {l : Nat} (I : Nat → List D → Sto → Prop) (hI : ∀ i acc S, I i acc S → ok S ∧ at_ S l = some (.lst acc)) : ∀ (items : List D) (j : Nat) (acc : List D) (S : Sto),
    (∀ i x acc S, items[i]? = some x → I (j + i) acc S → wpe (K := ⟨fun e1 S1 => wpe (K := ⟨fun b S2 => if b = true then wpe (K := ⟨fun y S3 => at_ S3 l = some (.lst acc) ∧ acc.length < 100000 ∧ I (j + i + 1) (acc ++ [y]) (S3.set l (.lst (acc ++ [y]))), noX⟩) (fe e1 S2) else I (j + i + 1) acc S2, noX⟩) (ft e1 S1), noX⟩) (fg x env0 S)) →
    (∀ acc S, I (j + items.length) acc S → K.k (.ref l) S) → I j acc S → wpe (compX ok fg ft fe env0 l items S)
  | [], j, acc, S, _, fin, h => by
    rw [compX, if_pos (hI _ _ _ h).1]
    exact fin acc S h
  | x :: r, j, acc, S, turn, fin, h => by
    have next : ∀ acc S, I (j + 1) acc S → wpe (compX ok fg ft fe env0 l r S) := fun acc S h =>
      comp_go I hI r (j + 1) acc S (fun i y acc S hy hq => by
        have := turn (i + 1) y acc S hy (by rw [show j + (i + 1) = j + 1 + i by omega]; exact hq)
        rw [show j + (i + 1) = j + 1 + i by omega] at this
        exact this) (fun acc S q => fin acc S (by rw [show j + (x :: r).length = j + 1 + r.length by rw [List.length_cons]; omega]; exact q)) h
    rw [compX, if_pos (hI _ _ _ h).1]
    have t := turn 0 x acc S rfl h
    rw [Nat.add_zero] at t
    cases hg : fg x env0 S with
    | ok e1 S1 =>
      rw [hg] at t
      change wpe (K := ⟨fun b S2 => if b = true then wpe (K := ⟨fun y S3 => at_ S3 l = some (.lst acc) ∧ acc.length < 100000 ∧ I (j + 1) (acc ++ [y]) (S3.set l (.lst (acc ++ [y]))), noX⟩) (fe e1 S2) else I (j + 1) acc S2, noX⟩) (ft e1 S1) at t
      simp only
      cases ht : ft e1 S1 with
      | ok b S2 =>
        rw [ht] at t
        change if b = true then wpe (K := ⟨fun y S3 => at_ S3 l = some (.lst acc) ∧ acc.length < 100000 ∧ I (j + 1) (acc ++ [y]) (S3.set l (.lst (acc ++ [y]))), noX⟩) (fe e1 S2) else I (j + 1) acc S2 at t
        cases b with
        | false =>
          simp only
          exact next acc S2 t
        | true =>
          simp only
          rw [if_pos rfl] at t
          cases he : fe e1 S2 with
          | ok y S3 =>
            rw [he] at t
            obtain ⟨h1, h2, h3⟩ : at_ S3 l = some (.lst acc) ∧ acc.length < 100000 ∧ I (j + 1) (acc ++ [y]) (S3.set l (.lst (acc ++ [y]))) := t
            simp only [h1, if_pos h2]
            exact next _ _ h3
          | exc c fs S1 => rw [he] at t; exact t.elim
          | bad => rw [he] at t; exact t.elim
      | exc c fs S1 => rw [ht] at t; exact t.elim
      | bad => rw [ht] at t; exact t.elim
    | exc c fs S1 => rw [hg] at t; exact t.elim
    | bad => rw [hg] at t; exact t.elim
/-- a comprehension whose items leave the chunks as they are -/
theorem wpe_comp {K : Cn D} {ok : Sto → Prop} {fg : XG} {ft : Env → Sto → R Bool} {fe : Env → Sto → R D} {env0 : Env} {items : List D} (g : D → Option D) (h : Hs As S) (hok : ∀ Bs S', Hs (As ++ Bs) S' → ok S')
    (turn : ∀ x ∈ items, ∀ Bs S', Hs (As ++ Bs) S' → wpe (K := ⟨fun e1 S1 => wpe (K := ⟨fun b S2 => b = (g x).isSome ∧ (if b = true then wpe (K := ⟨fun y S3 => g x = some y ∧ Hs (As ++ Bs) S3, noX⟩) (fe e1 S2) else Hs (As ++ Bs) S2), noX⟩) (ft e1 S1), noX⟩) (fg x env0 S'))
    (hl : items.length ≤ 100000) (k : ∀ l S', Hs (pt l (.lst (items.filterMap g)) :: As) S' → K.k (.ref l) S') : wpe (compX ok fg ft fe env0 S.length items (S ++ [.lst []])) := by
  generalize hm : S.length = l
  have h0 : Hs (pt l (.lst []) :: As) (S ++ [.lst []]) := by subst hm; exact h.new
  have sw : ∀ {acc : List D} {S : Sto}, Hs (pt l (.lst acc) :: As) S → Hs (As ++ [pt l (.lst acc)]) S := fun {acc S} h => Hs.swap (As := [pt l (.lst acc)]) (Bs := As) h
  have ws : ∀ {acc : List D} {S : Sto}, Hs (As ++ [pt l (.lst acc)]) S → Hs (pt l (.lst acc) :: As) S := fun {acc S} h => Hs.swap (As := As) (Bs := [pt l (.lst acc)]) h
  refine comp_go (fun i acc S => Hs (pt l (.lst acc) :: As) S ∧ acc = (items.take i).filterMap g ∧ i ≤ items.length) (fun i acc S q => ⟨hok _ S (sw q.1), q.1.at0⟩) items 0 [] _ (fun i x acc S hx ⟨h, e, hi⟩ => ?_) (fun acc S ⟨h, e, _⟩ => k l S (by rw [Nat.zero_add, List.take_length] at e; rw [← e]; exact h)) ⟨h0, by simp, Nat.zero_le _⟩
  have hlt := (List.getElem?_eq_some_iff.mp hx).1
  have ha : acc.length ≤ i := by
    rw [e]
    refine Nat.le_trans (List.length_filterMap_le _ _) ?_
    rw [List.length_take]
    omega
  have tk : ∀ o, g x = o → (items.take (0 + i + 1)).filterMap g = acc ++ o.toList := fun o ho => by
    rw [show 0 + i + 1 = i + 1 by omega, List.take_succ, hx, List.filterMap_append, e, Nat.zero_add]
    congr 1
    cases o <;> simp [ho]
  have t := turn x (List.mem_of_getElem? hx) _ S (sw h)
  cases hg : fg x env0 S with
  | ok e1 S1 =>
    rw [hg] at t
    change wpe (K := ⟨fun b S2 => b = (g x).isSome ∧ (if b = true then wpe (K := ⟨fun y S3 => g x = some y ∧ Hs (As ++ [pt l (.lst acc)]) S3, noX⟩) (fe e1 S2) else Hs (As ++ [pt l (.lst acc)]) S2), noX⟩) (ft e1 S1) at t
    show wpe (K := ⟨fun b S2 => if b = true then wpe (K := ⟨fun y S3 => at_ S3 l = some (.lst acc) ∧ acc.length < 100000 ∧ (Hs (pt l (.lst (acc ++ [y])) :: As) (S3.set l (.lst (acc ++ [y]))) ∧ acc ++ [y] = (items.take (0 + i + 1)).filterMap g ∧ 0 + i + 1 ≤ items.length), noX⟩) (fe e1 S2) else (Hs (pt l (.lst acc) :: As) S2 ∧ acc = (items.take (0 + i + 1)).filterMap g ∧ 0 + i + 1 ≤ items.length), noX⟩) (ft e1 S1)
    cases ht : ft e1 S1 with
    | ok b S2 =>
      rw [ht] at t
      obtain ⟨hb, t⟩ : b = (g x).isSome ∧ (if b = true then wpe (K := ⟨fun y S3 => g x = some y ∧ Hs (As ++ [pt l (.lst acc)]) S3, noX⟩) (fe e1 S2) else Hs (As ++ [pt l (.lst acc)]) S2) := t
      show (if b = true then _ else _)
      cases b with
      | false =>
        rw [if_neg (by simp)] at t ⊢
        have := tk none (by cases hq : g x with
          | none => rfl
          | some y => rw [hq] at hb; cases hb)
        exact ⟨ws t, by rw [this]; simp, by omega⟩
      | true =>
        rw [if_pos rfl] at t ⊢
        cases he : fe e1 S2 with
        | ok y S3 =>
          rw [he] at t
          obtain ⟨h1, h2⟩ : g x = some y ∧ Hs (As ++ [pt l (.lst acc)]) S3 := t
          exact ⟨(ws h2).at0, by omega, (ws h2).set, by rw [tk _ h1]; simp, by omega⟩
        | exc c fs S1 => rw [he] at t; exact t.elim
        | bad => rw [he] at t; exact t.elim
    | exc c fs S1 => rw [ht] at t; exact t.elim
    | bad => rw [ht] at t; exact t.elim
  | exc c fs S1 => rw [hg] at t; exact t.elim
  | bad => rw [hg] at t; exact t.elim
end
end Mi

namespace Mi
open PySem PySem.Spec PyProof.Rows L2 Evl My
/-! ### the reckoning's words, so that what makes a new object stops it -/
section
variable {α : Type} {S : Sto} {l b : Nat} {i j : Int} {o : O}
theorem wpe_iteBad {K : Cn α} {c : Prop} [Decidable c] {r : R α} : wpe (if c then r else .bad) = (c ∧ wpe r) := by
  by_cases h : c
  · simp [h]
  · simp [h, wpe]
theorem wps_iteBad {K : Cx} {c : Prop} [Decidable c] {r : RS} : wps (if c then r else .bad) = (c ∧ wps r) := by
  by_cases h : c
  · simp [h]
  · simp [h, wps]
theorem oIC_wp {C : Int → Int → Prop} {g : Int → Int → D} : oIC C g (.int i) (.int j) S = (open Classical in if C i j then .ok (g i j) S else .bad) := rfl
theorem bList_wp : bList [.ref l] S = (match rdL S l with
  | some xs => allo (.lst xs) S
  | none => .bad) := rfl
theorem bListT_wp {xs : List D} : bList [.tup xs] S = allo (.lst xs) S := rfl
theorem oSlL_wp {lo hi : Option Int} : oSlL (.ref l) lo hi S = (match rdL S l with
  | some xs => allo (.lst (cutX xs lo hi)) S
  | none => .bad) := rfl
theorem oCat_wp : oCat (.ref l) (.ref b) S = (match at_ S l, at_ S b with
  | some (.lst xs), some (.lst ys) => if xs.length + ys.length ≤ 100000 then allo (.lst (xs ++ ys)) S else .bad
  | _, _ => .bad) := rfl
theorem bListD_wp : bListD [.ref l] S = (match at_ S l with
  | some (.dK kvs) => allo (.lst (kvs.map fun kv => keyOf kv.1)) S
  | _ => .bad) := rfl
theorem mkRg_wp {a b : Int} : mkRg a b S = (open Classical in if RgOk a b then allo (.lst (rngD a (b - a).toNat)) S else .bad) := rfl
theorem bSet_wp {l : Nat} : bSet [.ref l] S = (match (rdL S l).bind intsOf with
  | some ns => if ns.length ≤ 4000 then allo (.set (memI ns) (dedupL ns).length) S else .bad
  | none => .bad) := by
  unfold bSet bInts
  simp only
  cases h : (rdL S l).bind intsOf <;> rfl
/-- the outcome of a test is one of two -/
theorem wps_ite {K : Cx} {c : Prop} [Decidable c] {r q : RS} (h1 : c → wps r) (h2 : ¬ c → wps q) : wps (if c then r else q) := by
  by_cases h : c
  · rw [if_pos h]; exact h1 h
  · rw [if_neg h]; exact h2 h
theorem wpe_ite {K : Cn α} {c : Prop} [Decidable c] {r q : R α} (h1 : c → wpe r) (h2 : ¬ c → wpe q) : wpe (if c then r else q) := by
  by_cases h : c
  · rw [if_pos h]; exact h1 h
  · rw [if_neg h]; exact h2 h
theorem Ok.def {m k : Nat} {f : Env → Sto → RS} {ds : List D} {P : D → Sto → Prop} (h : ds.length = m) (w : wps (K := ⟨fun _ S => P .non S, defQ ⟨P, noX⟩⟩) (f (ds.map some ++ List.replicate k none) S)) : Ok (defX m k f ds S) P := wpe_def (K := ⟨P, noX⟩) h w
end
end Mi

namespace Law
open PySem PySem.Spec PyProof.Rows L2 Evl My
def top (i : Nat) : Stmt := PySem.Challenge.pw_lentpages_k29_device.main.body.getD i (.Pass ⟨0, 0, 0, 0⟩)
abbrev s_BadRange___init__ : Stmt := inClass (top 7) 0
abbrev s_Unmapped___init__ : Stmt := inClass (top 8) 0
abbrev s_Denied___init__ : Stmt := inClass (top 9) 0
abbrev s_BeyondFile___init__ : Stmt := inClass (top 10) 0
abbrev s_check_range : Stmt := top 12
abbrev s_Device___init__ : Stmt := inClass (top 14) 0
abbrev s_Device_write : Stmt := inClass (top 14) 1
abbrev s_Device_read : Stmt := inClass (top 14) 2
abbrev s_Device_pending : Stmt := inClass (top 14) 3
abbrev s_Device_barrier : Stmt := inClass (top 14) 4
abbrev s_Device_crash : Stmt := inClass (top 14) 5
abbrev s_l_number : Stmt := top 16
abbrev s_l_is_whole : Stmt := top 17
abbrev s_l_same : Stmt := top 18
abbrev s_l_device_content : Stmt := top 19
abbrev s_l_device_fates : Stmt := top 20
abbrev s_l_device_failure : Stmt := top 21
abbrev s_l_device_due : Stmt := top 22
abbrev s_l_device_holds : Stmt := top 23
abbrev s_l_device_refuses : Stmt := top 24
abbrev s_l_device_call : Stmt := top 25
abbrev s_law : Stmt := top 26
def dd_BadRange___init__ : He.DefD := ⟨("BadRange", some "__init__"), "__init__", "BadRange.__init__", defArgs s_BadRange___init__, defBody s_BadRange___init__, defScope s_BadRange___init__, [], []⟩
def dd_Unmapped___init__ : He.DefD := ⟨("Unmapped", some "__init__"), "__init__", "Unmapped.__init__", defArgs s_Unmapped___init__, defBody s_Unmapped___init__, defScope s_Unmapped___init__, [], []⟩
def dd_Denied___init__ : He.DefD := ⟨("Denied", some "__init__"), "__init__", "Denied.__init__", defArgs s_Denied___init__, defBody s_Denied___init__, defScope s_Denied___init__, [], []⟩
def dd_BeyondFile___init__ : He.DefD := ⟨("BeyondFile", some "__init__"), "__init__", "BeyondFile.__init__", defArgs s_BeyondFile___init__, defBody s_BeyondFile___init__, defScope s_BeyondFile___init__, [], []⟩
def dd_check_range : He.DefD := ⟨("check_range", none), "check_range", "check_range", defArgs s_check_range, defBody s_check_range, defScope s_check_range, [], []⟩
def dd_Device___init__ : He.DefD := ⟨("Device", some "__init__"), "__init__", "Device.__init__", defArgs s_Device___init__, defBody s_Device___init__, defScope s_Device___init__, [], []⟩
def dd_Device_write : He.DefD := ⟨("Device", some "write"), "write", "Device.write", defArgs s_Device_write, defBody s_Device_write, defScope s_Device_write, [], []⟩
def dd_Device_read : He.DefD := ⟨("Device", some "read"), "read", "Device.read", defArgs s_Device_read, defBody s_Device_read, defScope s_Device_read, [], []⟩
def dd_Device_pending : He.DefD := ⟨("Device", some "pending"), "pending", "Device.pending", defArgs s_Device_pending, defBody s_Device_pending, defScope s_Device_pending, [], []⟩
def dd_Device_barrier : He.DefD := ⟨("Device", some "barrier"), "barrier", "Device.barrier", defArgs s_Device_barrier, defBody s_Device_barrier, defScope s_Device_barrier, [], []⟩
def dd_Device_crash : He.DefD := ⟨("Device", some "crash"), "crash", "Device.crash", defArgs s_Device_crash, defBody s_Device_crash, defScope s_Device_crash, [], []⟩
def dd_l_number : He.DefD := ⟨("_law_number", none), "_law_number", "_law_number", defArgs s_l_number, defBody s_l_number, defScope s_l_number, [], []⟩
def dd_l_is_whole : He.DefD := ⟨("_law_is_whole", none), "_law_is_whole", "_law_is_whole", defArgs s_l_is_whole, defBody s_l_is_whole, defScope s_l_is_whole, [], []⟩
def dd_l_same : He.DefD := ⟨("_law_same", none), "_law_same", "_law_same", defArgs s_l_same, defBody s_l_same, defScope s_l_same, [], []⟩
def dd_l_device_content : He.DefD := ⟨("_law_device_content", none), "_law_device_content", "_law_device_content", defArgs s_l_device_content, defBody s_l_device_content, defScope s_l_device_content, [], []⟩
def dd_l_device_fates : He.DefD := ⟨("_law_device_fates", none), "_law_device_fates", "_law_device_fates", defArgs s_l_device_fates, defBody s_l_device_fates, defScope s_l_device_fates, [], []⟩
def dd_l_device_failure : He.DefD := ⟨("_law_device_failure", none), "_law_device_failure", "_law_device_failure", defArgs s_l_device_failure, defBody s_l_device_failure, defScope s_l_device_failure, [], []⟩
def dd_l_device_due : He.DefD := ⟨("_law_device_due", none), "_law_device_due", "_law_device_due", defArgs s_l_device_due, defBody s_l_device_due, defScope s_l_device_due, [], []⟩
def dd_l_device_holds : He.DefD := ⟨("_law_device_holds", none), "_law_device_holds", "_law_device_holds", defArgs s_l_device_holds, defBody s_l_device_holds, defScope s_l_device_holds, [], []⟩
def dd_l_device_refuses : He.DefD := ⟨("_law_device_refuses", none), "_law_device_refuses", "_law_device_refuses", defArgs s_l_device_refuses, defBody s_l_device_refuses, defScope s_l_device_refuses, [], []⟩
def dd_l_device_call : He.DefD := ⟨("_law_device_call", none), "_law_device_call", "_law_device_call", defArgs s_l_device_call, defBody s_l_device_call, defScope s_l_device_call, [], []⟩
def dd_law : He.DefD := ⟨("law", none), "law", "law", defArgs s_law, defBody s_law, defScope s_law, [], []⟩
def fns : List He.DefD := [dd_BadRange___init__, dd_Unmapped___init__, dd_Denied___init__, dd_BeyondFile___init__, dd_check_range, dd_Device___init__, dd_Device_write, dd_Device_read, dd_Device_pending, dd_Device_barrier, dd_Device_crash, dd_l_number, dd_l_is_whole, dd_l_same, dd_l_device_content, dd_l_device_fates, dd_l_device_failure, dd_l_device_due, dd_l_device_holds, dd_l_device_refuses, dd_l_device_call, dd_law]
def fas : List He.Fa := [.free "list", .free "range", .free "zip", .free "len", .free "abs", .free "int", .free "isinstance", .free "bool", .free "str", .free "tuple", .free "ValueError", .free "min", .glo "check_range", .glo "_law_number", .glo "_law_is_whole", .glo "_law_same", .glo "_law_device_content", .glo "_law_device_fates", .glo "_law_device_failure", .glo "_law_device_due", .glo "_law_device_holds", .glo "_law_device_refuses", .glo "_law_device_call", .glo "law", .glo "PagesError", .glo "AccessError", .glo "LimitError", .glo "MissingError", .glo "FileError", .glo "CodeError", .glo "BadRange", .glo "Unmapped", .glo "Denied", .glo "BeyondFile", .glo "Device", .cls "Device", .mkr "Device", .meth "Device" "write", .meth "Device" "read", .meth "Device" "pending", .meth "Device" "barrier", .meth "Device" "crash", .noat "BadRange" "start", .noat "BadRange" "end", .noat "Device" "blocks", .noat "Device" "permanent", .noat "Device" "latest", .noat "Device" "writes", .exm "BadRange" "BadRange" true, .exm "BadRange" "AccessError" true]
def fxs : List Fx := [.oex "BadRange", .xf "BadRange", .base "AccessError", .kit "BadRange" "BadRange" true, .kit "BadRange" "PagesError" true, .kitT "BadRange" "ValueError" true, .kit "BadRange" "Unmapped" false, .kit "BadRange" "Denied" false, .kit "BadRange" "BeyondFile" false, .kit "BadRange" "LimitError" false, .kit "BadRange" "MissingError" false, .kit "BadRange" "FileError" false, .kit "BadRange" "CodeError" false]
abbrev TX (K : PySem.W.Frag) (mg : Str → Option Value) : Prop := My.TxE fas fns fxs K mg
section
variable {K : PySem.W.Frag} {mg : Str → Option Value}
theorem fr_list (T : TX K mg) : mg "list" = none := T.tx.fre "list" (T.tx.says.fact 0 rfl)
theorem fr_range (T : TX K mg) : mg "range" = none := T.tx.fre "range" (T.tx.says.fact 1 rfl)
theorem fr_zip (T : TX K mg) : mg "zip" = none := T.tx.fre "zip" (T.tx.says.fact 2 rfl)
theorem fr_len (T : TX K mg) : mg "len" = none := T.tx.fre "len" (T.tx.says.fact 3 rfl)
theorem fr_abs (T : TX K mg) : mg "abs" = none := T.tx.fre "abs" (T.tx.says.fact 4 rfl)
theorem fr_int (T : TX K mg) : mg "int" = none := T.tx.fre "int" (T.tx.says.fact 5 rfl)
theorem fr_isinstance (T : TX K mg) : mg "isinstance" = none := T.tx.fre "isinstance" (T.tx.says.fact 6 rfl)
theorem fr_bool (T : TX K mg) : mg "bool" = none := T.tx.fre "bool" (T.tx.says.fact 7 rfl)
theorem fr_str (T : TX K mg) : mg "str" = none := T.tx.fre "str" (T.tx.says.fact 8 rfl)
theorem fr_tuple (T : TX K mg) : mg "tuple" = none := T.tx.fre "tuple" (T.tx.says.fact 9 rfl)
theorem fr_ValueError (T : TX K mg) : mg "ValueError" = none := T.tx.fre "ValueError" (T.tx.says.fact 10 rfl)
theorem fr_min (T : TX K mg) : mg "min" = none := T.tx.fre "min" (T.tx.says.fact 11 rfl)
theorem gl_check_range (T : TX K mg) : mg "check_range" = some (.ref (He.ga K "check_range")) := T.tx.glo "check_range" (T.tx.says.fact 12 rfl)
theorem gl_l_number (T : TX K mg) : mg "_law_number" = some (.ref (He.ga K "_law_number")) := T.tx.glo "_law_number" (T.tx.says.fact 13 rfl)
theorem gl_l_is_whole (T : TX K mg) : mg "_law_is_whole" = some (.ref (He.ga K "_law_is_whole")) := T.tx.glo "_law_is_whole" (T.tx.says.fact 14 rfl)
theorem gl_l_same (T : TX K mg) : mg "_law_same" = some (.ref (He.ga K "_law_same")) := T.tx.glo "_law_same" (T.tx.says.fact 15 rfl)
theorem gl_l_device_content (T : TX K mg) : mg "_law_device_content" = some (.ref (He.ga K "_law_device_content")) := T.tx.glo "_law_device_content" (T.tx.says.fact 16 rfl)
theorem gl_l_device_fates (T : TX K mg) : mg "_law_device_fates" = some (.ref (He.ga K "_law_device_fates")) := T.tx.glo "_law_device_fates" (T.tx.says.fact 17 rfl)
theorem gl_l_device_failure (T : TX K mg) : mg "_law_device_failure" = some (.ref (He.ga K "_law_device_failure")) := T.tx.glo "_law_device_failure" (T.tx.says.fact 18 rfl)
theorem gl_l_device_due (T : TX K mg) : mg "_law_device_due" = some (.ref (He.ga K "_law_device_due")) := T.tx.glo "_law_device_due" (T.tx.says.fact 19 rfl)
theorem gl_l_device_holds (T : TX K mg) : mg "_law_device_holds" = some (.ref (He.ga K "_law_device_holds")) := T.tx.glo "_law_device_holds" (T.tx.says.fact 20 rfl)
theorem gl_l_device_refuses (T : TX K mg) : mg "_law_device_refuses" = some (.ref (He.ga K "_law_device_refuses")) := T.tx.glo "_law_device_refuses" (T.tx.says.fact 21 rfl)
theorem gl_l_device_call (T : TX K mg) : mg "_law_device_call" = some (.ref (He.ga K "_law_device_call")) := T.tx.glo "_law_device_call" (T.tx.says.fact 22 rfl)
theorem gl_law (T : TX K mg) : mg "law" = some (.ref (He.ga K "law")) := T.tx.glo "law" (T.tx.says.fact 23 rfl)
theorem gl_PagesError (T : TX K mg) : mg "PagesError" = some (.ref (He.ga K "PagesError")) := T.tx.glo "PagesError" (T.tx.says.fact 24 rfl)
theorem gl_AccessError (T : TX K mg) : mg "AccessError" = some (.ref (He.ga K "AccessError")) := T.tx.glo "AccessError" (T.tx.says.fact 25 rfl)
theorem gl_LimitError (T : TX K mg) : mg "LimitError" = some (.ref (He.ga K "LimitError")) := T.tx.glo "LimitError" (T.tx.says.fact 26 rfl)
theorem gl_MissingError (T : TX K mg) : mg "MissingError" = some (.ref (He.ga K "MissingError")) := T.tx.glo "MissingError" (T.tx.says.fact 27 rfl)
theorem gl_FileError (T : TX K mg) : mg "FileError" = some (.ref (He.ga K "FileError")) := T.tx.glo "FileError" (T.tx.says.fact 28 rfl)
theorem gl_CodeError (T : TX K mg) : mg "CodeError" = some (.ref (He.ga K "CodeError")) := T.tx.glo "CodeError" (T.tx.says.fact 29 rfl)
theorem gl_BadRange (T : TX K mg) : mg "BadRange" = some (.ref (He.ga K "BadRange")) := T.tx.glo "BadRange" (T.tx.says.fact 30 rfl)
theorem gl_Unmapped (T : TX K mg) : mg "Unmapped" = some (.ref (He.ga K "Unmapped")) := T.tx.glo "Unmapped" (T.tx.says.fact 31 rfl)
theorem gl_Denied (T : TX K mg) : mg "Denied" = some (.ref (He.ga K "Denied")) := T.tx.glo "Denied" (T.tx.says.fact 32 rfl)
theorem gl_BeyondFile (T : TX K mg) : mg "BeyondFile" = some (.ref (He.ga K "BeyondFile")) := T.tx.glo "BeyondFile" (T.tx.says.fact 33 rfl)
theorem gl_Device (T : TX K mg) : mg "Device" = some (.ref (He.ga K "Device")) := T.tx.glo "Device" (T.tx.says.fact 34 rfl)
theorem cls_Device (T : TX K mg) : Cls K (He.ga K "Device") := He.cls_ok (T.tx.says.fact 35 rfl)
theorem mkr_Device (T : TX K mg) : Mk K (He.ga K "Device") (He.ma K (He.ga K "Device") "__init__") := He.mkr_ok (T.tx.says.fact 36 rfl)
theorem meth_Device_write (T : TX K mg) : Meth K (He.ga K "Device") "write" (He.ma K (He.ga K "Device") "write") := He.meth_ok (T.tx.says.fact 37 rfl)
theorem meth_Device_read (T : TX K mg) : Meth K (He.ga K "Device") "read" (He.ma K (He.ga K "Device") "read") := He.meth_ok (T.tx.says.fact 38 rfl)
theorem meth_Device_pending (T : TX K mg) : Meth K (He.ga K "Device") "pending" (He.ma K (He.ga K "Device") "pending") := He.meth_ok (T.tx.says.fact 39 rfl)
theorem meth_Device_barrier (T : TX K mg) : Meth K (He.ga K "Device") "barrier" (He.ma K (He.ga K "Device") "barrier") := He.meth_ok (T.tx.says.fact 40 rfl)
theorem meth_Device_crash (T : TX K mg) : Meth K (He.ga K "Device") "crash" (He.ma K (He.ga K "Device") "crash") := He.meth_ok (T.tx.says.fact 41 rfl)
theorem na_BadRange_start (T : TX K mg) : NoAttr K (He.ga K "BadRange") "start" := He.noat_ok (T.tx.says.fact 42 rfl)
theorem na_BadRange_end (T : TX K mg) : NoAttr K (He.ga K "BadRange") "end" := He.noat_ok (T.tx.says.fact 43 rfl)
theorem na_Device_blocks (T : TX K mg) : NoAttr K (He.ga K "Device") "blocks" := He.noat_ok (T.tx.says.fact 44 rfl)
theorem na_Device_permanent (T : TX K mg) : NoAttr K (He.ga K "Device") "permanent" := He.noat_ok (T.tx.says.fact 45 rfl)
theorem na_Device_latest (T : TX K mg) : NoAttr K (He.ga K "Device") "latest" := He.noat_ok (T.tx.says.fact 46 rfl)
theorem na_Device_writes (T : TX K mg) : NoAttr K (He.ga K "Device") "writes" := He.noat_ok (T.tx.says.fact 47 rfl)
theorem exm_BadRange_BadRange (T : TX K mg) : PySem.W.exmOne K (.ref (He.ga K "BadRange")) (.ref (He.ga K "BadRange")) = some true := He.exm_ok (T.tx.says.fact 48 rfl)
theorem exm_BadRange_AccessError (T : TX K mg) : PySem.W.exmOne K (.ref (He.ga K "BadRange")) (.ref (He.ga K "AccessError")) = some true := He.exm_ok (T.tx.says.fact 49 rfl)
theorem oex_BadRange (T : TX K mg) : OexC K (He.ga K "BadRange") ∧ PySem.W.findIn K (.ref (He.ga K "BadRange")) "__init__" = some (some (.ref (He.ma K (He.ga K "BadRange") "__init__"))) ∧ PySem.W.typeIn K (.ref (He.ma K (He.ga K "BadRange") "__init__")) = some (.type "function") := oex_ok (T.fx 0 rfl)
theorem xf_BadRange (T : TX K mg) : XcC K (He.ga K "BadRange") := xf_ok (T.fx 1 rfl)
theorem base_AccessError (T : TX K mg) : PySem.W.readsIn K (He.ga K "AccessError") (.type "type") = true ∧ PySem.W.specialIn K (.ref (He.ga K "AccessError")) "__getattribute__" = some (some (.builtin "type.__getattribute__")) ∧ PySem.W.findCls K (.ref (He.ga K "AccessError")) (.type "type") "__init__" = some (.val (.builtin "ValueError.__init__")) := base_ok (T.fx 2 rfl)
theorem kit_BadRange_BadRange (T : TX K mg) : PySem.W.kitOne K (.ref (He.ga K "BadRange")) (.ref (He.ga K "BadRange")) = some true := of_decide_eq_true (T.fx 3 rfl)
theorem kit_BadRange_PagesError (T : TX K mg) : PySem.W.kitOne K (.ref (He.ga K "BadRange")) (.ref (He.ga K "PagesError")) = some true := of_decide_eq_true (T.fx 4 rfl)
theorem kit_BadRange_ValueError (T : TX K mg) : PySem.W.kitOne K (.ref (He.ga K "BadRange")) (.type "ValueError") = some true := of_decide_eq_true (T.fx 5 rfl)
theorem kit_BadRange_Unmapped (T : TX K mg) : PySem.W.kitOne K (.ref (He.ga K "BadRange")) (.ref (He.ga K "Unmapped")) = some false := of_decide_eq_true (T.fx 6 rfl)
theorem kit_BadRange_Denied (T : TX K mg) : PySem.W.kitOne K (.ref (He.ga K "BadRange")) (.ref (He.ga K "Denied")) = some false := of_decide_eq_true (T.fx 7 rfl)
theorem kit_BadRange_BeyondFile (T : TX K mg) : PySem.W.kitOne K (.ref (He.ga K "BadRange")) (.ref (He.ga K "BeyondFile")) = some false := of_decide_eq_true (T.fx 8 rfl)
theorem kit_BadRange_LimitError (T : TX K mg) : PySem.W.kitOne K (.ref (He.ga K "BadRange")) (.ref (He.ga K "LimitError")) = some false := of_decide_eq_true (T.fx 9 rfl)
theorem kit_BadRange_MissingError (T : TX K mg) : PySem.W.kitOne K (.ref (He.ga K "BadRange")) (.ref (He.ga K "MissingError")) = some false := of_decide_eq_true (T.fx 10 rfl)
theorem kit_BadRange_FileError (T : TX K mg) : PySem.W.kitOne K (.ref (He.ga K "BadRange")) (.ref (He.ga K "FileError")) = some false := of_decide_eq_true (T.fx 11 rfl)
theorem kit_BadRange_CodeError (T : TX K mg) : PySem.W.kitOne K (.ref (He.ga K "BadRange")) (.ref (He.ga K "CodeError")) = some false := of_decide_eq_true (T.fx 12 rfl)
theorem fd_BadRange___init__ (T : TX K mg) : ∃ fd, FunD K "__init__" "BadRange.__init__" (defArgs s_BadRange___init__) (defBody s_BadRange___init__) (defScope s_BadRange___init__) [] [] (He.ma K (He.ga K "BadRange") "__init__") fd := T.tx.says.def_ 0 (d := dd_BadRange___init__) rfl
theorem fd_Unmapped___init__ (T : TX K mg) : ∃ fd, FunD K "__init__" "Unmapped.__init__" (defArgs s_Unmapped___init__) (defBody s_Unmapped___init__) (defScope s_Unmapped___init__) [] [] (He.ma K (He.ga K "Unmapped") "__init__") fd := T.tx.says.def_ 1 (d := dd_Unmapped___init__) rfl
theorem fd_Denied___init__ (T : TX K mg) : ∃ fd, FunD K "__init__" "Denied.__init__" (defArgs s_Denied___init__) (defBody s_Denied___init__) (defScope s_Denied___init__) [] [] (He.ma K (He.ga K "Denied") "__init__") fd := T.tx.says.def_ 2 (d := dd_Denied___init__) rfl
theorem fd_BeyondFile___init__ (T : TX K mg) : ∃ fd, FunD K "__init__" "BeyondFile.__init__" (defArgs s_BeyondFile___init__) (defBody s_BeyondFile___init__) (defScope s_BeyondFile___init__) [] [] (He.ma K (He.ga K "BeyondFile") "__init__") fd := T.tx.says.def_ 3 (d := dd_BeyondFile___init__) rfl
theorem fd_check_range (T : TX K mg) : ∃ fd, FunD K "check_range" "check_range" (defArgs s_check_range) (defBody s_check_range) (defScope s_check_range) [] [] (He.ga K "check_range") fd := T.tx.says.def_ 4 (d := dd_check_range) rfl
theorem fd_Device___init__ (T : TX K mg) : ∃ fd, FunD K "__init__" "Device.__init__" (defArgs s_Device___init__) (defBody s_Device___init__) (defScope s_Device___init__) [] [] (He.ma K (He.ga K "Device") "__init__") fd := T.tx.says.def_ 5 (d := dd_Device___init__) rfl
theorem fd_Device_write (T : TX K mg) : ∃ fd, FunD K "write" "Device.write" (defArgs s_Device_write) (defBody s_Device_write) (defScope s_Device_write) [] [] (He.ma K (He.ga K "Device") "write") fd := T.tx.says.def_ 6 (d := dd_Device_write) rfl
theorem fd_Device_read (T : TX K mg) : ∃ fd, FunD K "read" "Device.read" (defArgs s_Device_read) (defBody s_Device_read) (defScope s_Device_read) [] [] (He.ma K (He.ga K "Device") "read") fd := T.tx.says.def_ 7 (d := dd_Device_read) rfl
theorem fd_Device_pending (T : TX K mg) : ∃ fd, FunD K "pending" "Device.pending" (defArgs s_Device_pending) (defBody s_Device_pending) (defScope s_Device_pending) [] [] (He.ma K (He.ga K "Device") "pending") fd := T.tx.says.def_ 8 (d := dd_Device_pending) rfl
theorem fd_Device_barrier (T : TX K mg) : ∃ fd, FunD K "barrier" "Device.barrier" (defArgs s_Device_barrier) (defBody s_Device_barrier) (defScope s_Device_barrier) [] [] (He.ma K (He.ga K "Device") "barrier") fd := T.tx.says.def_ 9 (d := dd_Device_barrier) rfl
theorem fd_Device_crash (T : TX K mg) : ∃ fd, FunD K "crash" "Device.crash" (defArgs s_Device_crash) (defBody s_Device_crash) (defScope s_Device_crash) [] [] (He.ma K (He.ga K "Device") "crash") fd := T.tx.says.def_ 10 (d := dd_Device_crash) rfl
theorem fd_l_number (T : TX K mg) : ∃ fd, FunD K "_law_number" "_law_number" (defArgs s_l_number) (defBody s_l_number) (defScope s_l_number) [] [] (He.ga K "_law_number") fd := T.tx.says.def_ 11 (d := dd_l_number) rfl
theorem fd_l_is_whole (T : TX K mg) : ∃ fd, FunD K "_law_is_whole" "_law_is_whole" (defArgs s_l_is_whole) (defBody s_l_is_whole) (defScope s_l_is_whole) [] [] (He.ga K "_law_is_whole") fd := T.tx.says.def_ 12 (d := dd_l_is_whole) rfl
theorem fd_l_same (T : TX K mg) : ∃ fd, FunD K "_law_same" "_law_same" (defArgs s_l_same) (defBody s_l_same) (defScope s_l_same) [] [] (He.ga K "_law_same") fd := T.tx.says.def_ 13 (d := dd_l_same) rfl
theorem fd_l_device_content (T : TX K mg) : ∃ fd, FunD K "_law_device_content" "_law_device_content" (defArgs s_l_device_content) (defBody s_l_device_content) (defScope s_l_device_content) [] [] (He.ga K "_law_device_content") fd := T.tx.says.def_ 14 (d := dd_l_device_content) rfl
theorem fd_l_device_fates (T : TX K mg) : ∃ fd, FunD K "_law_device_fates" "_law_device_fates" (defArgs s_l_device_fates) (defBody s_l_device_fates) (defScope s_l_device_fates) [] [] (He.ga K "_law_device_fates") fd := T.tx.says.def_ 15 (d := dd_l_device_fates) rfl
theorem fd_l_device_failure (T : TX K mg) : ∃ fd, FunD K "_law_device_failure" "_law_device_failure" (defArgs s_l_device_failure) (defBody s_l_device_failure) (defScope s_l_device_failure) [] [] (He.ga K "_law_device_failure") fd := T.tx.says.def_ 16 (d := dd_l_device_failure) rfl
theorem fd_l_device_due (T : TX K mg) : ∃ fd, FunD K "_law_device_due" "_law_device_due" (defArgs s_l_device_due) (defBody s_l_device_due) (defScope s_l_device_due) [] [] (He.ga K "_law_device_due") fd := T.tx.says.def_ 17 (d := dd_l_device_due) rfl
theorem fd_l_device_holds (T : TX K mg) : ∃ fd, FunD K "_law_device_holds" "_law_device_holds" (defArgs s_l_device_holds) (defBody s_l_device_holds) (defScope s_l_device_holds) [] [] (He.ga K "_law_device_holds") fd := T.tx.says.def_ 18 (d := dd_l_device_holds) rfl
theorem fd_l_device_refuses (T : TX K mg) : ∃ fd, FunD K "_law_device_refuses" "_law_device_refuses" (defArgs s_l_device_refuses) (defBody s_l_device_refuses) (defScope s_l_device_refuses) [] [] (He.ga K "_law_device_refuses") fd := T.tx.says.def_ 19 (d := dd_l_device_refuses) rfl
theorem fd_l_device_call (T : TX K mg) : ∃ fd, FunD K "_law_device_call" "_law_device_call" (defArgs s_l_device_call) (defBody s_l_device_call) (defScope s_l_device_call) [] [] (He.ga K "_law_device_call") fd := T.tx.says.def_ 20 (d := dd_l_device_call) rfl
theorem fd_law (T : TX K mg) : ∃ fd, FunD K "law" "law" (defArgs s_law) (defBody s_law) (defScope s_law) [] [] (He.ga K "law") fd := T.tx.says.def_ 21 (d := dd_law) rfl
end
/-! ### _law_number -/
def lnIt : Nat → Int → Int
  | 0, r => r
  | n + 1, r => lnIt n r / 1000
theorem lnIt_zero {n : Nat} {r : Int} (h : lnIt n r = 0) : ∀ m, n ≤ m → lnIt m r = 0 := fun m l => by
  induction l with
  | refl => exact h
  | step _ ih =>
    show lnIt _ r / 1000 = 0
    rw [ih]
    rfl
theorem lnIt_nn {r : Int} (h : 0 ≤ r) : ∀ n, 0 ≤ lnIt n r
  | 0 => h
  | n + 1 => by
    have := lnIt_nn h n
    show 0 ≤ lnIt n r / 1000
    omega
def lnAbs (i : Int) : Int := if i < 0 then -i else i
def lnCell (ns : List Int) (a : Int) : Int := if ns.length = 0 then 0 else lnAbs (ns.getD (a % (ns.length : Int)).toNat 0)
def lnTurn (ns : List Int) (a : Int) : Int := if ns.length = 0 then a else a / (ns.length : Int)
def lnEnd (m p sz : Int) : Int :=
  let m1 := (m + 7919 * p + 13) % 2147483647
  let m2 := (m1 * (m1 + 48271)) % 2147483629
  let m3 := (m2 * (m2 + 69621) + 31 * p) % 2147483647
  (m3 / 9) % sz
@[irreducible] def lawNum (ns : List Int) (a k sz : Int) : Int :=
  if 10 ^ 18 ≤ lnCell ns a ∧ 0 < lnIt (k + 16 * lnTurn ns a).toNat (lnCell ns a / 10 ^ 18) then (lnIt (k + 16 * lnTurn ns a).toNat (lnCell ns a / 10 ^ 18) % 1000) % sz
  else lnEnd (lnCell ns a) (k + 16 * lnTurn ns a) sz
theorem lawNum_nn (ns : List Int) (a k sz : Int) (h : 0 < sz) : 0 ≤ lawNum ns a k sz := by
  unfold lawNum lnEnd
  split <;> exact Int.emod_nonneg _ (by omega)
theorem lawNum_lt (ns : List Int) (a k sz : Int) (h : 0 < sz) : lawNum ns a k sz < sz := by
  unfold lawNum lnEnd
  split <;> exact Int.emod_lt_of_pos _ h
def NumOk (a k sz : Int) : Prop := -1000000 ≤ a ∧ a ≤ 1000000 ∧ -1000000 ≤ k ∧ k ≤ 1000000 ∧ 0 < sz
def spNum (K : PySem.W.Frag) : Sp := fun vs H Q _ => ∃ (s : Addr) (ns : List Int) (a k sz : Int), vs = [.ref s, .int a, .int k, .int sz] ∧ SqL K H s (ns.map V.int) ∧ ns.length ≤ 63 ∧ NumOk a k sz ∧ RetV (.int (lawNum ns a k sz)) H Q
theorem sv_num {K : PySem.W.Frag} {H : Hp} {s : Addr} {ns : List Int} {a k sz : Int} (h : SqL K H s (ns.map V.int)) (hl : ns.length ≤ 63) (ok : NumOk a k sz) : SpV (spNum K) [.ref s, .int a, .int k, .int sz] H (.int (lawNum ns a k sz)) :=
  fun H1 e Q q E => ⟨s, ns, a, k, sz, rfl, ex_l e h, hl, ok, q⟩
section
variable {P : Program} {w : World} {K : PySem.W.Frag} {mg : Str → Option Value} {base : Heap}
theorem ev_cellAt {ns : List Int} {s : Addr} {σ : L2.St} {H : Hp} {ta tb : TE} {i : Int} (ha : Ev ta σ H (.ref s)) (hb : Ev tb σ H (.int i)) (h : SqL K H s (ns.map V.int)) (h0 : 0 ≤ i) (h1 : i < (ns.length : Int)) : Ev (tOp (rIxL K) ta tb) σ H (.int (ns.getD i.toNat 0)) := by
  have e : ((i.toNat : Nat) : Int) = i := Int.toNat_of_nonneg h0
  have l : i.toNat < ns.length := by omega
  refine ev_op ha hb (rv_ixL h ?_)
  rw [← e]
  refine atI_nat ?_
  rw [Int.toNat_natCast, List.getElem?_map, List.getElem?_eq_getElem l, List.getD_eq_getElem?_getD, List.getElem?_eq_getElem l]
  rfl
theorem sc_l_number : FnScope ["_law_script", "_law_at", "_law_k", "_law_size", "_law_cell", "_law_turn", "_law_pick", "_law_rest", "_law_step", "_law_mixed"] ["_law_script", "_law_at", "_law_k", "_law_size"] (defScope s_l_number) := ⟨rfl, rfl, rfl, by decide +kernel, rfl, by decide +kernel, by decide +kernel⟩
theorem fn_l_number (T : TX K mg) : ∃ fd, FunD K "_law_number" "_law_number" (defArgs s_l_number) (defBody s_l_number) (defScope s_l_number) [] [] (He.ga K "_law_number") fd ∧ FnOk P w K mg base CX0 (1) (He.ga K "_law_number") fd ["_law_script", "_law_at", "_law_k", "_law_size"] (spNum K) := by
  obtain ⟨fd, F⟩ := fd_l_number T
  refine ⟨fd, F, My.FunD.ok0 F sc_l_number (fun vs H Q E h => ?_) (fun cdv A outer s0 H vs Q E hr h => ?_)⟩
  · obtain ⟨s, ns, a, k, sz, rfl, hS, hl, ok, hQ⟩ := h
    rfl
  obtain ⟨s, ns, a, k, sz, rfl, hS, hl, ok, hQ⟩ := h
  have hu := hu_of hr
  refine ⟨_, (pss_cons (ps_set (i := 4) sc_l_number.nd rfl (Or.inl rfl) pe_int)
      (pss_cons (ps_set (i := 5) sc_l_number.nd rfl (Or.inl rfl) (pv 1))
      (pss_cut (ps_if (pt_cmpR op_gt (pe_callB (lenQ K) (by rfl) (fr_len T) PySem.boot_len (pa_cons (pv 0) pa_nil)) pe_int (nomark _)) (pss_cons (ps_set (i := 4) sc_l_number.nd rfl (Or.inl rfl) (pe_callB call_abs (by rfl) (fr_abs T) (by decide +kernel) (pa_cons (pe_ix (ixL K) (pv 0) (pe_op op_mod (pe_callTy call_int1 (by rfl) (fr_int T) (by decide +kernel) (pa_cons (pv 1) pa_nil)) (pe_callB (lenQ K) (by rfl) (fr_len T) PySem.boot_len (pa_cons (pv 0) pa_nil))) (fun _ _ => rfl)) pa_nil)))
      (pss_one (ps_set (i := 5) sc_l_number.nd rfl (Or.inl rfl) (pe_op op_fdiv (pv 1) (pe_callB (lenQ K) (by rfl) (fr_len T) PySem.boot_len (pa_cons (pv 0) pa_nil)))))) pss_nil)
      (pss_cons (ps_set (i := 6) sc_l_number.nd rfl (Or.inl rfl) (pe_op op_add (pv 2) (pe_op op_mul pe_int (pv 5))))
      (pss_cut (ps_if (pt_cmpR op_ge (pv 4) (pe_op op_pow pe_int pe_int) (nomark _)) (pss_cons (ps_set (i := 7) sc_l_number.nd rfl (Or.inl rfl) (pe_op op_fdivW (pv 4) (pe_op op_pow pe_int pe_int)))
      (pss_cut (ps_for PassesOwn.never rfl (pi_range1 rfl (fr_range T) (pa_cons (pv 6) pa_nil)) (pg_name (i := 8) sc_l_number.nd rfl (Or.inl rfl)) (pss_cons (ps_if (pt_cmpR op_eq (pv 7) pe_int (nomark _)) (pss_one ps_break) pss_nil)
      (pss_one (ps_set (i := 7) sc_l_number.nd rfl (Or.inl rfl) (pe_op op_fdiv (pv 7) pe_int)))))
      (pss_one (ps_if (pt_cmpR op_gt (pv 7) pe_int (nomark _)) (pss_one (ps_ret (pe_op op_mod (pe_callTy call_int1 (by rfl) (fr_int T) (by decide +kernel) (pa_cons (pe_op op_mod (pe_callTy call_int1 (by rfl) (fr_int T) (by decide +kernel) (pa_cons (pv 7) pa_nil)) pe_int) pa_nil)) (pv 3)))) pss_nil)))) pss_nil)
      (pss_cons (ps_set (i := 9) sc_l_number.nd rfl (Or.inl rfl) (pe_op op_mod (pe_callTy call_int1 (by rfl) (fr_int T) (by decide +kernel) (pa_cons (pe_op op_add (pe_op op_add (pv 4) (pe_op op_mul pe_int (pv 6))) pe_int) pa_nil)) pe_int))
      (pss_cons (ps_set (i := 9) sc_l_number.nd rfl (Or.inl rfl) (pe_op op_mod (pe_callTy call_int1 (by rfl) (fr_int T) (by decide +kernel) (pa_cons (pe_op op_mul (pv 9) (pe_op op_add (pv 9) pe_int)) pa_nil)) pe_int))
      (pss_cons (ps_set (i := 9) sc_l_number.nd rfl (Or.inl rfl) (pe_op op_mod (pe_callTy call_int1 (by rfl) (fr_int T) (by decide +kernel) (pa_cons (pe_op op_add (pe_op op_mul (pv 9) (pe_op op_add (pv 9) pe_int)) (pe_op op_mul pe_int (pv 6))) pa_nil)) pe_int))
      (pss_one (ps_ret (pe_op op_mod (pe_callTy call_int1 (by rfl) (fr_int T) (by decide +kernel) (pa_cons (pe_op op_fdiv (pv 9) pe_int) pa_nil)) (pv 3)))))))))))), ?_⟩
  unfold NumOk at ok
  have hL : ((ns.map V.int).length : Int) = (ns.length : Int) := by rw [List.length_map]
  refine q_asg ev_c fun H1 e1 => ?_
  refine q_asg (ev_var rfl) fun H2 e2 => ?_
  have E2 := e1.trans e2
  -- if len(script) > 0
  refine q_cut (M := fun σ' H' => Ex H H' ∧ σ' = [some (.ref s), some (.int a), some (.int k), some (.int sz), some (.int (lnCell ns a)), some (.int (lnTurn ns a)), none, none, none, none])
    (s_if (et_test (ev_op (ev_cb (ea_cons (ev_var rfl) ea_nil) (rc_lenL (ex_l E2 hS))) ev_c rv_I0)) (fun hb H3 e3 => ?_) (fun hb H3 e3 => ?_)) (fun σ4 H4 hM => ?_)
  · have hp : (0 : Int) < (ns.length : Int) := by
      have := of_decide_eq_true hb
      rw [hL] at this
      exact this
    have E3 := E2.trans e3
    have hS3 := ex_l E3 hS
    have em := Int.emod_nonneg a (show (ns.length : Int) ≠ 0 by omega)
    have el := Int.emod_lt_of_pos a hp
    have nz : ¬ ns.length = 0 := by omega
    refine q_asg (ev_cb (ea_cons (ev_cellAt (ns := ns) (i := a % (ns.length : Int)) (ev_var rfl) (ev_is (ev_op (ev_cb (ea_cons (ev_var rfl) ea_nil) rc_int) (ev_cb (ea_cons (ev_var rfl) ea_nil) (rc_lenL hS3)) (rv_I (by rw [hL]; exact hp))) (by rw [hL])) hS3 em el) ea_nil) rc_abs) fun H4 e4 => ?_
    have hS4 := ex_l e4 hS3
    refine s_asg (ev_op (ev_var rfl) (ev_cb (ea_cons (ev_var rfl) ea_nil) (rc_lenL hS4)) (rv_I (by rw [hL]; exact ⟨hp, by omega⟩))) fun H5 e5 => ?_
    refine ⟨(E3.trans e4).trans e5, ?_⟩
    unfold lnCell lnTurn lnAbs
    rw [if_neg nz, if_neg nz, hL]
    rfl
  · have hp : ns.length = 0 := by
      have := of_decide_eq_false hb
      rw [hL] at this
      omega
    refine ⟨E2.trans e3, ?_⟩
    unfold lnCell lnTurn
    rw [if_pos hp, if_pos hp]
    rfl
  obtain ⟨E4, rfl⟩ := hM
  have hturn : -1000000 ≤ lnTurn ns a ∧ lnTurn ns a ≤ 1000000 := by
    unfold lnTurn
    split
    · omega
    · have hp : (0 : Int) < (ns.length : Int) := by omega
      refine ⟨?_, ?_⟩
      · rw [Int.le_ediv_iff_mul_le hp]
        omega
      · have h2 : a / (ns.length : Int) < 1000000 + 1 := by
          rw [Int.ediv_lt_iff_lt_mul hp]
          omega
        omega
  have hcell : 0 ≤ lnCell ns a := by
    unfold lnCell lnAbs
    split
    · exact Int.le_refl _
    · split <;> omega
  have hnum : lawNum ns a k sz = if 10 ^ 18 ≤ lnCell ns a ∧ 0 < lnIt (k + 16 * lnTurn ns a).toNat (lnCell ns a / 10 ^ 18) then (lnIt (k + 16 * lnTurn ns a).toNat (lnCell ns a / 10 ^ 18) % 1000) % sz
      else lnEnd (lnCell ns a) (k + 16 * lnTurn ns a) sz := by unfold lawNum; rfl
  rw [hnum] at hQ
  clear hnum
  generalize lnCell ns a = c at *
  generalize lnTurn ns a = tn at *
  refine q_asg (ev_op (ev_var rfl) (ev_op ev_c (ev_var rfl) (rv_I (Or.inl (by decide)))) rv_I0) fun H5 e5 => ?_
  have E5 := E4.trans e5
  have d18 : CPow 10 18 := by unfold CPow; decide
  have n18 : ((10 : Int) ^ (18 : Int).toNat) = 10 ^ 18 := rfl
  generalize hp : k + 16 * tn = p at *
  refine q_cut (M := fun σ' H' => Ex H H' ∧ (∃ o1 o2, σ' = [some (.ref s), some (.int a), some (.int k), some (.int sz), some (.int c), some (.int tn), some (.int p), o1, o2, none]) ∧ ¬ (10 ^ 18 ≤ c ∧ 0 < lnIt p.toNat (c / 10 ^ 18)))
    (s_if (et_test (ev_op (ev_var rfl) (ev_op ev_c ev_c (rv_I d18)) rv_I0)) (fun hb H6 e6 => ?_) (fun hb H6 e6 => ?_)) (fun σ7 H7 hM => ?_)
  · have hb' : (10 : Int) ^ 18 ≤ c := of_decide_eq_true hb
    have dw : CDivW c (10 ^ 18) := wide_div (b := 60) (by decide) (by decide) (by decide) (by decide)
    refine q_asg (ev_op (ev_var rfl) (ev_op ev_c ev_c (rv_I d18)) (rv_I dw)) fun H7 e7 => ?_
    have E7 := (E5.trans e6).trans e7
    refine q_forR1' (n := p) (ea_cons (ev_var rfl) ea_nil) (by omega) (fun i σ' H' => Ex H H' ∧ ∃ o, σ' = [some (.ref s), some (.int a), some (.int k), some (.int sz), some (.int c), some (.int tn), some (.int p), some (.int (lnIt i (c / 10 ^ 18))), o, none])
      (fun σ' H' => Ex H H' ∧ ∃ o, σ' = [some (.ref s), some (.int a), some (.int k), some (.int sz), some (.int c), some (.int tn), some (.int p), some (.int (lnIt p.toNat (c / 10 ^ 18))), o, none]) ?_ ?_ ?_ ?_
    · exact fun H8 e8 => ⟨E7.trans e8, _, rfl⟩
    · rintro i σ' H' hi ⟨E8, o, rfl⟩
      refine q_when (et_test (ev_op (ev_var rfl) ev_c (rv_eq rfl))) (fun hb H9 e9 => ?_) (fun hb H9 e9 => ?_)
      · refine ⟨E8.trans e9, some (.int (i : Int)), ?_⟩
        have hz : lnIt i (c / 10 ^ 18) = 0 := by
          have := of_decide_eq_true hb
          injection this
        rw [hz, lnIt_zero hz p.toNat (by omega)]
        rfl
      · exact s_asg (ev_op (ev_var rfl) ev_c (rv_I (by unfold CDiv; decide))) fun H10 e10 => ⟨(E8.trans e9).trans e10, _, rfl⟩
    · rintro σ' H' ⟨E8, o, rfl⟩
      exact ⟨E8, _, rfl⟩
    · rintro σ' H' ⟨E8, o, rfl⟩
      refine s_when (et_test (ev_op (ev_var rfl) ev_c rv_I0)) (fun hb H9 e9 => ?_) (fun hb H9 e9 => ?_)
      · have hr0 : (0 : Int) < lnIt p.toNat (c / 10 ^ 18) := of_decide_eq_true hb
        rw [if_pos ⟨hb', hr0⟩] at hQ
        refine s_ret (ev_op (ev_cb (ea_cons (ev_op (ev_cb (ea_cons (ev_var rfl) ea_nil) rc_int) ev_c (rv_I (by decide))) ea_nil) rc_int) (ev_var rfl) (rv_I ok.2.2.2.2)) fun H10 e10 => ?_
        exact hQ H10 ((E8.trans e9).trans e10)
      · have hr0 : ¬ (0 : Int) < lnIt p.toNat (c / 10 ^ 18) := of_decide_eq_false hb
        exact ⟨E8.trans e9, ⟨_, _, rfl⟩, fun z => hr0 z.2⟩
  · have hb' : ¬ (10 : Int) ^ 18 ≤ c := of_decide_eq_false hb
    exact ⟨E5.trans e6, ⟨_, _, rfl⟩, fun z => hb' z.1⟩
  obtain ⟨E7, ⟨o1, o2, rfl⟩, hn⟩ := hM
  rw [if_neg hn] at hQ
  unfold lnEnd at hQ
  dsimp only at hQ
  have a1 := Int.emod_nonneg (c + 7919 * p + 13) (show (2147483647 : Int) ≠ 0 by decide)
  have b1 := Int.emod_lt_of_pos (c + 7919 * p + 13) (show (0 : Int) < 2147483647 by decide)
  refine q_asg (ev_op (ev_cb (ea_cons (ev_op (ev_op (ev_var rfl) (ev_op ev_c (ev_var rfl) (rv_I (Or.inl (by decide)))) rv_I0) ev_c rv_I0) ea_nil) rc_int) ev_c (rv_I (by decide))) fun H8 e8 => ?_
  generalize (c + 7919 * p + 13) % 2147483647 = m1 at *
  have a2 := Int.emod_nonneg (m1 * (m1 + 48271)) (show (2147483629 : Int) ≠ 0 by decide)
  have b2 := Int.emod_lt_of_pos (m1 * (m1 + 48271)) (show (0 : Int) < 2147483629 by decide)
  refine q_asg (ev_op (ev_cb (ea_cons (ev_op (ev_var rfl) (ev_op (ev_var rfl) ev_c rv_I0) (rv_I (Or.inl (by constructor <;> omega)))) ea_nil) rc_int) ev_c (rv_I (by decide))) fun H9 e9 => ?_
  generalize (m1 * (m1 + 48271)) % 2147483629 = m2 at *
  refine q_asg (ev_op (ev_cb (ea_cons (ev_op (ev_op (ev_var rfl) (ev_op (ev_var rfl) ev_c rv_I0) (rv_I (Or.inl (by constructor <;> omega)))) (ev_op ev_c (ev_var rfl) (rv_I (Or.inl (by decide)))) rv_I0) ea_nil) rc_int) ev_c (rv_I (by decide))) fun H10 e10 => ?_
  refine s_ret (ev_op (ev_cb (ea_cons (ev_op (ev_var rfl) ev_c (rv_I (by unfold CDiv; decide))) ea_nil) rc_int) (ev_var rfl) (rv_I ok.2.2.2.2)) fun H11 e11 => ?_
  exact hQ H11 (((E7.trans e8).trans e9).trans (e10.trans e11))
theorem ok_l_number (T : TX K mg) : DefOk P w K mg base (1) "_law_number" ["_law_script", "_law_at", "_law_k", "_law_size"] [] (spNum K) := by
  obtain ⟨fd, F, h⟩ := fn_l_number (P := P) (w := w) (base := base) T
  exact DefOk.of F (gl_l_number T) (F.bindsN fun _ _ _ _ _ _ us hl => match us, hl with | [_, _, _, _], _ => rfl) h
/-! ### _law_is_whole, _law_same -/
def isInt (d : PyData) : Bool := isB "int" (tyN d) && !isB "bool" (tyN d)
def spWhole (K : PySem.W.Frag) : Sp := fun vs H Q _ => ∃ (v : V) (d : PyData), vs = [v] ∧ Dp K H v d ∧ RetV (.bl (isInt d)) H Q
theorem sv_whole {K : PySem.W.Frag} {H : Hp} {v : V} {d : PyData} (h : Dp K H v d) : SpV (spWhole K) [v] H (.bl (isInt d)) := fun H1 e Q q E => ⟨v, d, rfl, dp_ex e h, q⟩
theorem sc_l_is_whole : FnScope ["_law_told"] ["_law_told"] (defScope s_l_is_whole) := ⟨rfl, rfl, rfl, by decide +kernel, rfl, by decide +kernel, by decide +kernel⟩
theorem fn_l_is_whole (T : TX K mg) : ∃ fd, FunD K "_law_is_whole" "_law_is_whole" (defArgs s_l_is_whole) (defBody s_l_is_whole) (defScope s_l_is_whole) [] [] (He.ga K "_law_is_whole") fd ∧ FnOk P w K mg base CX0 (1) (He.ga K "_law_is_whole") fd ["_law_told"] (spWhole K) := by
  obtain ⟨fd, F⟩ := fd_l_is_whole T
  refine ⟨fd, F, My.FunD.ok0 F sc_l_is_whole (fun vs H Q E h => ?_) (fun cdv A outer s0 H vs Q E hr h => ?_)⟩
  · obtain ⟨v, d, rfl, hd, hQ⟩ := h
    rfl
  obtain ⟨v, d, rfl, hd, hQ⟩ := h
  have hu := hu_of hr
  refine ⟨_, (pss_one (ps_ret (pe_and (pe_callB (isiK K) (by rfl) (fr_isinstance T) (by decide +kernel) (pa_cons (pv 0) (pa_cons (pe_bltn (v := .ty "int") (by rfl) (fr_int T) (by decide +kernel) rfl) pa_nil))) (pe_one (pe_not (pe_callB (isiK K) (by rfl) (fr_isinstance T) (by decide +kernel) (pa_cons (pv 0) (pa_cons (pe_bltn (v := .ty "bool") (by rfl) (fr_bool T) (by decide +kernel) rfl) pa_nil)))))))), ?_⟩
  exact s_ret (ev_andV (ev_isiD (ev_var rfl) hd rfl) fun _ => ev_notV (ev_isiD (ev_var rfl) hd rfl)) hQ
theorem ok_l_is_whole (T : TX K mg) : DefOk P w K mg base (1) "_law_is_whole" ["_law_told"] [] (spWhole K) := by
  obtain ⟨fd, F, h⟩ := fn_l_is_whole (P := P) (w := w) (base := base) T
  exact DefOk.of F (gl_l_is_whole T) (F.bindsN fun _ _ _ _ _ _ us hl => match us, hl with | [_], _ => rfl) h
/-- _law_same: equal through and through, told of data nested at most n deep -/
def spSame (K : PySem.W.Frag) (n : Nat) : Sp := fun vs H Q _ => ∃ (v u : V) (d e : PyData), vs = [v, u] ∧ Dp K H v d ∧ Dp K H u e ∧ Dn n d ∧ Dn n e ∧ ∀ b : Bool, (b = true ↔ d = e) → RetV (.bl b) H Q
def spIn (K : PySem.W.Frag) : Nat → Sp
  | 0 => fun _ _ _ _ => False
  | n + 1 => spSame K n
theorem sc_l_same : FnScope ["_law_told", "_law_due", "_law_k"] ["_law_told", "_law_due"] (defScope s_l_same) := ⟨rfl, rfl, rfl, by decide +kernel, rfl, by decide +kernel, by decide +kernel⟩
theorem body_same {n : Nat} (T : TX K mg) {base : Heap} {f : Addr} {cdv : Value} {A : Around} {outer : List Env} {s0 : Shared} {H : Hp} {E : XK} {Q : VK} {v u : V} {d e : PyData}
    (hr : Room (n + 1) (A.deeper (envOfC "_law_same" (defScope s_l_same) s0.heap.objs.size f cdv))) (hd : Dp K H v d) (he : Dp K H u e) (hn : Dn n d) (hm : Dn n e) (hQ : ∀ b : Bool, (b = true ↔ d = e) → RetV (.bl b) H Q)
    (rec : DefOk P w K mg base (n + 1) "_law_same" ["_law_told", "_law_due"] [] (spIn K n)) :
    ∃ t, PSs (cxOf CX0 P w K mg base ["_law_told", "_law_due", "_law_k"] "_law_same" (defScope s_l_same) f cdv A outer s0 H E).nox (defBody s_l_same) t ∧ t { nx := fun _ H' => Q .non H', rt := Q } (start ["_law_told", "_law_due", "_law_k"] [v, u]) H := by
  refine ⟨_, (pss_cons (ps_if (pt_val (pe_callB (isiTK K) (by rfl) (fr_isinstance T) (by decide +kernel) (pa_cons (pv 1) (pa_cons (pe_tup (pa_cons (pe_bltn (v := .ty "list") (by rfl) (fr_list T) (by decide +kernel) rfl) (pa_cons (pe_bltn (v := .ty "tuple") (by rfl) (fr_tuple T) (by decide +kernel) rfl) pa_nil))) pa_nil)))) (pss_cons (ps_if (PW.pt (pw_or (pt_not (pt_val (pe_callB (isiTK K) (by rfl) (fr_isinstance T) (by decide +kernel) (pa_cons (pv 0) (pa_cons (pe_tup (pa_cons (pe_bltn (v := .ty "list") (by rfl) (fr_list T) (by decide +kernel) rfl) (pa_cons (pe_bltn (v := .ty "tuple") (by rfl) (fr_tuple T) (by decide +kernel) rfl) pa_nil))) pa_nil))))) (pw_or1 (pt_cmpR op_ne (pe_callB (isiK K) (by rfl) (fr_isinstance T) (by decide +kernel) (pa_cons (pv 0) (pa_cons (pe_bltn (v := .ty "list") (by rfl) (fr_list T) (by decide +kernel) rfl) pa_nil))) (pe_callB (isiK K) (by rfl) (fr_isinstance T) (by decide +kernel) (pa_cons (pv 1) (pa_cons (pe_bltn (v := .ty "list") (by rfl) (fr_list T) (by decide +kernel) rfl) pa_nil))) (nomark _))))) (pss_one (ps_ret pe_bl)) pss_nil)
      (pss_cons (ps_if (pt_cmpR op_ne (pe_callB (lenQ K) (by rfl) (fr_len T) PySem.boot_len (pa_cons (pv 0) pa_nil)) (pe_callB (lenQ K) (by rfl) (fr_len T) PySem.boot_len (pa_cons (pv 1) pa_nil)) (nomark _)) (pss_one (ps_ret pe_bl)) pss_nil)
      (pss_one (ps_ret (pe_cmpR op_eq (pe_callB (lenQ K) (by rfl) (fr_len T) PySem.boot_len (pa_cons (pe_lc (own := [("_law_k", 2)]) rfl sc_l_same.nd (pi_range1 rfl (fr_range T) (pa_cons (pe_callB (lenQ K) (by rfl) (fr_len T) PySem.boot_len (pa_cons (pv 1) pa_nil)) pa_nil)) (blkOk_by (own := [("_law_k", 2)]) (N := ["_law_told", "_law_due", "_law_k"]) (sc := defScope s_l_same) (by decide +kernel)) (fun _ _ _ _ _ => (pg_name (i := 2) sc_l_same.nd rfl (Or.inl rfl))) (fun _ _ _ _ _ => (pts_one (pt_not (pt_val (pe_callN rec hr (pa_cons (pe_ix (ixQ K) (pv 0) (pv 2) (fun _ _ => rfl)) (pa_cons (pe_ix (ixQ K) (pv 1) (pv 2) (fun _ _ => rfl)) pa_nil)) (hk := Nat.le_refl _)))))) (fun _ _ _ _ _ => (pv 2))) pa_nil)) pe_int (nomark _)))))) pss_nil)
      (pss_cons (ps_if (pt_val (pe_callB (isiK K) (by rfl) (fr_isinstance T) (by decide +kernel) (pa_cons (pv 1) (pa_cons (pe_bltn (v := .ty "bool") (by rfl) (fr_bool T) (by decide +kernel) rfl) pa_nil)))) (pss_one (ps_ret (pe_and (pe_callB (isiK K) (by rfl) (fr_isinstance T) (by decide +kernel) (pa_cons (pv 0) (pa_cons (pe_bltn (v := .ty "bool") (by rfl) (fr_bool T) (by decide +kernel) rfl) pa_nil))) (pe_one (pe_cmpR op_eq (pv 0) (pv 1) (nomark _)))))) pss_nil)
      (pss_cons (ps_if (pt_val (pe_callB (isiK K) (by rfl) (fr_isinstance T) (by decide +kernel) (pa_cons (pv 1) (pa_cons (pe_bltn (v := .ty "int") (by rfl) (fr_int T) (by decide +kernel) rfl) pa_nil)))) (pss_one (ps_ret (pe_and (pe_callN (ok_l_is_whole (P := P) (w := w) (base := base) T) hr (pa_cons (pv 0) pa_nil) (hk := by omega)) (pe_one (pe_cmpR op_eq (pv 0) (pv 1) (nomark _)))))) pss_nil)
      (pss_cons (ps_if (pt_val (pe_callB (isiK K) (by rfl) (fr_isinstance T) (by decide +kernel) (pa_cons (pv 1) (pa_cons (pe_bltn (v := .ty "str") (by rfl) (fr_str T) (by decide +kernel) rfl) pa_nil)))) (pss_one (ps_ret (pe_and (pe_callB (isiK K) (by rfl) (fr_isinstance T) (by decide +kernel) (pa_cons (pv 0) (pa_cons (pe_bltn (v := .ty "str") (by rfl) (fr_str T) (by decide +kernel) rfl) pa_nil))) (pe_one (pe_cmpR op_eq (pv 0) (pv 1) (nomark _)))))) pss_nil)
      (pss_one (ps_ret (pe_and (pe_cmp (pc_isN (pv 0))) (pe_one (pe_cmp (pc_isN (pv 1))))))))))), ?_⟩
  have skip2 : ∀ {tz : TS} {D : Ends} {H1 : Hp} {tu : TS}, isB "list" (tyN e) = false → isB "tuple" (tyN e) = false → Ex H H1 → (∀ H2, Ex H H2 → tz D [some v, some u, none] H2) →
      tSeq (tIfS (tB (tCB (rIsiT K) (tCons (tVar 1) (tCons (tTup (tCons (tC (.ty "list")) (tCons (tC (.ty "tuple")) tNil))) tNil)))) tu tNext) tz D [some v, some u, none] H1 := fun {tz D H1 tu} h1 h2 e1 k =>
    q_when (b := false) (et_B (ev_is (ev_isiD2 (ev_var rfl) (dp_ex e1 he) (by rfl) (by rfl)) (by rw [h1, h2]; rfl))) (fun h => nomatch h) fun _ H2 e2 => k H2 (e1.trans e2)
  have skip1 : ∀ {tz : TS} {D : Ends} {H1 : Hp} {tu : TS} {c : String}, isB c (tyN e) = false → askd c = true → Ex H H1 → (∀ H2, Ex H H2 → tz D [some v, some u, none] H2) →
      tSeq (tIfS (tB (tCB (rIsi K) (tCons (tVar 1) (tCons (tC (.ty c)) tNil)))) tu tNext) tz D [some v, some u, none] H1 := fun {tz D H1 tu c} h1 h2 e1 k =>
    q_when (b := false) (et_B (ev_is (ev_isiD (ev_var rfl) (dp_ex e1 he) h2) (by rw [h1]))) (fun h => nomatch h) fun _ H2 e2 => k H2 (e1.trans e2)
  have take1 : ∀ {tz : TS} {D : Ends} {H1 : Hp} {tu : TS} {c : String}, isB c (tyN e) = true → askd c = true → Ex H H1 → (∀ H2, Ex H H2 → tu { D with nx := tz D } [some v, some u, none] H2) →
      tSeq (tIfS (tB (tCB (rIsi K) (tCons (tVar 1) (tCons (tC (.ty c)) tNil)))) tu tNext) tz D [some v, some u, none] H1 := fun {tz D H1 tu c} h1 h2 e1 k =>
    q_when (b := true) (et_B (ev_is (ev_isiD (ev_var rfl) (dp_ex e1 he) h2) (by rw [h1]))) (fun _ H2 e2 => k H2 (e1.trans e2)) (fun h => nomatch h)
  by_cases hsq : ∃ (b : Bool) (es : List PyData), e = seqD b es
  · obtain ⟨b, es, rfl⟩ := hsq
    obtain ⟨a, us, rfl, hs, hu'⟩ := dp_seq he
    obtain ⟨m, rfl, hlen, hmm⟩ := dn_seq hm
    refine q_when (b := true) (et_B (ev_is (ev_isiD2 (ev_var rfl) he (by rfl) (by rfl)) (by cases b <;> simp [seqD, tyN, isB_tab]))) (fun _ H1 e1 => ?_) (fun h => nomatch h)
    refine q_when (et_or (et_not (et_B (ev_isiD2 (ev_var rfl) (dp_ex e1 hd) (by rfl) (by rfl)))) fun _ => et_test (ev_op (ev_isiD (ev_var rfl) (dp_ex e1 hd) (by rfl)) (ev_isiD (ev_var rfl) (dp_ex e1 he) (by rfl)) (rv_ne rfl))) (fun hb H2 e2 => ?_) (fun hb H2 e2 => ?_)
    · refine s_ret ev_c fun H3 e3 => hQ false ?_ H3 (e1.trans (e2.trans e3))
      refine ⟨(fun z => nomatch z), fun z => ?_⟩
      subst z
      cases b <;> simp [seqD, tyN, isB_tab] at hb
    have hd1 : ∃ ds, d = seqD b ds := by
      cases b <;> cases hd <;> simp [seqD, tyN, isB_tab] at hb ⊢
    obtain ⟨ds, rfl⟩ := hd1
    obtain ⟨a2, vs, rfl, hs2, hv'⟩ := dp_seq hd
    obtain ⟨m', hm', hlen2, hmm2⟩ := dn_seq hn
    obtain rfl : m = m' := by omega
    have E2 := e1.trans e2
    have lu := dpa_len hu'
    have lv := dpa_len hv'
    refine q_when (et_test (ev_op (ev_cb (ea_cons (ev_var rfl) ea_nil) (rc_lenB (hs2.ex E2))) (ev_cb (ea_cons (ev_var rfl) ea_nil) (rc_lenB (hs.ex E2))) (rv_ne rfl))) (fun hz H3 e3 => ?_) (fun hz H3 e3 => ?_)
    · refine s_ret ev_c fun H4 e4 => hQ false ?_ H4 (E2.trans (e3.trans e4))
      refine ⟨(fun z => nomatch z), fun z => ?_⟩
      rw [seqD_inj] at z
      subst z
      rw [lu, lv] at hz
      simp at hz
    have ll : ds.length = es.length := by
      rw [lu, lv] at hz
      simp at hz
      omega
    classical
    have E3 := E2.trans e3
    have hs3 := hs.ex E3
    have hs23 := hs2.ex E3
    refine s_ret (ev_op (ev_lenN' (el_lcR1 (n := (us.length : Int)) (fun i => !decide (ds[i]? = es[i]?)) (fun i => .int (i : Int)) (ea_cons (ev_cb (ea_cons (ev_var rfl) ea_nil) (rc_lenB hs3)) ea_nil) (by omega) (fun _ => rfl) (fun i H4 e4 hi => ?_) (fun i H4 e4 hi _ => ev_var rfl))) ev_c (rv_eq rfl)) fun H5 e5 => hQ _ ?_ H5 (E3.trans e5)
    · have hi1 : i < es.length := by omega
      have hi2 : i < ds.length := by omega
      obtain ⟨x1, hx1, hx2⟩ := dpa_at hu' hi1
      obtain ⟨y1, hy1, hy2⟩ := dpa_at hv' hi2
      refine et_not (et_B (ev_call (ea_cons (ev_op (ev_var rfl) (ev_var rfl) (rv_ixB (hs23.ex e4) (atI_nat hy1))) (ea_cons (ev_op (ev_var rfl) (ev_var rfl) (rv_ixB (hs3.ex e4) (atI_nat hx1))) ea_nil)) ?_))
      intro H6 e6 Q' q' E'
      have E6 := (E3.trans e4).trans e6
      refine ⟨y1, x1, ds[i], es[i], rfl, dp_ex E6 hy2, dp_ex E6 hx2, hmm2 _ (List.getElem_mem _), hmm _ (List.getElem_mem _), fun b' hb' => ?_⟩
      have eb : b' = decide (ds[i]? = es[i]?) := by
        rw [List.getElem?_eq_getElem hi1, List.getElem?_eq_getElem hi2, Bool.eq_iff_iff, hb', decide_eq_true_iff]
        simp
      rw [eb]
      exact q'
    · rw [seqD_inj, decide_eq_true_iff]
      have e1' : (V.int (((given (us.length : Int).toNat (fun i => !decide (ds[i]? = es[i]?)) (fun i => .int (i : Int))).length : Nat) : Int) = V.int 0) ↔ (given (us.length : Int).toNat (fun i => !decide (ds[i]? = es[i]?)) (fun i => .int (i : Int))).length = 0 := by
        constructor
        · intro h
          injection h with h
          omega
        · intro h
          rw [h]
          rfl
      rw [e1', given_none]
      constructor
      · intro h
        refine List.ext_getElem? fun i => ?_
        by_cases hi : i < es.length
        · have := h i (by omega)
          simpa using this
        · rw [List.getElem?_eq_none (by omega), List.getElem?_eq_none (by omega)]
      · intro h i hi
        rw [h]
        simp
  cases e with
  | none =>
    cases he with
    | non =>
    refine skip2 (by simp [tyN, isB_tab]) (by simp [tyN, isB_tab]) (Ex.refl H) fun H1 e1 => ?_
    refine skip1 (by simp [tyN, isB_tab]) (by rfl) e1 fun H2 e2 => ?_
    refine skip1 (by simp [tyN, isB_tab]) (by rfl) e2 fun H3 e3 => ?_
    refine skip1 (by simp [tyN, isB_tab]) (by rfl) e3 fun H4 e4 => ?_
    refine s_ret (ev_andV (ev_isN (ev_var rfl)) fun _ => ev_isN (ev_var rfl)) fun H5 e5 => ?_
    refine hQ _ ?_ H5 (e4.trans e5)
    cases hd <;> simp
  | bool b =>
    cases he with
    | bl =>
    refine skip2 (by simp [tyN, isB_tab]) (by simp [tyN, isB_tab]) (Ex.refl H) fun H1 e1 => ?_
    refine take1 (by simp [tyN, isB_tab]) (by rfl) e1 fun H2 e2 => ?_
    refine s_ret (ev_andV (ev_isiD (ev_var rfl) (dp_ex e2 hd) (by rfl)) fun hc => ev_op (ev_var rfl) (ev_var rfl) (rv_eq (by cases hd <;> first | rfl | (simp [tyN, isB_tab] at hc)))) fun H5 e5 => hQ _ ?_ H5 (e2.trans e5)
    cases hd <;> simp [tyN, isB_tab]
  | int b =>
    cases he with
    | int =>
    refine skip2 (by simp [tyN, isB_tab]) (by simp [tyN, isB_tab]) (Ex.refl H) fun H1 e1 => ?_
    refine skip1 (by simp [tyN, isB_tab]) (by rfl) e1 fun H2 e2 => ?_
    refine take1 (by simp [tyN, isB_tab]) (by rfl) e2 fun H3 e3 => ?_
    refine s_ret (ev_andV (ev_call (ea_cons (ev_var rfl) ea_nil) (sv_whole (dp_ex e3 hd))) fun hc => ev_op (ev_var rfl) (ev_var rfl) (rv_eq (by cases hd <;> first | rfl | (simp [isInt, tyN, isB_tab] at hc)))) fun H5 e5 => hQ _ ?_ H5 (e3.trans e5)
    cases hd <;> simp [isInt, tyN, isB_tab]
  | str b =>
    cases he with
    | str =>
    refine skip2 (by simp [tyN, isB_tab]) (by simp [tyN, isB_tab]) (Ex.refl H) fun H1 e1 => ?_
    refine skip1 (by simp [tyN, isB_tab]) (by rfl) e1 fun H2 e2 => ?_
    refine skip1 (by simp [tyN, isB_tab]) (by rfl) e2 fun H3 e3 => ?_
    refine take1 (by simp [tyN, isB_tab]) (by rfl) e3 fun H4 e4 => ?_
    refine s_ret (ev_andV (ev_isiD (ev_var rfl) (dp_ex e4 hd) (by rfl)) fun hc => ev_op (ev_var rfl) (ev_var rfl) (rv_eq (by cases hd <;> first | rfl | (simp [tyN, isB_tab] at hc)))) fun H5 e5 => hQ _ ?_ H5 (e4.trans e5)
    cases hd <;> simp [tyN, isB_tab]
  | list es => exact absurd ⟨true, es, rfl⟩ hsq
  | tuple es => exact absurd ⟨false, es, rfl⟩ hsq
  | dict es => cases he
theorem fn_l_same (T : TX K mg) {base : Heap} : ∀ n : Nat, ∃ fd, FunD K "_law_same" "_law_same" (defArgs s_l_same) (defBody s_l_same) (defScope s_l_same) [] [] (He.ga K "_law_same") fd ∧ FnOk P w K mg base CX0 (n + 2) (He.ga K "_law_same") fd ["_law_told", "_law_due"] (spSame K n) := fun n => by
  obtain ⟨fd, F⟩ := fd_l_same T
  have b : Binds K fd ["_law_told", "_law_due"] [] := F.bindsN fun _ _ _ _ _ _ us hl => match us, hl with | [_, _], _ => rfl
  refine ⟨fd, F, ?_⟩
  induction n with
  | zero =>
    refine My.FunD.ok0 F sc_l_same (fun vs H Q E h => ?_) (fun cdv A outer s0 H vs Q E hr h => ?_)
    · obtain ⟨_, _, _, _, rfl, _⟩ := h
      rfl
    obtain ⟨v, u, d, e, rfl, hd, he, hn, hm, hQ⟩ := h
    exact body_same T hr hd he hn hm hQ (DefOk.of F (gl_l_same T) b ⟨fun _ _ _ _ h => h.elim, fun _ _ _ _ _ _ _ _ _ _ _ _ _ h => h.elim⟩)
  | succ n ih =>
    refine My.FunD.ok0 F sc_l_same (fun vs H Q E h => ?_) (fun cdv A outer s0 H vs Q E hr h => ?_)
    · obtain ⟨_, _, _, _, rfl, _⟩ := h
      rfl
    obtain ⟨v, u, d, e, rfl, hd, he, hn, hm, hQ⟩ := h
    exact body_same T hr hd he hn hm hQ (DefOk.of F (gl_l_same T) b ih)
theorem ok_l_same (T : TX K mg) {base : Heap} (n : Nat) : DefOk P w K mg base (n + 2) "_law_same" ["_law_told", "_law_due"] [] (spSame K n) := by
  obtain ⟨fd, F, h⟩ := fn_l_same (P := P) (w := w) T (base := base) n
  exact DefOk.of F (gl_l_same T) (F.bindsN fun _ _ _ _ _ _ us hl => match us, hl with | [_, _], _ => rfl) h
theorem sv_same {K : PySem.W.Frag} {H : Hp} {v u : V} {d e : PyData} {n : Nat} {b : Bool} (hd : Dp K H v d) (he : Dp K H u e) (hn : Dn n d) (hm : Dn n e) (hb : b = true ↔ d = e) : SpV (spSame K n) [v, u] H (.bl b) := fun H1 x Q q E =>
  ⟨v, u, d, e, rfl, dp_ex x hd, dp_ex x he, hn, hm, fun b' h' => by
    have : b' = b := by rw [Bool.eq_iff_iff, h', hb]
    rw [this]
    exact q⟩
end

/-! ### the common defs, as functions of a store -/
section
open Mi
noncomputable def fNumber : List D → Sto → R D := fun ds S => match ds with
  | [.ref l, .int a, .int k, .int sz] => match (rdL S l).bind intsOf with
    | some ns => open Classical in if ns.length ≤ 63 ∧ NumOk a k sz then .ok (.int (lawNum ns a k sz)) S else .bad
    | none => .bad
  | _ => .bad
theorem fNumber_eq {S : Sto} {l : Nat} {ns : List Int} {a k sz : Int} (h : rdL S l = some (ns.map D.int)) (hl : ns.length ≤ 63) (ok : NumOk a k sz) : fNumber [.ref l, .int a, .int k, .int sz] S = .ok (.int (lawNum ns a k sz)) S := by
  simp [fNumber, h, intsOf_map, hl, ok]
noncomputable def fWhole : List D → Sto → R D := fun ds S => match ds with
  | [x] => match dataOf S x with
    | some p => .ok (.bl (isInt p)) S
    | none => .bad
  | _ => .bad
theorem fWhole_eq {S : Sto} {x : D} {p : PyData} (h : DD S x p) : fWhole [x] S = .ok (.bl (isInt p)) S := by simp [fWhole, dataOf_eq h]
theorem fWhole_int {S : Sto} {i : Int} : fWhole [.int i] S = .ok (.bl true) S := by
  rw [fWhole_eq (.int i)]
  simp [isInt, tyN, isB_tab]
open Classical in
noncomputable def fSame (n : Nat) : List D → Sto → R D := fun ds S => match ds with
  | [x, y] => match dataOf S x, dataOf S y with
    | some p, some q => if Dn n p ∧ Dn n q then .ok (.bl (decide (p = q))) S else .bad
    | _, _ => .bad
  | _ => .bad
open Classical in
theorem fSame_eq {S : Sto} {n : Nat} {x y : D} {p q : PyData} (hx : DD S x p) (hy : DD S y q) (h1 : Dn n p) (h2 : Dn n q) : fSame n [x, y] S = .ok (.bl (decide (p = q))) S := by simp [fSame, dataOf_eq hx, dataOf_eq hy, h1, h2]
theorem fSame_refl {S : Sto} {n : Nat} {x y : D} {p : PyData} (hx : DD S x p) (hy : DD S y p) (h1 : Dn n p) : fSame n [x, y] S = .ok (.bl true) S := by simp [fSame, dataOf_eq hx, dataOf_eq hy, h1]
theorem defok_imp {P : Program} {w : World} {K : PySem.W.Frag} {mg : Str → Option Value} {base : Heap} {k : Nat} {x : Str} {ps : List Str} {dvs : List V} {sp sp' : Sp} (h : DefOk P w K mg base k x ps dvs sp) (i : ∀ vs H Q E, sp' vs H Q E → sp vs H Q E) : DefOk P w K mg base k x ps dvs sp' := by
  obtain ⟨f, fd, ds, h1, h2, h3, h4, h5⟩ := h.ex
  exact ⟨f, fd, ds, h1, h2, h3, h4, h5.imp i⟩
variable {P : Program} {w : World} {K : PySem.W.Frag} {mg : Str → Option Value} {base : Heap}
theorem okm_l_number (T : TX K mg) : DefOk P w K mg base 1 "_law_number" ["_law_script", "_law_at", "_law_k", "_law_size"] [] (spF K fNumber) := by
  refine defok_imp (ok_l_number (P := P) (w := w) (base := base) T) fun vs H Q E ⟨φ, S, ds, r, hv, p⟩ => ?_
  unfold fNumber at p
  split at p
  · split at p
    · rename_i l a k sz _ ns e
      obtain ⟨xs, h1, h2⟩ := Option.bind_eq_some_iff.mp e
      cases hv with
      | cons q1 hv =>
        cases hv with
        | cons q2 hv =>
          obtain ⟨v3, v4, rfl, q3, q4⟩ := hv.two_inv
          obtain ⟨_, rfl⟩ := q1.ref_inv
          cases q2; cases q3; cases q4
          obtain ⟨ws, w1, w2⟩ := r.rd h1
          rw [intsOf_inv h2] at w2
          rw [w2.ints_inv] at w1
          split at p
          · rename_i ok
            exact ⟨_, ns, a, k, sz, rfl, w1, ok.1, ok.2, fun H' e' => p.ex r e' (VR.int _)⟩
          · exact p.elim
    · exact p.elim
  · exact p.elim
theorem okm_l_is_whole (T : TX K mg) : DefOk P w K mg base 1 "_law_is_whole" ["_law_told"] [] (spF K fWhole) := by
  refine defok_imp (ok_l_is_whole (P := P) (w := w) (base := base) T) fun vs H Q E ⟨φ, S, ds, r, hv, p⟩ => ?_
  unfold fWhole at p
  split at p
  · split at p
    · rename_i x _ d e
      obtain ⟨v, rfl, hz⟩ := hv.one_inv
      exact ⟨v, d, rfl, (dataOf_some e).dp r hz, fun H' e' => p.ex r e' (VR.bl _)⟩
    · exact p.elim
  · exact p.elim
open Classical in
theorem okm_l_same (T : TX K mg) (n : Nat) : DefOk P w K mg base (n + 2) "_law_same" ["_law_told", "_law_due"] [] (spF K (fSame n)) := by
  refine defok_imp (ok_l_same (P := P) (w := w) (base := base) T n) fun vs H Q E ⟨φ, S, ds, r, hv, p⟩ => ?_
  unfold fSame at p
  split at p
  · split at p
    · rename_i x y _ _ d e h1 h2
      obtain ⟨v, u, rfl, hx, hy⟩ := hv.two_inv
      split at p
      · rename_i hd
        refine ⟨v, u, d, e, rfl, (dataOf_some h1).dp r hx, (dataOf_some h2).dp r hy, hd.1, hd.2, fun b hb H' e' => ?_⟩
        have : b = decide (d = e) := by
          rw [Bool.eq_iff_iff, hb, decide_eq_true_iff]
        rw [this]
        exact p.ex r e' (VR.bl _)
      · exact p.elim
    · exact p.elim
  · exact p.elim
end

section
variable {P : Program} {w : World} {K : PySem.W.Frag} {mg : Str → Option Value} {base : Heap}
/-! ### BadRange -/
def okRange : List V → Prop := fun ws => ∃ i j : Int, ws = [.int i, .int j] ∧ small i ∧ small j
def fsRange : List V → List (Str × V)
  | [s, e] => [("end", e), ("start", s)]
  | _ => []
theorem range_text {i j : Int} (hi : small i) (hj : small j) : ∃ out : Str, ∀ {t1 t2 : TE} {σ : L2.St} {H : Hp}, Ev t1 σ H (.int i) → Ev t2 σ H (.int j) →
    Ev (fun σ H Q => tJs [tC (V.str (Str.ofString "range ")), tFmt t1, tC (V.str (Str.ofString " to ")), tFmt t2, tC (V.str (Str.ofString " is not allowed"))] Str.empty σ H fun out H1 => Q (V.str out) H1) σ H (.str out) := by
  refine ⟨((((Str.empty ++ Str.ofString "range ") ++ Str.ofString (toString i)) ++ Str.ofString " to ") ++ Str.ofString (toString j)) ++ Str.ofString " is not allowed", fun {t1 t2 σ H} h1 h2 => ?_⟩
  have l1 := small_len hi
  have l2 := small_len hj
  have c1 : (Str.ofString "range ").length = 6 := by decide +kernel
  have c2 : (Str.ofString " to ").length = 4 := by decide +kernel
  have c3 : (Str.ofString " is not allowed").length = 15 := by decide +kernel
  have c0 : Str.empty.length = 0 := rfl
  refine ev_joined (ej_cons ev_c (ej_cons (fmt_int h1 hi) (ej_cons ev_c (ej_cons (fmt_int h2 hj) (ej_cons ev_c ej_nil ?_) ?_) ?_) ?_) ?_) <;> (simp only [str_len_app]; exact sz_of (by omega))
theorem sc_BadRange___init__ : FnScope ["self", "start", "end"] ["self", "start", "end"] (defScope s_BadRange___init__) := ⟨rfl, rfl, rfl, by decide +kernel, rfl, by decide +kernel, by decide +kernel⟩
theorem fn_BadRange___init__ (T : TX K mg) : ∃ fd, FunD K "__init__" "BadRange.__init__" (defArgs s_BadRange___init__) (defBody s_BadRange___init__) (defScope s_BadRange___init__) [] [] (He.ma K (He.ga K "BadRange") "__init__") fd ∧ FnOk P w K mg base CX0 (1) (He.ma K (He.ga K "BadRange") "__init__") fd ["self", "start", "end"] (spXinit K (He.ga K "BadRange") okRange fsRange) := by
  obtain ⟨fd, F⟩ := fd_BadRange___init__ T
  refine ⟨fd, F, My.FunD.ok0 F sc_BadRange___init__ (fun vs H Q E h => ?_) (fun cdv A outer s0 H vs Q E hr h => ?_)⟩
  · obtain ⟨a, _, rfl, ⟨i, j, rfl, hi, hj⟩, ha, hQ⟩ := h
    rfl
  obtain ⟨a, _, rfl, ⟨i, j, rfl, hi, hj⟩, ha, hQ⟩ := h
  have hu := hu_of hr
  refine ⟨_, (pss_cons (ps_expr (pe_baseinit K (gl_AccessError T) (base_AccessError T).1 (base_AccessError T).2.1 (base_AccessError T).2.2 (pa_cons (pv 0) (pa_cons (pe_joined (PJ.cons pe_str (PJ.cons (pe_fmt (pv 1)) (PJ.cons pe_str (PJ.cons (pe_fmt (pv 2)) (PJ.cons pe_str PJ.nil)))))) pa_nil))))
      (pss_cons (ps_ost (pv 0) (pv 1))
      (pss_one (ps_ost (pv 0) (pv 2))))), ?_⟩
  have E := (oex_BadRange T).1
  obtain ⟨out, hout⟩ := range_text hi hj
  refine q_drop (v := .non) (fun H1 e1 Q' q' => ea_cons (ev_var rfl) (ea_cons (hout (ev_var rfl) (ev_var rfl)) ea_nil) H1 e1 _ fun H2 e2 => ⟨a, _, _, rfl, by simp, E, e2 _ _ (e1 _ _ ha), q' H2 e2⟩) fun H1 e1 => ?_
  refine ost_first (ev_var rfl) (ev_var rfl) E (na_BadRange_start T) (e1 _ _ ha) fun dx H2 e2 n ne => ?_
  have E2 := e1.trans e2
  refine ost_last (dx := dx) (ev_var rfl) (ev_var rfl) E (na_BadRange_end T) upd_same (by rw [upd_ne ne]; exact upd_same) (by simp) fun H3 e3 => ?_
  refine hQ dx _ (fresh_back E2 n) ne ?_ upd_same fun b o hb ho => ?_
  · rw [upd_ne ne.symm]
    exact e3 _ _ upd_same
  · have hbd : b ≠ dx := ne_of_none (E2 _ _ ho) n
    rw [upd_ne hbd]
    refine e3 _ _ ?_
    rw [upd_ne hb, upd_ne hbd]
    exact E2 _ _ ho
theorem xmk_BadRange (T : TX K mg) : XMkOk P w K mg base (1) "BadRange" (He.ga K "BadRange") ["self", "start", "end"] (spXinit K (He.ga K "BadRange") okRange fsRange) := by
  obtain ⟨fd, F, h⟩ := fn_BadRange___init__ (P := P) (w := w) (base := base) T
  exact ⟨_, fd, gl_BadRange T, (oex_BadRange T).1, (oex_BadRange T).2.1, (oex_BadRange T).2.2, (F.bindsN fun _ _ _ _ _ _ us hl => match us, hl with | [_, _, _], _ => rfl), h⟩
/-- check_range: done, or a BadRange -/
def goodRange (s e l : Int) : Prop := 0 ≤ s ∧ s < e ∧ e ≤ l
instance (s e l : Int) : Decidable (goodRange s e l) := by unfold goodRange; infer_instance
def spCheck (K : PySem.W.Frag) : Sp := fun vs H Q E => ∃ (s e l : Int), vs = [.int s, .int e, .int l] ∧ small s ∧ small e ∧ (goodRange s e l → RetV .non H Q) ∧ (¬ goodRange s e l → RaiseR (He.ga K "BadRange") [("end", .int e), ("start", .int s)] H E)
theorem sc_check_range : FnScope ["start", "end", "limit"] ["start", "end", "limit"] (defScope s_check_range) := ⟨rfl, rfl, rfl, by decide +kernel, rfl, by decide +kernel, by decide +kernel⟩
theorem fn_check_range (T : TX K mg) : ∃ fd, FunD K "check_range" "check_range" (defArgs s_check_range) (defBody s_check_range) (defScope s_check_range) [] [] (He.ga K "check_range") fd ∧ FnOk P w K mg base (L2.CX P w) (3) (He.ga K "check_range") fd ["start", "end", "limit"] (spCheck K) := by
  obtain ⟨fd, F⟩ := fd_check_range T
  refine ⟨fd, F, L2.FunD.ok F sc_check_range (fun vs H Q E h => ?_) (fun cdv A outer s0 H vs Q E hr h => ?_)⟩
  · obtain ⟨s, e, l, rfl, hs, he, h1, h2⟩ := h
    rfl
  obtain ⟨s, e, l, rfl, hs, he, h1, h2⟩ := h
  have hu := hu_of hr
  refine ⟨_, (pss_one (ps_if (pt_not (pt_chain3 op_le op_lt op_le pe_int (pv 0) (pv 1) (pv 2))) (pss_one (ps_raiseX (xmk_BadRange (P := P) (w := w) (base := base) T) hr rfl (takes_of rfl rfl rfl rfl) (pa_cons (pv 0) (pa_cons (pv 1) pa_nil)))) pss_nil)), ?_⟩
  refine s_when (et_not (et_chain3 ev_c (ev_var rfl) (ev_var rfl) (ev_var rfl))) (fun hb H1 e1 => ?_) (fun hb H1 e1 => ?_)
  · have ng : ¬ goodRange s e l := fun g => by
      unfold goodRange at g
      have : (decide ((0 : Int) ≤ s) && (decide (s < e) && decide (e ≤ l))) = true := by simp [g.1, g.2.1, g.2.2]
      rw [this] at hb
      cases hb
    exact raise_ask (ea_cons (ev_var rfl) (ea_cons (ev_var rfl) ea_nil)) ⟨s, e, rfl, hs, he⟩ (by simp) fun H2 e2 => (h2 ng).go (e1.trans e2)
  · have g : goodRange s e l := by
      have h3 : (decide ((0 : Int) ≤ s) && (decide (s < e) && decide (e ≤ l))) = true := by
        have := hb
        simpa using this
      simp only [Bool.and_eq_true, decide_eq_true_eq] at h3
      exact h3
    exact h1 g H1 e1
theorem ok_check_range (T : TX K mg) : DefOkX P w K mg base (3) "check_range" ["start", "end", "limit"] (spCheck K) := by
  obtain ⟨fd, F, h⟩ := fn_check_range (P := P) (w := w) (base := base) T
  exact DefOkX.of F (gl_check_range T) (F.bindsN fun _ _ _ _ _ _ us hl => match us, hl with | [_, _, _], _ => rfl) h
end

/-! ### check_range, as a function of a store -/
section
open Mi
open Classical in
noncomputable def fCheck : List D → Sto → R D := fun ds S => match ds with
  | [.int s, .int e, .int l] => if small s ∧ small e then (if goodRange s e l then .ok .non S else .exc "BadRange" [("end", .int e), ("start", .int s)] S) else .bad
  | _ => .bad
theorem fCheck_ok {S : Sto} {s e l : Int} (h1 : small s) (h2 : small e) (h : goodRange s e l) : fCheck [.int s, .int e, .int l] S = .ok .non S := by simp [fCheck, h1, h2, h]
theorem fCheck_no {S : Sto} {s e l : Int} (h1 : small s) (h2 : small e) (h : ¬ goodRange s e l) : fCheck [.int s, .int e, .int l] S = .exc "BadRange" [("end", .int e), ("start", .int s)] S := by simp [fCheck, h1, h2, h]
variable {P : Program} {w : World} {K : PySem.W.Frag} {mg : Str → Option Value} {base : Heap}
theorem defokx_imp {P : Program} {w : World} {K : PySem.W.Frag} {mg : Str → Option Value} {base : Heap} {k : Nat} {x : Str} {ps : List Str} {sp sp' : Sp} (h : DefOkX P w K mg base k x ps sp) (i : ∀ vs H Q E, sp' vs H Q E → sp vs H Q E) : DefOkX P w K mg base k x ps sp' := by
  obtain ⟨f, fd, h1, h2, h3, h4⟩ := h.ex
  exact ⟨f, fd, h1, h2, h3, h4.imp i⟩
theorem okm_check (T : TX K mg) : DefOkX P w K mg base 3 "check_range" ["start", "end", "limit"] (spF K fCheck) := by
  refine defokx_imp (ok_check_range (P := P) (w := w) (base := base) T) fun vs H Q E ⟨φ, S, ds, r, hv, p⟩ => ?_
  unfold fCheck at p
  split at p
  · rename_i s e l
    cases hv with
    | cons q1 hv =>
      obtain ⟨v3, v4, rfl, q3, q4⟩ := hv.two_inv
      cases q1; cases q3; cases q4
      split at p
      · rename_i hs
        refine ⟨s, e, l, rfl, hs.1, hs.2, fun hg => ?_, fun hg => ?_⟩
        · rw [if_pos hg] at p
          exact fun H' e' => p.ex r e' VR.non
        · rw [if_neg hg] at p
          exact fun d H' nd ex hd => p φ H' d _ (Fut.ex ex) (r.ex ex) hd (.cons (.int _) (.cons (.int _) .nil))
      · exact p.elim
  · exact p.elim
end

section
open Mi
variable {P : Program} {w : World} {K : PySem.W.Frag} {mg : Str → Option Value} {base : Heap}
theorem sc_Device___init__ : FnScope ["self", "blocks", "_"] ["self", "blocks"] (defScope s_Device___init__) := ⟨rfl, rfl, rfl, by decide +kernel, rfl, by decide +kernel, by decide +kernel⟩
noncomputable def f_Device___init___c1 : Mi.Env → Mi.Sto → Mi.R Mi.D := (xLc (iR1 (xCons (xVar 1) xNil)) (gNameX 2) xYes (xC .non) [2])
@[irreducible] noncomputable def f_Device___init__ : List Mi.D → Mi.Sto → Mi.R Mi.D := Mi.defX 2 1 (xSeq (xSetF "Device" "blocks" (xVar 0) (xVar 1))
      (xSeq (xSetF "Device" "permanent" (xVar 0) f_Device___init___c1)
      (xSeq (xSetF "Device" "latest" (xVar 0) (xCB bList (xCons (xFld "Device" "permanent" (xVar 0)) xNil)))
      (xSetF "Device" "writes" (xVar 0) (xLst xNil)))))
theorem f_Device___init___eq : f_Device___init__ = Mi.defX 2 1 (xSeq (xSetF "Device" "blocks" (xVar 0) (xVar 1))
      (xSeq (xSetF "Device" "permanent" (xVar 0) f_Device___init___c1)
      (xSeq (xSetF "Device" "latest" (xVar 0) (xCB bList (xCons (xFld "Device" "permanent" (xVar 0)) xNil)))
      (xSetF "Device" "writes" (xVar 0) (xLst xNil))))) := by with_unfolding_all rfl
theorem fn_Device___init__ (T : TX K mg) : ∃ fd, FunD K "__init__" "Device.__init__" (defArgs s_Device___init__) (defBody s_Device___init__) (defScope s_Device___init__) [] [] (He.ma K (He.ga K "Device") "__init__") fd ∧ FnOk P w K mg base CX0 (2) (He.ma K (He.ga K "Device") "__init__") fd ["self", "blocks"] (Mi.spF K f_Device___init__) := by
  rw [f_Device___init___eq]
  obtain ⟨fd, F⟩ := fd_Device___init__ T
  refine ⟨fd, F, My.FunD.ok0 F sc_Device___init__ (Mi.spF_len rfl) (fun cdv A outer s0 H vs Q E hr h => ?_)⟩
  have hu := hu_of hr
  exact ⟨_, (pss_cons (ps_fld (pv 0) (pv 1) rfl)
      (pss_cons (ps_fld (pv 0) (pe_lc (own := [("_", 2)]) rfl sc_Device___init__.nd (pi_range1 rfl (fr_range T) (pa_cons (pv 1) pa_nil)) (blkOk_by (own := [("_", 2)]) (N := ["self", "blocks", "_"]) (sc := defScope s_Device___init__) (by decide +kernel)) (fun _ _ _ _ _ => (pg_name (i := 2) sc_Device___init__.nd rfl (Or.inl rfl))) (fun _ _ _ _ _ => pts_nil) (fun _ _ _ _ _ => pe_non)) rfl)
      (pss_cons (ps_fld (pv 0) (pe_callTy (listQ K) (by rfl) (fr_list T) (by decide +kernel) (pa_cons (pe_fldK K (pv 0) rfl) pa_nil)) rfl)
      (pss_one (ps_fld (pv 0) (pe_lst pa_nil) rfl))))),
    Mi.body_of (K := K) (E := E) (m := 2) (k := 1) (N := ["self", "blocks", "_"]) rfl h (imp_seq (imp_setF (cls_Device T) (na_Device_blocks T) imp_var imp_var) (imp_seq (imp_setF (cls_Device T) (na_Device_permanent T) imp_var (imp_lc (imp_iR1 (imp_cons imp_var imp_nil)) (impg_name) imp_yes imp_non (by decide))) (imp_seq (imp_setF (cls_Device T) (na_Device_latest T) imp_var (imp_cb cbi_list (imp_cons (imp_fld (cls_Device T) (na_Device_permanent T) imp_var) imp_nil))) (imp_setF (cls_Device T) (na_Device_writes T) imp_var (imp_lst imp_nil)))))⟩
theorem mk_Device (T : TX K mg) : MkOk P w K mg base (2) "Device" (He.ga K "Device") ["self", "blocks"] [] (Mi.spF K f_Device___init__) := by
  obtain ⟨fd, F, h⟩ := fn_Device___init__ (P := P) (w := w) (base := base) T
  exact ⟨_, fd, [], gl_Device T, mkr_Device T, (F.bindsN fun _ _ _ _ _ _ us hl => match us, hl with | [_, _], _ => rfl), .nil, h⟩
theorem sc_Device_write : FnScope ["self", "block", "content"] ["self", "block", "content"] (defScope s_Device_write) := ⟨rfl, rfl, rfl, by decide +kernel, rfl, by decide +kernel, by decide +kernel⟩
@[irreducible] noncomputable def f_Device_write : List Mi.D → Mi.Sto → Mi.R Mi.D := Mi.defX 3 0 (xSeq (xDrop (xCallX fCheck (xCons (xVar 1) (xCons (xOp (oI fun i j => .int (i + j)) (xVar 1) (xC (.int 1))) (xCons (xFld "Device" "blocks" (xVar 0)) xNil)))))
      (xSeq (xDrop (xBM (mL gAppend) (xFld "Device" "writes" (xVar 0)) (xCons (xTup (xCons (xVar 1) (xCons (xVar 2) xNil))) xNil)))
      (xAsg (xVar 2) (gSubX (xFld "Device" "latest" (xVar 0)) (xVar 1)))))
theorem f_Device_write_eq : f_Device_write = Mi.defX 3 0 (xSeq (xDrop (xCallX fCheck (xCons (xVar 1) (xCons (xOp (oI fun i j => .int (i + j)) (xVar 1) (xC (.int 1))) (xCons (xFld "Device" "blocks" (xVar 0)) xNil)))))
      (xSeq (xDrop (xBM (mL gAppend) (xFld "Device" "writes" (xVar 0)) (xCons (xTup (xCons (xVar 1) (xCons (xVar 2) xNil))) xNil)))
      (xAsg (xVar 2) (gSubX (xFld "Device" "latest" (xVar 0)) (xVar 1))))) := by with_unfolding_all rfl
theorem fn_Device_write (T : TX K mg) : ∃ fd, FunD K "write" "Device.write" (defArgs s_Device_write) (defBody s_Device_write) (defScope s_Device_write) [] [] (He.ma K (He.ga K "Device") "write") fd ∧ FnOk P w K mg base (L2.CX P w) (4) (He.ma K (He.ga K "Device") "write") fd ["self", "block", "content"] (Mi.spF K f_Device_write) := by
  rw [f_Device_write_eq]
  obtain ⟨fd, F⟩ := fd_Device_write T
  refine ⟨fd, F, L2.FunD.ok F sc_Device_write (Mi.spF_len rfl) (fun cdv A outer s0 H vs Q E hr h => ?_)⟩
  have hu := hu_of hr
  exact ⟨_, (pss_cons (ps_expr (pe_callNX (okm_check (P := P) (w := w) (base := base) T) hr (takes_of rfl rfl rfl rfl) (pa_cons (pv 1) (pa_cons (pe_op op_add (pv 1) pe_int) (pa_cons (pe_fldK K (pv 0) rfl) pa_nil)))))
      (pss_cons (ps_expr (pe_bm PySem.F.plainAttrs_list PySem.F.slot_list_append PySem.F.type_list_append mt_append (pe_fldK K (pv 0) rfl) (pa_cons (pe_tup (pa_cons (pv 1) (pa_cons (pv 2) pa_nil))) pa_nil)))
      (pss_one (ps_asg (pv 2) (pg_sub (pe_fldK K (pv 0) rfl) (pv 1) set_list))))),
    Mi.body_of (K := K) (E := E) (m := 3) (k := 0) (N := ["self", "block", "content"]) rfl h (imp_seq (imp_drop (imp_callX (imp_cons imp_var (imp_cons (imp_op opi_add imp_var imp_int) (imp_cons (imp_fld (cls_Device T) (na_Device_blocks T) imp_var) imp_nil))))) (imp_seq (imp_drop (imp_bm mti_append (imp_fld (cls_Device T) (na_Device_writes T) imp_var) (imp_cons (imp_tup (imp_cons imp_var (imp_cons imp_var imp_nil))) imp_nil))) (imp_asg imp_var (impg_sub (imp_fld (cls_Device T) (na_Device_latest T) imp_var) imp_var))))⟩
theorem ok_Device_write (T : TX K mg) : MethOk P w K mg base (L2.CX P w) (4) (He.ga K "Device") "write" ["self", "block", "content"] [] (Mi.spF K f_Device_write) := by
  obtain ⟨fd, F, h⟩ := fn_Device_write (P := P) (w := w) (base := base) T
  exact MethOk.of F (cls_Device T) (meth_Device_write T) (F.bindsN fun _ _ _ _ _ _ us hl => match us, hl with | [_, _, _], _ => rfl) h
theorem sc_Device_read : FnScope ["self", "block"] ["self", "block"] (defScope s_Device_read) := ⟨rfl, rfl, rfl, by decide +kernel, rfl, by decide +kernel, by decide +kernel⟩
@[irreducible] noncomputable def f_Device_read : List Mi.D → Mi.Sto → Mi.R Mi.D := Mi.defX 2 0 (xSeq (xDrop (xCallX fCheck (xCons (xVar 1) (xCons (xOp (oI fun i j => .int (i + j)) (xVar 1) (xC (.int 1))) (xCons (xFld "Device" "blocks" (xVar 0)) xNil)))))
      (xRet (xOp oIxL (xFld "Device" "latest" (xVar 0)) (xVar 1))))
theorem f_Device_read_eq : f_Device_read = Mi.defX 2 0 (xSeq (xDrop (xCallX fCheck (xCons (xVar 1) (xCons (xOp (oI fun i j => .int (i + j)) (xVar 1) (xC (.int 1))) (xCons (xFld "Device" "blocks" (xVar 0)) xNil)))))
      (xRet (xOp oIxL (xFld "Device" "latest" (xVar 0)) (xVar 1)))) := by with_unfolding_all rfl
theorem fn_Device_read (T : TX K mg) : ∃ fd, FunD K "read" "Device.read" (defArgs s_Device_read) (defBody s_Device_read) (defScope s_Device_read) [] [] (He.ma K (He.ga K "Device") "read") fd ∧ FnOk P w K mg base (L2.CX P w) (4) (He.ma K (He.ga K "Device") "read") fd ["self", "block"] (Mi.spF K f_Device_read) := by
  rw [f_Device_read_eq]
  obtain ⟨fd, F⟩ := fd_Device_read T
  refine ⟨fd, F, L2.FunD.ok F sc_Device_read (Mi.spF_len rfl) (fun cdv A outer s0 H vs Q E hr h => ?_)⟩
  have hu := hu_of hr
  exact ⟨_, (pss_cons (ps_expr (pe_callNX (okm_check (P := P) (w := w) (base := base) T) hr (takes_of rfl rfl rfl rfl) (pa_cons (pv 1) (pa_cons (pe_op op_add (pv 1) pe_int) (pa_cons (pe_fldK K (pv 0) rfl) pa_nil)))))
      (pss_one (ps_ret (pe_ix (ixL K) (pe_fldK K (pv 0) rfl) (pv 1) (fun _ _ => rfl))))),
    Mi.body_of (K := K) (E := E) (m := 2) (k := 0) (N := ["self", "block"]) rfl h (imp_seq (imp_drop (imp_callX (imp_cons imp_var (imp_cons (imp_op opi_add imp_var imp_int) (imp_cons (imp_fld (cls_Device T) (na_Device_blocks T) imp_var) imp_nil))))) (imp_ret (imp_op opi_ixL (imp_fld (cls_Device T) (na_Device_latest T) imp_var) imp_var)))⟩
theorem ok_Device_read (T : TX K mg) : MethOk P w K mg base (L2.CX P w) (4) (He.ga K "Device") "read" ["self", "block"] [] (Mi.spF K f_Device_read) := by
  obtain ⟨fd, F, h⟩ := fn_Device_read (P := P) (w := w) (base := base) T
  exact MethOk.of F (cls_Device T) (meth_Device_read T) (F.bindsN fun _ _ _ _ _ _ us hl => match us, hl with | [_, _], _ => rfl) h
theorem sc_Device_pending : FnScope ["self", "block", "_"] ["self"] (defScope s_Device_pending) := ⟨rfl, rfl, rfl, by decide +kernel, rfl, by decide +kernel, by decide +kernel⟩
noncomputable def f_Device_pending_c1 : Mi.Env → Mi.Sto → Mi.R Mi.D := (xLc (iL (xFld "Device" "writes" (xVar 0))) (gTupX 2 (gConsX (gNameX 1) (gConsX (gNameX 2) gNilX))) xYes (xVar 1) [1, 2])
@[irreducible] noncomputable def f_Device_pending : List Mi.D → Mi.Sto → Mi.R Mi.D := Mi.defX 1 2 (xRet f_Device_pending_c1)
theorem f_Device_pending_eq : f_Device_pending = Mi.defX 1 2 (xRet f_Device_pending_c1) := by with_unfolding_all rfl
theorem fn_Device_pending (T : TX K mg) : ∃ fd, FunD K "pending" "Device.pending" (defArgs s_Device_pending) (defBody s_Device_pending) (defScope s_Device_pending) [] [] (He.ma K (He.ga K "Device") "pending") fd ∧ FnOk P w K mg base CX0 (2) (He.ma K (He.ga K "Device") "pending") fd ["self"] (Mi.spF K f_Device_pending) := by
  rw [f_Device_pending_eq]
  obtain ⟨fd, F⟩ := fd_Device_pending T
  refine ⟨fd, F, My.FunD.ok0 F sc_Device_pending (Mi.spF_len rfl) (fun cdv A outer s0 H vs Q E hr h => ?_)⟩
  have hu := hu_of hr
  exact ⟨_, (pss_one (ps_ret (pe_lc (own := [("block", 1), ("_", 2)]) rfl sc_Device_pending.nd (pi_list (pe_fldK K (pv 0) rfl)) (blkOk_by (own := [("block", 1), ("_", 2)]) (N := ["self", "block", "_"]) (sc := defScope s_Device_pending) (by decide +kernel)) (fun _ _ _ _ _ => (pg_tupK (n := 2) K rfl (pgs_cons (pg_name (i := 1) sc_Device_pending.nd rfl (Or.inl rfl)) (pgs_cons (pg_name (i := 2) sc_Device_pending.nd rfl (Or.inl rfl)) pgs_nil)))) (fun _ _ _ _ _ => pts_nil) (fun _ _ _ _ _ => (pv 1))))),
    Mi.body_of (K := K) (E := E) (m := 1) (k := 2) (N := ["self", "block", "_"]) rfl h (imp_ret (imp_lc (imp_iL (imp_fld (cls_Device T) (na_Device_writes T) imp_var)) (impg_tup (impgs_cons (impg_name) (impgs_cons (impg_name) impgs_nil))) imp_yes imp_var (by decide)))⟩
theorem ok_Device_pending (T : TX K mg) : MethOk P w K mg base CX0 (2) (He.ga K "Device") "pending" ["self"] [] (Mi.spF K f_Device_pending) := by
  obtain ⟨fd, F, h⟩ := fn_Device_pending (P := P) (w := w) (base := base) T
  exact MethOk.of F (cls_Device T) (meth_Device_pending T) (F.bindsN fun _ _ _ _ _ _ us hl => match us, hl with | [_], _ => rfl) h
theorem sc_Device_barrier : FnScope ["self"] ["self"] (defScope s_Device_barrier) := ⟨rfl, rfl, rfl, by decide +kernel, rfl, by decide +kernel, by decide +kernel⟩
@[irreducible] noncomputable def f_Device_barrier : List Mi.D → Mi.Sto → Mi.R Mi.D := Mi.defX 1 0 (xSeq (xSetF "Device" "permanent" (xVar 0) (xCB bList (xCons (xFld "Device" "latest" (xVar 0)) xNil)))
      (xSetF "Device" "writes" (xVar 0) (xLst xNil)))
theorem f_Device_barrier_eq : f_Device_barrier = Mi.defX 1 0 (xSeq (xSetF "Device" "permanent" (xVar 0) (xCB bList (xCons (xFld "Device" "latest" (xVar 0)) xNil)))
      (xSetF "Device" "writes" (xVar 0) (xLst xNil))) := by with_unfolding_all rfl
theorem fn_Device_barrier (T : TX K mg) : ∃ fd, FunD K "barrier" "Device.barrier" (defArgs s_Device_barrier) (defBody s_Device_barrier) (defScope s_Device_barrier) [] [] (He.ma K (He.ga K "Device") "barrier") fd ∧ FnOk P w K mg base CX0 (2) (He.ma K (He.ga K "Device") "barrier") fd ["self"] (Mi.spF K f_Device_barrier) := by
  rw [f_Device_barrier_eq]
  obtain ⟨fd, F⟩ := fd_Device_barrier T
  refine ⟨fd, F, My.FunD.ok0 F sc_Device_barrier (Mi.spF_len rfl) (fun cdv A outer s0 H vs Q E hr h => ?_)⟩
  have hu := hu_of hr
  exact ⟨_, (pss_cons (ps_fld (pv 0) (pe_callTy (listQ K) (by rfl) (fr_list T) (by decide +kernel) (pa_cons (pe_fldK K (pv 0) rfl) pa_nil)) rfl)
      (pss_one (ps_fld (pv 0) (pe_lst pa_nil) rfl))),
    Mi.body_of (K := K) (E := E) (m := 1) (k := 0) (N := ["self"]) rfl h (imp_seq (imp_setF (cls_Device T) (na_Device_permanent T) imp_var (imp_cb cbi_list (imp_cons (imp_fld (cls_Device T) (na_Device_latest T) imp_var) imp_nil))) (imp_setF (cls_Device T) (na_Device_writes T) imp_var (imp_lst imp_nil)))⟩
theorem ok_Device_barrier (T : TX K mg) : MethOk P w K mg base CX0 (2) (He.ga K "Device") "barrier" ["self"] [] (Mi.spF K f_Device_barrier) := by
  obtain ⟨fd, F, h⟩ := fn_Device_barrier (P := P) (w := w) (base := base) T
  exact MethOk.of F (cls_Device T) (meth_Device_barrier T) (F.bindsN fun _ _ _ _ _ _ us hl => match us, hl with | [_], _ => rfl) h
theorem sc_Device_crash : FnScope ["self", "fates", "block", "content", "fate"] ["self", "fates"] (defScope s_Device_crash) := ⟨rfl, rfl, rfl, by decide +kernel, rfl, by decide +kernel, by decide +kernel⟩
noncomputable def f_Device_crash_b1 : Mi.Env → Mi.Sto → Mi.RS := (xIfS (xB (xOp oEqS (xVar 4) (xC (.int 1)))) (xAsg (xVar 3) (gSubX (xFld "Device" "permanent" (xVar 0)) (xVar 2))) (xIfS (xB (xOp oEqS (xVar 4) (xC (.int 2)))) (xAsg (xC .non) (gSubX (xFld "Device" "permanent" (xVar 0)) (xVar 2))) xNext))
noncomputable def f_Device_crash_l1 : Mi.Env → Mi.Sto → Mi.RS := (xFor (iZ (xCons (xFld "Device" "writes" (xVar 0)) (xCons (xVar 1) xNil))) (gTupX 2 (gConsX (gTupX 2 (gConsX (gNameX 2) (gConsX (gNameX 3) gNilX))) (gConsX (gNameX 4) gNilX))) f_Device_crash_b1)
@[irreducible] noncomputable def f_Device_crash : List Mi.D → Mi.Sto → Mi.R Mi.D := Mi.defX 2 3 (xSeq f_Device_crash_l1
      (xSeq (xSetF "Device" "latest" (xVar 0) (xCB bList (xCons (xFld "Device" "permanent" (xVar 0)) xNil)))
      (xSetF "Device" "writes" (xVar 0) (xLst xNil))))
theorem f_Device_crash_eq : f_Device_crash = Mi.defX 2 3 (xSeq f_Device_crash_l1
      (xSeq (xSetF "Device" "latest" (xVar 0) (xCB bList (xCons (xFld "Device" "permanent" (xVar 0)) xNil)))
      (xSetF "Device" "writes" (xVar 0) (xLst xNil)))) := by with_unfolding_all rfl
theorem fn_Device_crash (T : TX K mg) : ∃ fd, FunD K "crash" "Device.crash" (defArgs s_Device_crash) (defBody s_Device_crash) (defScope s_Device_crash) [] [] (He.ma K (He.ga K "Device") "crash") fd ∧ FnOk P w K mg base CX0 (2) (He.ma K (He.ga K "Device") "crash") fd ["self", "fates"] (Mi.spF K f_Device_crash) := by
  rw [f_Device_crash_eq]
  obtain ⟨fd, F⟩ := fd_Device_crash T
  refine ⟨fd, F, My.FunD.ok0 F sc_Device_crash (Mi.spF_len rfl) (fun cdv A outer s0 H vs Q E hr h => ?_)⟩
  have hu := hu_of hr
  exact ⟨_, (pss_cons (ps_for PassesOwn.never rfl (pi_zip (by rfl) (fr_zip T) (pa_cons (pe_fldK K (pv 0) rfl) (pa_cons (pv 1) pa_nil))) (pg_tupK (n := 2) K rfl (pgs_cons (pg_tupK (n := 2) K rfl (pgs_cons (pg_name (i := 2) sc_Device_crash.nd rfl (Or.inl rfl)) (pgs_cons (pg_name (i := 3) sc_Device_crash.nd rfl (Or.inl rfl)) pgs_nil))) (pgs_cons (pg_name (i := 4) sc_Device_crash.nd rfl (Or.inl rfl)) pgs_nil))) (pss_one (ps_if (pt_cmpR op_eq (pv 4) pe_int (nomark _)) (pss_one (ps_asg (pv 3) (pg_sub (pe_fldK K (pv 0) rfl) (pv 2) set_list))) (pss_one (ps_if (pt_cmpR op_eq (pv 4) pe_int (nomark _)) (pss_one (ps_asg pe_non (pg_sub (pe_fldK K (pv 0) rfl) (pv 2) set_list))) pss_nil)))))
      (pss_cons (ps_fld (pv 0) (pe_callTy (listQ K) (by rfl) (fr_list T) (by decide +kernel) (pa_cons (pe_fldK K (pv 0) rfl) pa_nil)) rfl)
      (pss_one (ps_fld (pv 0) (pe_lst pa_nil) rfl)))),
    Mi.body_of (K := K) (E := E) (m := 2) (k := 3) (N := ["self", "fates", "block", "content", "fate"]) rfl h (imp_seq (imp_for (imp_iZ (imp_cons (imp_fld (cls_Device T) (na_Device_writes T) imp_var) (imp_cons imp_var imp_nil))) (impg_tup (impgs_cons (impg_tup (impgs_cons (impg_name) (impgs_cons (impg_name) impgs_nil))) (impgs_cons (impg_name) impgs_nil))) (imp_ifS (imp_test (imp_op opi_eqS imp_var imp_int)) (imp_asg imp_var (impg_sub (imp_fld (cls_Device T) (na_Device_permanent T) imp_var) imp_var)) (imp_ifS (imp_test (imp_op opi_eqS imp_var imp_int)) (imp_asg imp_non (impg_sub (imp_fld (cls_Device T) (na_Device_permanent T) imp_var) imp_var)) imp_next))) (imp_seq (imp_setF (cls_Device T) (na_Device_latest T) imp_var (imp_cb cbi_list (imp_cons (imp_fld (cls_Device T) (na_Device_permanent T) imp_var) imp_nil))) (imp_setF (cls_Device T) (na_Device_writes T) imp_var (imp_lst imp_nil))))⟩
theorem ok_Device_crash (T : TX K mg) : MethOk P w K mg base CX0 (2) (He.ga K "Device") "crash" ["self", "fates"] [] (Mi.spF K f_Device_crash) := by
  obtain ⟨fd, F, h⟩ := fn_Device_crash (P := P) (w := w) (base := base) T
  exact MethOk.of F (cls_Device T) (meth_Device_crash T) (F.bindsN fun _ _ _ _ _ _ us hl => match us, hl with | [_, _], _ => rfl) h
theorem sc_l_device_content : FnScope ["_law_number_here", "_law_salt", "_law_thing", "_law_way"] ["_law_number_here", "_law_salt"] (defScope s_l_device_content) := ⟨rfl, rfl, rfl, by decide +kernel, rfl, by decide +kernel, by decide +kernel⟩
@[irreducible] noncomputable def f_l_device_content : List Mi.D → Mi.Sto → Mi.R Mi.D := Mi.defX 2 2 (xSeq (xAsg (xOp oIxL (xLst (xCons (xVar 1) (xCons (xOp (oI fun i j => .int (i - j)) (xC (.int 0)) (xVar 1)) (xCons (xOp oAddS (xC (.str "b")) (xOp oMulS (xC (.str "a")) (xOp (oIC (fun _ j => 0 < j) fun i j => .int (i % j)) (xCB bInt (xCons (xVar 1) xNil)) (xC (.int 7))))) (xCons (xC .non) (xCons (xOp (oI fun i j => .int (i + j)) (xOp (oIC CPow fun i j => .int (i ^ j.toNat)) (xC (.int 10)) (xC (.int 20))) (xVar 1)) (xCons (xC (.str "")) (xCons (xTup xNil) (xCons (xTup (xCons (xVar 1) (xCons (xC .non) xNil))) xNil))))))))) (xOp (oIC (fun _ j => 0 < j) fun i j => .int (i % j)) (xCB bInt (xCons (xVar 0) xNil)) (xC (.int 8)))) (gNameX 2))
      (xSeq (xAsg (xOp (oIC (fun _ j => 0 < j) fun i j => .int (i % j)) (xCB bInt (xCons (xOp (oIC CDiv fun i j => .int (i / j)) (xVar 0) (xC (.int 8))) xNil)) (xC (.int 6))) (gNameX 3))
      (xSeq (xIfS (xB (xOp oEqS (xVar 3) (xC (.int 0)))) (xRet (xTup xNil)) xNext)
      (xSeq (xIfS (xB (xOp oEqS (xVar 3) (xC (.int 1)))) (xRet (xTup (xCons (xVar 2) xNil))) xNext)
      (xSeq (xIfS (xB (xOp oEqS (xVar 3) (xC (.int 2)))) (xRet (xTup (xCons (xVar 1) (xCons (xVar 2) (xCons (xC (.str "c")) xNil))))) xNext)
      (xSeq (xIfS (xB (xOp oEqS (xVar 3) (xC (.int 3)))) (xRet (xTup (xCons (xTup (xCons (xVar 2) xNil)) (xCons (xTup xNil) (xCons (xTup (xCons (xTup (xCons (xVar 1) (xCons (xC (.str "c")) xNil))) (xCons (xC .non) xNil))) xNil))))) xNext)
      (xSeq (xIfS (xB (xOp oEqS (xVar 3) (xC (.int 4)))) (xRet (xTup (xCons (xC (.str "root")) (xCons (xVar 1) (xCons (xC (.int 0)) xNil))))) xNext)
      (xRet (xTup (xCons (xVar 2) (xCons (xVar 2) (xCons (xTup (xCons (xTup (xCons (xTup (xCons (xVar 2) xNil)) xNil)) xNil)) xNil))))))))))))
theorem f_l_device_content_eq : f_l_device_content = Mi.defX 2 2 (xSeq (xAsg (xOp oIxL (xLst (xCons (xVar 1) (xCons (xOp (oI fun i j => .int (i - j)) (xC (.int 0)) (xVar 1)) (xCons (xOp oAddS (xC (.str "b")) (xOp oMulS (xC (.str "a")) (xOp (oIC (fun _ j => 0 < j) fun i j => .int (i % j)) (xCB bInt (xCons (xVar 1) xNil)) (xC (.int 7))))) (xCons (xC .non) (xCons (xOp (oI fun i j => .int (i + j)) (xOp (oIC CPow fun i j => .int (i ^ j.toNat)) (xC (.int 10)) (xC (.int 20))) (xVar 1)) (xCons (xC (.str "")) (xCons (xTup xNil) (xCons (xTup (xCons (xVar 1) (xCons (xC .non) xNil))) xNil))))))))) (xOp (oIC (fun _ j => 0 < j) fun i j => .int (i % j)) (xCB bInt (xCons (xVar 0) xNil)) (xC (.int 8)))) (gNameX 2))
      (xSeq (xAsg (xOp (oIC (fun _ j => 0 < j) fun i j => .int (i % j)) (xCB bInt (xCons (xOp (oIC CDiv fun i j => .int (i / j)) (xVar 0) (xC (.int 8))) xNil)) (xC (.int 6))) (gNameX 3))
      (xSeq (xIfS (xB (xOp oEqS (xVar 3) (xC (.int 0)))) (xRet (xTup xNil)) xNext)
      (xSeq (xIfS (xB (xOp oEqS (xVar 3) (xC (.int 1)))) (xRet (xTup (xCons (xVar 2) xNil))) xNext)
      (xSeq (xIfS (xB (xOp oEqS (xVar 3) (xC (.int 2)))) (xRet (xTup (xCons (xVar 1) (xCons (xVar 2) (xCons (xC (.str "c")) xNil))))) xNext)
      (xSeq (xIfS (xB (xOp oEqS (xVar 3) (xC (.int 3)))) (xRet (xTup (xCons (xTup (xCons (xVar 2) xNil)) (xCons (xTup xNil) (xCons (xTup (xCons (xTup (xCons (xVar 1) (xCons (xC (.str "c")) xNil))) (xCons (xC .non) xNil))) xNil))))) xNext)
      (xSeq (xIfS (xB (xOp oEqS (xVar 3) (xC (.int 4)))) (xRet (xTup (xCons (xC (.str "root")) (xCons (xVar 1) (xCons (xC (.int 0)) xNil))))) xNext)
      (xRet (xTup (xCons (xVar 2) (xCons (xVar 2) (xCons (xTup (xCons (xTup (xCons (xTup (xCons (xVar 2) xNil)) xNil)) xNil)) xNil)))))))))))) := by with_unfolding_all rfl
theorem fn_l_device_content (T : TX K mg) : ∃ fd, FunD K "_law_device_content" "_law_device_content" (defArgs s_l_device_content) (defBody s_l_device_content) (defScope s_l_device_content) [] [] (He.ga K "_law_device_content") fd ∧ FnOk P w K mg base CX0 (2) (He.ga K "_law_device_content") fd ["_law_number_here", "_law_salt"] (Mi.spF K f_l_device_content) := by
  rw [f_l_device_content_eq]
  obtain ⟨fd, F⟩ := fd_l_device_content T
  refine ⟨fd, F, My.FunD.ok0 F sc_l_device_content (Mi.spF_len rfl) (fun cdv A outer s0 H vs Q E hr h => ?_)⟩
  have hu := hu_of hr
  exact ⟨_, (pss_cons (ps_set (i := 2) sc_l_device_content.nd rfl (Or.inl rfl) (pe_ix (ixL K) (pe_lst (pa_cons (pv 1) (pa_cons (pe_op op_sub pe_int (pv 1)) (pa_cons (pe_op op_add_str pe_str (pe_op op_mulS pe_str (pe_op op_mod (pe_callTy call_int1 (by rfl) (fr_int T) (by decide +kernel) (pa_cons (pv 1) pa_nil)) pe_int))) (pa_cons pe_non (pa_cons (pe_op op_add (pe_op op_pow pe_int pe_int) (pv 1)) (pa_cons pe_str (pa_cons (pe_tup pa_nil) (pa_cons (pe_tup (pa_cons (pv 1) (pa_cons pe_non pa_nil))) pa_nil))))))))) (pe_op op_mod (pe_callTy call_int1 (by rfl) (fr_int T) (by decide +kernel) (pa_cons (pv 0) pa_nil)) pe_int) (fun _ _ => rfl)))
      (pss_cons (ps_set (i := 3) sc_l_device_content.nd rfl (Or.inl rfl) (pe_op op_mod (pe_callTy call_int1 (by rfl) (fr_int T) (by decide +kernel) (pa_cons (pe_op op_fdiv (pv 0) pe_int) pa_nil)) pe_int))
      (pss_cons (ps_if (pt_cmpR op_eq (pv 3) pe_int (nomark _)) (pss_one (ps_ret (pe_tup pa_nil))) pss_nil)
      (pss_cons (ps_if (pt_cmpR op_eq (pv 3) pe_int (nomark _)) (pss_one (ps_ret (pe_tup (pa_cons (pv 2) pa_nil)))) pss_nil)
      (pss_cons (ps_if (pt_cmpR op_eq (pv 3) pe_int (nomark _)) (pss_one (ps_ret (pe_tup (pa_cons (pv 1) (pa_cons (pv 2) (pa_cons pe_str pa_nil)))))) pss_nil)
      (pss_cons (ps_if (pt_cmpR op_eq (pv 3) pe_int (nomark _)) (pss_one (ps_ret (pe_tup (pa_cons (pe_tup (pa_cons (pv 2) pa_nil)) (pa_cons (pe_tup pa_nil) (pa_cons (pe_tup (pa_cons (pe_tup (pa_cons (pv 1) (pa_cons pe_str pa_nil))) (pa_cons pe_non pa_nil))) pa_nil)))))) pss_nil)
      (pss_cons (ps_if (pt_cmpR op_eq (pv 3) pe_int (nomark _)) (pss_one (ps_ret (pe_tup (pa_cons pe_str (pa_cons (pv 1) (pa_cons pe_int pa_nil)))))) pss_nil)
      (pss_one (ps_ret (pe_tup (pa_cons (pv 2) (pa_cons (pv 2) (pa_cons (pe_tup (pa_cons (pe_tup (pa_cons (pe_tup (pa_cons (pv 2) pa_nil)) pa_nil)) pa_nil)) pa_nil))))))))))))),
    Mi.body_of (K := K) (E := E) (m := 2) (k := 2) (N := ["_law_number_here", "_law_salt", "_law_thing", "_law_way"]) rfl h (imp_seq (imp_asg (imp_op opi_ixL (imp_lst (imp_cons imp_var (imp_cons (imp_op opi_sub imp_int imp_var) (imp_cons (imp_op opi_addS imp_str (imp_op opi_mulS imp_str (imp_op opi_mod (imp_cb cbi_int (imp_cons imp_var imp_nil)) imp_int))) (imp_cons imp_non (imp_cons (imp_op opi_add (imp_op opi_pow imp_int imp_int) imp_var) (imp_cons imp_str (imp_cons (imp_tup imp_nil) (imp_cons (imp_tup (imp_cons imp_var (imp_cons imp_non imp_nil))) imp_nil))))))))) (imp_op opi_mod (imp_cb cbi_int (imp_cons imp_var imp_nil)) imp_int)) impg_name) (imp_seq (imp_asg (imp_op opi_mod (imp_cb cbi_int (imp_cons (imp_op opi_fdiv imp_var imp_int) imp_nil)) imp_int) impg_name) (imp_seq (imp_ifS (imp_test (imp_op opi_eqS imp_var imp_int)) (imp_ret (imp_tup imp_nil)) imp_next) (imp_seq (imp_ifS (imp_test (imp_op opi_eqS imp_var imp_int)) (imp_ret (imp_tup (imp_cons imp_var imp_nil))) imp_next) (imp_seq (imp_ifS (imp_test (imp_op opi_eqS imp_var imp_int)) (imp_ret (imp_tup (imp_cons imp_var (imp_cons imp_var (imp_cons imp_str imp_nil))))) imp_next) (imp_seq (imp_ifS (imp_test (imp_op opi_eqS imp_var imp_int)) (imp_ret (imp_tup (imp_cons (imp_tup (imp_cons imp_var imp_nil)) (imp_cons (imp_tup imp_nil) (imp_cons (imp_tup (imp_cons (imp_tup (imp_cons imp_var (imp_cons imp_str imp_nil))) (imp_cons imp_non imp_nil))) imp_nil))))) imp_next) (imp_seq (imp_ifS (imp_test (imp_op opi_eqS imp_var imp_int)) (imp_ret (imp_tup (imp_cons imp_str (imp_cons imp_var (imp_cons imp_int imp_nil))))) imp_next) (imp_ret (imp_tup (imp_cons imp_var (imp_cons imp_var (imp_cons (imp_tup (imp_cons (imp_tup (imp_cons (imp_tup (imp_cons imp_var imp_nil)) imp_nil)) imp_nil)) imp_nil))))))))))))⟩
theorem ok_l_device_content (T : TX K mg) : DefOk P w K mg base (2) "_law_device_content" ["_law_number_here", "_law_salt"] [] (Mi.spF K f_l_device_content) := by
  obtain ⟨fd, F, h⟩ := fn_l_device_content (P := P) (w := w) (base := base) T
  exact DefOk.of F (gl_l_device_content T) (F.bindsN fun _ _ _ _ _ _ us hl => match us, hl with | [_, _], _ => rfl) h
theorem sc_l_device_fates : FnScope ["_law_number_here", "_law_many", "_law_kind", "_law_k", "_law_powers"] ["_law_number_here", "_law_many"] (defScope s_l_device_fates) := ⟨rfl, rfl, rfl, by decide +kernel, rfl, by decide +kernel, by decide +kernel⟩
noncomputable def f_l_device_fates_t1 : Mi.Env → Mi.Sto → Mi.R Bool := (xOr (xB (xOp oEqS (xVar 2) (xC (.int 1)))) (xB (xOp oEqS (xVar 2) (xC (.int 2)))))
noncomputable def f_l_device_fates_c1 : Mi.Env → Mi.Sto → Mi.R Mi.D := (xLc (iR1 (xCons (xVar 1) xNil)) (gNameX 3) xYes (xOp (oI fun i j => .int (i - j)) (xC (.int 3)) (xVar 2)) [3])
noncomputable def f_l_device_fates_c2 : Mi.Env → Mi.Sto → Mi.R Mi.D := (xLc (iR1 (xCons (xOp (oI fun i j => .int (i - j)) (xOp (oI fun i j => .int (i + j)) (xVar 1) (xOp (oIC (fun _ j => 0 < j) fun i j => .int (i % j)) (xCB bInt (xCons (xOp (oIC CDiv fun i j => .int (i / j)) (xVar 0) (xC (.int 5))) xNil)) (xC (.int 4)))) (xC (.int 1))) xNil)) (gNameX 3) xYes (xOp (oIC (fun _ j => 0 < j) fun i j => .int (i % j)) (xCB bInt (xCons (xOp (oIC CDiv fun i j => .int (i / j)) (xVar 0) (xOp oIxL (xVar 4) (xOp (oIC (fun _ j => 0 < j) fun i j => .int (i % j)) (xCB bInt (xCons (xVar 3) xNil)) (xC (.int 6))))) xNil)) (xC (.int 3))) [3])
@[irreducible] noncomputable def f_l_device_fates : List Mi.D → Mi.Sto → Mi.R Mi.D := Mi.defX 2 3 (xSeq (xAsg (xOp (oIC (fun _ j => 0 < j) fun i j => .int (i % j)) (xCB bInt (xCons (xVar 0) xNil)) (xC (.int 5))) (gNameX 2))
      (xSeq (xIfS (xB (xOp oEqS (xVar 2) (xC (.int 4)))) (xRet (xLst xNil)) xNext)
      (xSeq (xIfS f_l_device_fates_t1 (xRet f_l_device_fates_c1) xNext)
      (xSeq (xAsg (xLst (xCons (xC (.int 1)) (xCons (xC (.int 3)) (xCons (xC (.int 9)) (xCons (xC (.int 27)) (xCons (xC (.int 81)) (xCons (xC (.int 243)) xNil))))))) (gNameX 4))
      (xRet f_l_device_fates_c2)))))
theorem f_l_device_fates_eq : f_l_device_fates = Mi.defX 2 3 (xSeq (xAsg (xOp (oIC (fun _ j => 0 < j) fun i j => .int (i % j)) (xCB bInt (xCons (xVar 0) xNil)) (xC (.int 5))) (gNameX 2))
      (xSeq (xIfS (xB (xOp oEqS (xVar 2) (xC (.int 4)))) (xRet (xLst xNil)) xNext)
      (xSeq (xIfS f_l_device_fates_t1 (xRet f_l_device_fates_c1) xNext)
      (xSeq (xAsg (xLst (xCons (xC (.int 1)) (xCons (xC (.int 3)) (xCons (xC (.int 9)) (xCons (xC (.int 27)) (xCons (xC (.int 81)) (xCons (xC (.int 243)) xNil))))))) (gNameX 4))
      (xRet f_l_device_fates_c2))))) := by with_unfolding_all rfl
theorem fn_l_device_fates (T : TX K mg) : ∃ fd, FunD K "_law_device_fates" "_law_device_fates" (defArgs s_l_device_fates) (defBody s_l_device_fates) (defScope s_l_device_fates) [] [] (He.ga K "_law_device_fates") fd ∧ FnOk P w K mg base CX0 (2) (He.ga K "_law_device_fates") fd ["_law_number_here", "_law_many"] (Mi.spF K f_l_device_fates) := by
  rw [f_l_device_fates_eq]
  obtain ⟨fd, F⟩ := fd_l_device_fates T
  refine ⟨fd, F, My.FunD.ok0 F sc_l_device_fates (Mi.spF_len rfl) (fun cdv A outer s0 H vs Q E hr h => ?_)⟩
  have hu := hu_of hr
  exact ⟨_, (pss_cons (ps_set (i := 2) sc_l_device_fates.nd rfl (Or.inr rfl) (pe_op op_mod (pe_callTy call_int1 (by rfl) (fr_int T) (by decide +kernel) (pa_cons (pv 0) pa_nil)) pe_int))
      (pss_cons (ps_if (pt_cmpR op_eq (pv 2) pe_int (nomark _)) (pss_one (ps_ret (pe_lst pa_nil))) pss_nil)
      (pss_cons (ps_if (PW.pt (pw_or (pt_cmpR op_eq (pv 2) pe_int (nomark _)) (pw_or1 (pt_cmpR op_eq (pv 2) pe_int (nomark _))))) (pss_one (ps_ret (pe_lc (own := [("_law_k", 3)]) rfl sc_l_device_fates.nd (pi_range1 rfl (fr_range T) (pa_cons (pv 1) pa_nil)) (blkOk_by (own := [("_law_k", 3)]) (N := ["_law_number_here", "_law_many", "_law_kind", "_law_k", "_law_powers"]) (sc := defScope s_l_device_fates) (by decide +kernel)) (fun _ _ _ _ _ => (pg_name (i := 3) sc_l_device_fates.nd rfl (Or.inl rfl))) (fun _ _ _ _ _ => pts_nil) (fun _ _ _ _ _ => (pe_op op_sub pe_int (pv 2)))))) pss_nil)
      (pss_cons (ps_set (i := 4) sc_l_device_fates.nd rfl (Or.inr rfl) (pe_lst (pa_cons pe_int (pa_cons pe_int (pa_cons pe_int (pa_cons pe_int (pa_cons pe_int (pa_cons pe_int pa_nil))))))))
      (pss_one (ps_ret (pe_lc (own := [("_law_k", 3)]) rfl sc_l_device_fates.nd (pi_range1 rfl (fr_range T) (pa_cons (pe_op op_sub (pe_op op_add (pv 1) (pe_op op_mod (pe_callTy call_int1 (by rfl) (fr_int T) (by decide +kernel) (pa_cons (pe_op op_fdiv (pv 0) pe_int) pa_nil)) pe_int)) pe_int) pa_nil)) (blkOk_by (own := [("_law_k", 3)]) (N := ["_law_number_here", "_law_many", "_law_kind", "_law_k", "_law_powers"]) (sc := defScope s_l_device_fates) (by decide +kernel)) (fun _ _ _ _ _ => (pg_name (i := 3) sc_l_device_fates.nd rfl (Or.inl rfl))) (fun _ _ _ _ _ => pts_nil) (fun _ _ _ _ _ => (pe_op op_mod (pe_callTy call_int1 (by rfl) (fr_int T) (by decide +kernel) (pa_cons (pe_op op_fdiv (pv 0) (pe_ix (ixL K) (pv 4) (pe_op op_mod (pe_callTy call_int1 (by rfl) (fr_int T) (by decide +kernel) (pa_cons (pv 3) pa_nil)) pe_int) (fun _ _ => rfl))) pa_nil)) pe_int))))))))),
    Mi.body_of (K := K) (E := E) (m := 2) (k := 3) (N := ["_law_number_here", "_law_many", "_law_kind", "_law_k", "_law_powers"]) rfl h (imp_seq (imp_asg (imp_op opi_mod (imp_cb cbi_int (imp_cons imp_var imp_nil)) imp_int) impg_name) (imp_seq (imp_ifS (imp_test (imp_op opi_eqS imp_var imp_int)) (imp_ret (imp_lst imp_nil)) imp_next) (imp_seq (imp_ifS (imp_or (imp_test (imp_op opi_eqS imp_var imp_int)) (imp_test (imp_op opi_eqS imp_var imp_int))) (imp_ret (imp_lc (imp_iR1 (imp_cons imp_var imp_nil)) (impg_name) imp_yes (imp_op opi_sub imp_int imp_var) (by decide))) imp_next) (imp_seq (imp_asg (imp_lst (imp_cons imp_int (imp_cons imp_int (imp_cons imp_int (imp_cons imp_int (imp_cons imp_int (imp_cons imp_int imp_nil))))))) impg_name) (imp_ret (imp_lc (imp_iR1 (imp_cons (imp_op opi_sub (imp_op opi_add imp_var (imp_op opi_mod (imp_cb cbi_int (imp_cons (imp_op opi_fdiv imp_var imp_int) imp_nil)) imp_int)) imp_int) imp_nil)) (impg_name) imp_yes (imp_op opi_mod (imp_cb cbi_int (imp_cons (imp_op opi_fdiv imp_var (imp_op opi_ixL imp_var (imp_op opi_mod (imp_cb cbi_int (imp_cons imp_var imp_nil)) imp_int))) imp_nil)) imp_int) (by decide)))))))⟩
theorem ok_l_device_fates (T : TX K mg) : DefOk P w K mg base (2) "_law_device_fates" ["_law_number_here", "_law_many"] [] (Mi.spF K f_l_device_fates) := by
  obtain ⟨fd, F, h⟩ := fn_l_device_fates (P := P) (w := w) (base := base) T
  exact DefOk.of F (gl_l_device_fates T) (F.bindsN fun _ _ _ _ _ _ us hl => match us, hl with | [_, _], _ => rfl) h
theorem sc_l_device_failure : FnScope ["_law_plain", "_law_fates", "_law_k", "_law_pair", "_law_fate"] ["_law_plain", "_law_fates"] (defScope s_l_device_failure) := ⟨rfl, rfl, rfl, by decide +kernel, rfl, by decide +kernel, by decide +kernel⟩
noncomputable def f_l_device_failure_b1 : Mi.Env → Mi.Sto → Mi.RS := (xSeq (xAsg (xOp oIxL (xDGet (xVar 0) (xC (.str "wait"))) (xVar 2)) (gNameX 3))
      (xSeq (xAsg (xC (.int 0)) (gNameX 4))
      (xSeq (xIfS (xB (xOp (oI fun i j => .bl (decide (i < j))) (xVar 2) (xCB bLen (xCons (xVar 1) xNil)))) (xAsg (xOp oIxL (xVar 1) (xVar 2)) (gNameX 4)) xNext)
      (xSeq (xIfS (xB (xOp oEqS (xVar 4) (xC (.int 1)))) (xDPut (xDGet (xVar 0) (xC (.str "kept"))) (xOp oIxT (xVar 3) (xC (.int 0))) (xOp oIxT (xVar 3) (xC (.int 1)))) xNext)
      (xIfS (xB (xOp oEqS (xVar 4) (xC (.int 2)))) (xDPut (xDGet (xVar 0) (xC (.str "kept"))) (xOp oIxT (xVar 3) (xC (.int 0))) (xC .non)) xNext)))))
noncomputable def f_l_device_failure_l1 : Mi.Env → Mi.Sto → Mi.RS := (xFor (iR1 (xCons (xCB bLen (xCons (xDGet (xVar 0) (xC (.str "wait"))) xNil)) xNil)) (gNameX 2) f_l_device_failure_b1)
@[irreducible] noncomputable def f_l_device_failure : List Mi.D → Mi.Sto → Mi.R Mi.D := Mi.defX 2 3 (xSeq f_l_device_failure_l1
      (xDPut (xVar 0) (xC (.str "wait")) (xLst xNil)))
theorem f_l_device_failure_eq : f_l_device_failure = Mi.defX 2 3 (xSeq f_l_device_failure_l1
      (xDPut (xVar 0) (xC (.str "wait")) (xLst xNil))) := by with_unfolding_all rfl
theorem fn_l_device_failure (T : TX K mg) : ∃ fd, FunD K "_law_device_failure" "_law_device_failure" (defArgs s_l_device_failure) (defBody s_l_device_failure) (defScope s_l_device_failure) [] [] (He.ga K "_law_device_failure") fd ∧ FnOk P w K mg base CX0 (2) (He.ga K "_law_device_failure") fd ["_law_plain", "_law_fates"] (Mi.spF K f_l_device_failure) := by
  rw [f_l_device_failure_eq]
  obtain ⟨fd, F⟩ := fd_l_device_failure T
  refine ⟨fd, F, My.FunD.ok0 F sc_l_device_failure (Mi.spF_len rfl) (fun cdv A outer s0 H vs Q E hr h => ?_)⟩
  have hu := hu_of hr
  exact ⟨_, (pss_cons (ps_for PassesOwn.never rfl (pi_range1 rfl (fr_range T) (pa_cons (pe_callB (lenQ K) (by rfl) (fr_len T) PySem.boot_len (pa_cons (pe_dget hu (pv 0) pe_str (fun _ _ => rfl)) pa_nil)) pa_nil)) (pg_name (i := 2) sc_l_device_failure.nd rfl (Or.inl rfl)) (pss_cons (ps_set (i := 3) sc_l_device_failure.nd rfl (Or.inl rfl) (pe_ix (ixL K) (pe_dget hu (pv 0) pe_str (fun _ _ => rfl)) (pv 2) (fun _ _ => rfl)))
      (pss_cons (ps_set (i := 4) sc_l_device_failure.nd rfl (Or.inl rfl) pe_int)
      (pss_cons (ps_if (pt_cmpR op_lt (pv 2) (pe_callB (lenQ K) (by rfl) (fr_len T) PySem.boot_len (pa_cons (pv 1) pa_nil)) (nomark _)) (pss_one (ps_set (i := 4) sc_l_device_failure.nd rfl (Or.inl rfl) (pe_ix (ixL K) (pv 1) (pv 2) (fun _ _ => rfl)))) pss_nil)
      (pss_cons (ps_if (pt_cmpR op_eq (pv 4) pe_int (nomark _)) (pss_one (ps_dput hu (pe_dget hu (pv 0) pe_str (fun _ _ => rfl)) (pe_ix (ixT K) (pv 3) pe_int (fun _ _ => rfl)) (pe_ix (ixT K) (pv 3) pe_int (fun _ _ => rfl)) rfl)) pss_nil)
      (pss_one (ps_if (pt_cmpR op_eq (pv 4) pe_int (nomark _)) (pss_one (ps_dput hu (pe_dget hu (pv 0) pe_str (fun _ _ => rfl)) (pe_ix (ixT K) (pv 3) pe_int (fun _ _ => rfl)) pe_non rfl)) pss_nil)))))))
      (pss_one (ps_dput hu (pv 0) pe_str (pe_lst pa_nil) rfl))),
    Mi.body_of (K := K) (E := E) (m := 2) (k := 3) (N := ["_law_plain", "_law_fates", "_law_k", "_law_pair", "_law_fate"]) rfl h (imp_seq (imp_for (imp_iR1 (imp_cons (imp_cb cbi_len (imp_cons (imp_dget imp_var imp_str) imp_nil)) imp_nil)) (impg_name) (imp_seq (imp_asg (imp_op opi_ixL (imp_dget imp_var imp_str) imp_var) impg_name) (imp_seq (imp_asg imp_int impg_name) (imp_seq (imp_ifS (imp_test (imp_op opi_lt imp_var (imp_cb cbi_len (imp_cons imp_var imp_nil)))) (imp_asg (imp_op opi_ixL imp_var imp_var) impg_name) imp_next) (imp_seq (imp_ifS (imp_test (imp_op opi_eqS imp_var imp_int)) (imp_dput (imp_dget imp_var imp_str) (imp_op opi_ixT imp_var imp_int) (imp_op opi_ixT imp_var imp_int)) imp_next) (imp_ifS (imp_test (imp_op opi_eqS imp_var imp_int)) (imp_dput (imp_dget imp_var imp_str) (imp_op opi_ixT imp_var imp_int) imp_non) imp_next)))))) (imp_dput imp_var imp_str (imp_lst imp_nil)))⟩
theorem ok_l_device_failure (T : TX K mg) : DefOk P w K mg base (2) "_law_device_failure" ["_law_plain", "_law_fates"] [] (Mi.spF K f_l_device_failure) := by
  obtain ⟨fd, F, h⟩ := fn_l_device_failure (P := P) (w := w) (base := base) T
  exact DefOk.of F (gl_l_device_failure T) (F.bindsN fun _ _ _ _ _ _ us hl => match us, hl with | [_, _], _ => rfl) h
theorem sc_l_device_due : FnScope ["_law_plain", "_law_block", "_law_found", "_law_pair"] ["_law_plain", "_law_block"] (defScope s_l_device_due) := ⟨rfl, rfl, rfl, by decide +kernel, rfl, by decide +kernel, by decide +kernel⟩
noncomputable def f_l_device_due_b1 : Mi.Env → Mi.Sto → Mi.RS := (xIfS (xB (xOp oEqS (xOp oIxT (xVar 3) (xC (.int 0))) (xVar 1))) (xAsg (xOp oIxT (xVar 3) (xC (.int 1))) (gNameX 2)) xNext)
noncomputable def f_l_device_due_l1 : Mi.Env → Mi.Sto → Mi.RS := (xFor (iL (xDGet (xVar 0) (xC (.str "wait")))) (gNameX 3) f_l_device_due_b1)
@[irreducible] noncomputable def f_l_device_due : List Mi.D → Mi.Sto → Mi.R Mi.D := Mi.defX 2 2 (xSeq (xAsg (xDGet1 (xDGet (xVar 0) (xC (.str "kept"))) (xVar 1)) (gNameX 2))
      (xSeq f_l_device_due_l1
      (xRet (xVar 2))))
theorem f_l_device_due_eq : f_l_device_due = Mi.defX 2 2 (xSeq (xAsg (xDGet1 (xDGet (xVar 0) (xC (.str "kept"))) (xVar 1)) (gNameX 2))
      (xSeq f_l_device_due_l1
      (xRet (xVar 2)))) := by with_unfolding_all rfl
theorem fn_l_device_due (T : TX K mg) : ∃ fd, FunD K "_law_device_due" "_law_device_due" (defArgs s_l_device_due) (defBody s_l_device_due) (defScope s_l_device_due) [] [] (He.ga K "_law_device_due") fd ∧ FnOk P w K mg base CX0 (2) (He.ga K "_law_device_due") fd ["_law_plain", "_law_block"] (Mi.spF K f_l_device_due) := by
  rw [f_l_device_due_eq]
  obtain ⟨fd, F⟩ := fd_l_device_due T
  refine ⟨fd, F, My.FunD.ok0 F sc_l_device_due (Mi.spF_len rfl) (fun cdv A outer s0 H vs Q E hr h => ?_)⟩
  have hu := hu_of hr
  exact ⟨_, (pss_cons (ps_set (i := 2) sc_l_device_due.nd rfl (Or.inl rfl) (pe_dget1 hu (pe_dget hu (pv 0) pe_str (fun _ _ => rfl)) (pv 1) ⟨rfl, rfl, rfl, rfl⟩))
      (pss_cons (ps_for PassesOwn.never rfl (pi_list (pe_dget hu (pv 0) pe_str (fun _ _ => rfl))) (pg_name (i := 3) sc_l_device_due.nd rfl (Or.inl rfl)) (pss_one (ps_if (pt_cmpR op_eq (pe_ix (ixT K) (pv 3) pe_int (fun _ _ => rfl)) (pv 1) (nomark _)) (pss_one (ps_set (i := 2) sc_l_device_due.nd rfl (Or.inl rfl) (pe_ix (ixT K) (pv 3) pe_int (fun _ _ => rfl)))) pss_nil)))
      (pss_one (ps_ret (pv 2))))),
    Mi.body_of (K := K) (E := E) (m := 2) (k := 2) (N := ["_law_plain", "_law_block", "_law_found", "_law_pair"]) rfl h (imp_seq (imp_asg (imp_dget1 (imp_dget imp_var imp_str) imp_var) impg_name) (imp_seq (imp_for (imp_iL (imp_dget imp_var imp_str)) (impg_name) (imp_ifS (imp_test (imp_op opi_eqS (imp_op opi_ixT imp_var imp_int) imp_var)) (imp_asg (imp_op opi_ixT imp_var imp_int) impg_name) imp_next)) (imp_ret imp_var)))⟩
theorem ok_l_device_due (T : TX K mg) : DefOk P w K mg base (2) "_law_device_due" ["_law_plain", "_law_block"] [] (Mi.spF K f_l_device_due) := by
  obtain ⟨fd, F, h⟩ := fn_l_device_due (P := P) (w := w) (base := base) T
  exact DefOk.of F (gl_l_device_due T) (F.bindsN fun _ _ _ _ _ _ us hl => match us, hl with | [_, _], _ => rfl) h
theorem sc_l_device_holds : FnScope ["_law_device", "_law_plain", "_law_looked", "_law_pair", "_law_due", "_law_turn", "_law_told", "_law_block"] ["_law_device", "_law_plain"] (defScope s_l_device_holds) := ⟨rfl, rfl, rfl, by decide +kernel, rfl, by decide +kernel, by decide +kernel⟩
noncomputable def f_l_device_holds_c1 : Mi.Env → Mi.Sto → Mi.R Mi.D := (xLc (iL (xDGet (xVar 1) (xC (.str "wait")))) (gNameX 3) xYes (xOp oIxT (xVar 3) (xC (.int 0))) [3])
noncomputable def f_l_device_holds_c2 : Mi.Env → Mi.Sto → Mi.R Mi.D := (xLc (iL (xDGet (xVar 1) (xC (.str "wait")))) (gNameX 3) xYes (xOp oIxT (xVar 3) (xC (.int 0))) [3])
noncomputable def f_l_device_holds_b1 : Mi.Env → Mi.Sto → Mi.RS := (xSeq (xAsg (xMeth "Device" "pending" f_Device_pending (xVar 0) xNil) (gNameX 6))
      (xSeq (xIfS (xNot (xB (xCall (fSame 8) (xCons (xVar 6) (xCons (xVar 4) xNil))))) (xRet (xC (.bl false))) xNext)
      (xDrop (xBM (mL gAppend) (xVar 6) (xCons (xC (.int 0)) xNil)))))
noncomputable def f_l_device_holds_l1 : Mi.Env → Mi.Sto → Mi.RS := (xFor (iR1 (xCons (xC (.int 2)) xNil)) (gNameX 5) f_l_device_holds_b1)
noncomputable def f_l_device_holds_c3 : Mi.Env → Mi.Sto → Mi.R Mi.D := (xLc (iL (xVar 2)) (gNameX 7) (xNot (xB (xCall (fSame 8) (xCons (xMeth "Device" "read" f_Device_read (xVar 0) (xCons (xVar 7) xNil)) (xCons (xCall f_l_device_due (xCons (xVar 1) (xCons (xVar 7) xNil))) xNil))))) (xVar 7) [7])
@[irreducible] noncomputable def f_l_device_holds : List Mi.D → Mi.Sto → Mi.R Mi.D := Mi.defX 2 6 (xSeq (xAsg (xOp oCat (xOp oCat (xLst (xCons (xC (.int 0)) (xCons (xC (.int 1)) (xCons (xOp (oI fun i j => .int (i - j)) (xDGet (xVar 1) (xC (.str "count"))) (xC (.int 1))) xNil)))) (xCB bListD (xCons (xDGet (xVar 1) (xC (.str "kept"))) xNil))) f_l_device_holds_c1) (gNameX 2))
      (xSeq (xIfS (xB (xOp (oI fun i j => .bl (decide (i < j))) (xDGet (xVar 1) (xC (.str "count"))) (xC (.int 10)))) (xAsg (xLRg1 (xDGet (xVar 1) (xC (.str "count")))) (gNameX 2)) xNext)
      (xSeq (xAsg f_l_device_holds_c2 (gNameX 4))
      (xSeq f_l_device_holds_l1
      (xRet (xOp oEqS (xCB bLen (xCons f_l_device_holds_c3 xNil)) (xC (.int 0))))))))
theorem f_l_device_holds_eq : f_l_device_holds = Mi.defX 2 6 (xSeq (xAsg (xOp oCat (xOp oCat (xLst (xCons (xC (.int 0)) (xCons (xC (.int 1)) (xCons (xOp (oI fun i j => .int (i - j)) (xDGet (xVar 1) (xC (.str "count"))) (xC (.int 1))) xNil)))) (xCB bListD (xCons (xDGet (xVar 1) (xC (.str "kept"))) xNil))) f_l_device_holds_c1) (gNameX 2))
      (xSeq (xIfS (xB (xOp (oI fun i j => .bl (decide (i < j))) (xDGet (xVar 1) (xC (.str "count"))) (xC (.int 10)))) (xAsg (xLRg1 (xDGet (xVar 1) (xC (.str "count")))) (gNameX 2)) xNext)
      (xSeq (xAsg f_l_device_holds_c2 (gNameX 4))
      (xSeq f_l_device_holds_l1
      (xRet (xOp oEqS (xCB bLen (xCons f_l_device_holds_c3 xNil)) (xC (.int 0)))))))) := by with_unfolding_all rfl
theorem fn_l_device_holds (T : TX K mg) : ∃ fd, FunD K "_law_device_holds" "_law_device_holds" (defArgs s_l_device_holds) (defBody s_l_device_holds) (defScope s_l_device_holds) [] [] (He.ga K "_law_device_holds") fd ∧ FnOk P w K mg base CX0 (11) (He.ga K "_law_device_holds") fd ["_law_device", "_law_plain"] (Mi.spF K f_l_device_holds) := by
  rw [f_l_device_holds_eq]
  obtain ⟨fd, F⟩ := fd_l_device_holds T
  refine ⟨fd, F, My.FunD.ok0 F sc_l_device_holds (Mi.spF_len rfl) (fun cdv A outer s0 H vs Q E hr h => ?_)⟩
  have hu := hu_of hr
  exact ⟨_, (pss_cons (ps_set (i := 2) sc_l_device_holds.nd rfl (Or.inl rfl) (pe_op op_cat (pe_op op_cat (pe_lst (pa_cons pe_int (pa_cons pe_int (pa_cons (pe_op op_sub (pe_dget hu (pv 1) pe_str (fun _ _ => rfl)) pe_int) pa_nil)))) (pe_callTy (call_listD rfl) (by rfl) (fr_list T) (by decide +kernel) (pa_cons (pe_dget hu (pv 1) pe_str (fun _ _ => rfl)) pa_nil))) (pe_lc (own := [("_law_pair", 3)]) rfl sc_l_device_holds.nd (pi_list (pe_dget hu (pv 1) pe_str (fun _ _ => rfl))) (blkOk_by (own := [("_law_pair", 3)]) (N := ["_law_device", "_law_plain", "_law_looked", "_law_pair", "_law_due", "_law_turn", "_law_told", "_law_block"]) (sc := defScope s_l_device_holds) (by decide +kernel)) (fun _ _ _ _ _ => (pg_name (i := 3) sc_l_device_holds.nd rfl (Or.inl rfl))) (fun _ _ _ _ _ => pts_nil) (fun _ _ _ _ _ => (pe_ix (ixT K) (pv 3) pe_int (fun _ _ => rfl))))))
      (pss_cons (ps_if (pt_cmpR op_lt (pe_dget hu (pv 1) pe_str (fun _ _ => rfl)) pe_int (nomark _)) (pss_one (ps_set (i := 2) sc_l_device_holds.nd rfl (Or.inl rfl) (pe_listRg rfl (by rfl) (fr_list T) (prg_1 (by rfl) (fr_range T) (pe_dget hu (pv 1) pe_str (fun _ _ => rfl)))))) pss_nil)
      (pss_cons (ps_setLc (i := 4) (own := [("_law_pair", 3)]) rfl sc_l_device_holds.nd rfl rfl (sw_true rfl rfl rfl (by decide +kernel)) (pi_list (pe_dget hu (pv 1) pe_str (fun _ _ => rfl))) (blkOk_by (own := [("_law_pair", 3)]) (N := ["_law_device", "_law_plain", "_law_looked", "_law_pair", "_law_due", "_law_turn", "_law_told", "_law_block"]) (sc := defScope s_l_device_holds) (by decide +kernel)) (fun _ _ _ _ _ => (pg_name (i := 3) sc_l_device_holds.nd rfl (Or.inl rfl))) (fun _ _ _ _ _ => pts_nil) (fun _ _ _ _ _ => (pe_ix (ixT K) (pv 3) pe_int (fun _ _ => rfl))))
      (pss_cons (ps_for PassesOwn.never rfl (pi_range1 rfl (fr_range T) (pa_cons pe_int pa_nil)) (pg_name (i := 5) sc_l_device_holds.nd rfl (Or.inl rfl)) (pss_cons (ps_set (i := 6) sc_l_device_holds.nd rfl (Or.inl rfl) (pe_methN0 (ok_Device_pending (P := P) (w := w) (base := base) T) (pv 0) hr))
      (pss_cons (ps_if (pt_not (pt_val (pe_callN (okm_l_same (P := P) (w := w) (base := base) T 8) hr (pa_cons (pv 6) (pa_cons (pv 4) pa_nil))))) (pss_one (ps_ret pe_bl)) pss_nil)
      (pss_one (ps_expr (pe_bm PySem.F.plainAttrs_list PySem.F.slot_list_append PySem.F.type_list_append mt_append (pv 6) (pa_cons pe_int pa_nil)))))))
      (pss_one (ps_ret (pe_cmpR op_eq (pe_callB (lenQ K) (by rfl) (fr_len T) PySem.boot_len (pa_cons (pe_lc (own := [("_law_block", 7)]) rfl sc_l_device_holds.nd (pi_list (pv 2)) (blkOk_by (own := [("_law_block", 7)]) (N := ["_law_device", "_law_plain", "_law_looked", "_law_pair", "_law_due", "_law_turn", "_law_told", "_law_block"]) (sc := defScope s_l_device_holds) (by decide +kernel)) (fun _ _ _ _ _ => (pg_name (i := 7) sc_l_device_holds.nd rfl (Or.inl rfl))) (fun _ _ _ _ _ => (pts_one (pt_not (pt_val (pe_callN (okm_l_same (P := P) (w := w) (base := base) T 8) hr (pa_cons (pe_methNX (ok_Device_read (P := P) (w := w) (base := base) T) (pv 0) hr takes0 (pa_cons (pv 7) pa_nil)) (pa_cons (pe_callN (ok_l_device_due (P := P) (w := w) (base := base) T) hr (pa_cons (pv 1) (pa_cons (pv 7) pa_nil))) pa_nil))))))) (fun _ _ _ _ _ => (pv 7))) pa_nil)) pe_int (nomark _)))))))),
    Mi.body_of (K := K) (E := E) (m := 2) (k := 6) (N := ["_law_device", "_law_plain", "_law_looked", "_law_pair", "_law_due", "_law_turn", "_law_told", "_law_block"]) rfl h (imp_seq (imp_asg (imp_op opi_cat (imp_op opi_cat (imp_lst (imp_cons imp_int (imp_cons imp_int (imp_cons (imp_op opi_sub (imp_dget imp_var imp_str) imp_int) imp_nil)))) (imp_cb cbi_listD (imp_cons (imp_dget imp_var imp_str) imp_nil))) (imp_lc (imp_iL (imp_dget imp_var imp_str)) (impg_name) imp_yes (imp_op opi_ixT imp_var imp_int) (by decide))) impg_name) (imp_seq (imp_ifS (imp_test (imp_op opi_lt (imp_dget imp_var imp_str) imp_int)) (imp_asg (imp_lrg1 (imp_dget imp_var imp_str)) impg_name) imp_next) (imp_seq (imp_asg (imp_lc (imp_iL (imp_dget imp_var imp_str)) (impg_name) imp_yes (imp_op opi_ixT imp_var imp_int) (by decide)) impg_name) (imp_seq (imp_for (imp_iR1 (imp_cons imp_int imp_nil)) (impg_name) (imp_seq (imp_asg (imp_meth imp_var imp_nil) impg_name) (imp_seq (imp_ifS (imp_not (imp_tB (imp_call (imp_cons imp_var (imp_cons imp_var imp_nil))))) (imp_ret imp_bl) imp_next) (imp_drop (imp_bm mti_append imp_var (imp_cons imp_int imp_nil)))))) (imp_ret (imp_op opi_eqS (imp_cb cbi_len (imp_cons (imp_lc (imp_iL imp_var) (impg_name) (imp_not (imp_tB (imp_call (imp_cons (imp_methX0 imp_var (imp_cons imp_var imp_nil)) (imp_cons (imp_call (imp_cons imp_var (imp_cons imp_var imp_nil))) imp_nil))))) imp_var (by decide)) imp_nil)) imp_int))))))⟩
theorem ok_l_device_holds (T : TX K mg) : DefOk P w K mg base (11) "_law_device_holds" ["_law_device", "_law_plain"] [] (Mi.spF K f_l_device_holds) := by
  obtain ⟨fd, F, h⟩ := fn_l_device_holds (P := P) (w := w) (base := base) T
  exact DefOk.of F (gl_l_device_holds T) (F.bindsN fun _ _ _ _ _ _ us hl => match us, hl with | [_, _], _ => rfl) h
theorem sc_l_device_refuses : FnScope ["_law_device", "_law_block", "_law_content", "_law_told", "e", "_law_others"] ["_law_device", "_law_block", "_law_content"] (defScope s_l_device_refuses) := ⟨rfl, rfl, rfl, by decide +kernel, rfl, by decide +kernel, by decide +kernel⟩
noncomputable def f_l_device_refuses_b1 : Mi.Env → Mi.Sto → Mi.RS := (xDrop (xMethX "Device" "read" f_Device_read (xVar 0) (xCons (xVar 1) xNil)))
noncomputable def f_l_device_refuses_s1 (l : Nat) (ec : Str) (ef : List (Str × Mi.D)) : Mi.Env → Mi.Sto → Mi.RS := (xDrop (xBM (mL gAppend) (xVar 3) (xCons (xTup (xCons (xErrF "BadRange" "start" l ec ef (xVar 4)) (xCons (xErrF "BadRange" "end" l ec ef (xVar 4)) xNil))) xNil)))
noncomputable def f_l_device_refuses_b2 : Mi.Env → Mi.Sto → Mi.RS := (xDrop (xMethX "Device" "write" f_Device_write (xVar 0) (xCons (xVar 1) (xCons (xVar 2) xNil))))
noncomputable def f_l_device_refuses_t1 (l : Nat) (ec : Str) (ef : List (Str × Mi.D)) : Mi.Env → Mi.Sto → Mi.R Bool := (xAnd (xB (xIsE "BadRange" true l ec (xVar 4))) (xAnd (xB (xIsE "BadRange" true l ec (xVar 4))) (xAnd (xB (xIsE "BadRange" true l ec (xVar 4))) (xNot (xB (xVar 5))))))
noncomputable def f_l_device_refuses_s2 (l : Nat) (ec : Str) (ef : List (Str × Mi.D)) : Mi.Env → Mi.Sto → Mi.RS := (xSeq (xAsg (xIsE "BadRange" false l ec (xVar 4)) (gNameX 5))
      (xIfS (f_l_device_refuses_t1 l ec ef) (xDrop (xBM (mL gAppend) (xVar 3) (xCons (xTup (xCons (xErrF "BadRange" "start" l ec ef (xVar 4)) (xCons (xErrF "BadRange" "end" l ec ef (xVar 4)) xNil))) xNil))) xNext))
@[irreducible] noncomputable def f_l_device_refuses : List Mi.D → Mi.Sto → Mi.R Mi.D := Mi.defX 3 3 (xSeq (xAsg (xLst xNil) (gNameX 3))
      (xSeq (xTryAs0 [("BadRange", true)] 4 f_l_device_refuses_b1 f_l_device_refuses_s1)
      (xSeq (xTryAs0 [("BadRange", true)] 4 f_l_device_refuses_b2 f_l_device_refuses_s2)
      (xRet (xCall (fSame 8) (xCons (xVar 3) (xCons (xLst (xCons (xTup (xCons (xVar 1) (xCons (xOp (oI fun i j => .int (i + j)) (xVar 1) (xC (.int 1))) xNil))) (xCons (xTup (xCons (xVar 1) (xCons (xOp (oI fun i j => .int (i + j)) (xVar 1) (xC (.int 1))) xNil))) xNil))) xNil)))))))
theorem f_l_device_refuses_eq : f_l_device_refuses = Mi.defX 3 3 (xSeq (xAsg (xLst xNil) (gNameX 3))
      (xSeq (xTryAs0 [("BadRange", true)] 4 f_l_device_refuses_b1 f_l_device_refuses_s1)
      (xSeq (xTryAs0 [("BadRange", true)] 4 f_l_device_refuses_b2 f_l_device_refuses_s2)
      (xRet (xCall (fSame 8) (xCons (xVar 3) (xCons (xLst (xCons (xTup (xCons (xVar 1) (xCons (xOp (oI fun i j => .int (i + j)) (xVar 1) (xC (.int 1))) xNil))) (xCons (xTup (xCons (xVar 1) (xCons (xOp (oI fun i j => .int (i + j)) (xVar 1) (xC (.int 1))) xNil))) xNil))) xNil))))))) := by with_unfolding_all rfl
theorem fn_l_device_refuses (T : TX K mg) : ∃ fd, FunD K "_law_device_refuses" "_law_device_refuses" (defArgs s_l_device_refuses) (defBody s_l_device_refuses) (defScope s_l_device_refuses) [] [] (He.ga K "_law_device_refuses") fd ∧ FnOk P w K mg base CX0 (11) (He.ga K "_law_device_refuses") fd ["_law_device", "_law_block", "_law_content"] (Mi.spF K f_l_device_refuses) := by
  rw [f_l_device_refuses_eq]
  obtain ⟨fd, F⟩ := fd_l_device_refuses T
  refine ⟨fd, F, My.FunD.ok0 F sc_l_device_refuses (Mi.spF_len rfl) (fun cdv A outer s0 H vs Q E hr h => ?_)⟩
  have hu := hu_of hr
  exact ⟨_, (pss_cons (ps_set (i := 3) sc_l_device_refuses.nd rfl (Or.inl rfl) (pe_lst pa_nil))
      (pss_cons (ps_try_asK K (i := 4) (c := .ref (He.ga K "BadRange")) (Wout := fun _ _ _ _ => False) rfl rfl sc_l_device_refuses.nd rfl rfl ⟨rfl, by decide, (Or.inl (gl_BadRange T))⟩ takes0 (fun W pn xe tk po => (pss_one (ps_expr (pe_methNX (ok_Device_read (P := P) (w := w) (base := base) T) (pv 0) hr tk (pa_cons (pv 1) pa_nil))))) (fun a oe cls d pn hz hf => (pss_one (ps_expr (pe_bmK K PySem.F.plainAttrs_list PySem.F.slot_list_append PySem.F.type_list_append mt_append (pv 3) (pa_cons (pe_tup (pa_cons (pe_xfS a K (xf_BadRange T) (na_BadRange_start T) hz hf (pv 4)) (pa_cons (pe_xfS a K (xf_BadRange T) (na_BadRange_end T) hz hf (pv 4)) pa_nil))) pa_nil))))))
      (pss_cons (ps_try_asK K (i := 4) (c := .ref (He.ga K "AccessError")) (Wout := fun _ _ _ _ => False) rfl rfl sc_l_device_refuses.nd rfl rfl ⟨rfl, by decide, (Or.inl (gl_AccessError T))⟩ takes0 (fun W pn xe tk po => (pss_one (ps_expr (pe_methNX (ok_Device_write (P := P) (w := w) (base := base) T) (pv 0) hr tk (pa_cons (pv 1) (pa_cons (pv 2) pa_nil)))))) (fun a oe cls d pn hz hf => (pss_cons (ps_set (i := 5) sc_l_device_refuses.nd rfl (Or.inl rfl) (pe_callB (call_isS a K (xf_BadRange T) hz hf) (by rfl) (fr_isinstance T) (by decide +kernel) (pa_cons (pv 4) (pa_cons (pe_tup (pa_cons (pe_glob rfl (gl_Unmapped T) (v := .ref (He.ga K "Unmapped")) rfl) (pa_cons (pe_glob rfl (gl_Denied T) (v := .ref (He.ga K "Denied")) rfl) (pa_cons (pe_glob rfl (gl_BeyondFile T) (v := .ref (He.ga K "BeyondFile")) rfl) (pa_cons (pe_glob rfl (gl_LimitError T) (v := .ref (He.ga K "LimitError")) rfl) (pa_cons (pe_glob rfl (gl_MissingError T) (v := .ref (He.ga K "MissingError")) rfl) (pa_cons (pe_glob rfl (gl_FileError T) (v := .ref (He.ga K "FileError")) rfl) (pa_cons (pe_glob rfl (gl_CodeError T) (v := .ref (He.ga K "CodeError")) rfl) pa_nil)))))))) pa_nil))))
      (pss_one (ps_if (PW.pt (pw_and (pt_val (pe_callB (call_isS a K (xf_BadRange T) hz hf) (by rfl) (fr_isinstance T) (by decide +kernel) (pa_cons (pv 4) (pa_cons (pe_glob rfl (gl_BadRange T) (v := .ref (He.ga K "BadRange")) rfl) pa_nil)))) (pw_and (pt_val (pe_callB (call_isS a K (xf_BadRange T) hz hf) (by rfl) (fr_isinstance T) (by decide +kernel) (pa_cons (pv 4) (pa_cons (pe_glob rfl (gl_PagesError T) (v := .ref (He.ga K "PagesError")) rfl) pa_nil)))) (pw_and (pt_val (pe_callB (call_isS a K (xf_BadRange T) hz hf) (by rfl) (fr_isinstance T) (by decide +kernel) (pa_cons (pv 4) (pa_cons (pe_bltn (v := .ty "ValueError") (by rfl) (fr_ValueError T) (by decide +kernel) rfl) pa_nil)))) (pw_and1 (pt_not (pt_val (pv 5)))))))) (pss_one (ps_expr (pe_bmK K PySem.F.plainAttrs_list PySem.F.slot_list_append PySem.F.type_list_append mt_append (pv 3) (pa_cons (pe_tup (pa_cons (pe_xfS a K (xf_BadRange T) (na_BadRange_start T) hz hf (pv 4)) (pa_cons (pe_xfS a K (xf_BadRange T) (na_BadRange_end T) hz hf (pv 4)) pa_nil))) pa_nil)))) pss_nil)))))
      (pss_one (ps_ret (pe_callN (okm_l_same (P := P) (w := w) (base := base) T 8) hr (pa_cons (pv 3) (pa_cons (pe_lst (pa_cons (pe_tup (pa_cons (pv 1) (pa_cons (pe_op op_add (pv 1) pe_int) pa_nil))) (pa_cons (pe_tup (pa_cons (pv 1) (pa_cons (pe_op op_add (pv 1) pe_int) pa_nil))) pa_nil))) pa_nil)))))))),
    Mi.body_of (K := K) (E := E) (m := 3) (k := 3) (N := ["_law_device", "_law_block", "_law_content", "_law_told", "e", "_law_others"]) rfl h (imp_seq (imp_asg (imp_lst imp_nil) impg_name) (imp_seq (imp_tryAs0 (cv := .ref (He.ga K "BadRange")) (cat_cons (exm_BadRange_BadRange T) cat_nil) (fun wx => (imp_drop (imp_methX imp_var (imp_cons imp_var imp_nil)))) (fun a dd l ec ef => (imp_drop (imp_bm mti_append imp_var (imp_cons (imp_tup (imp_cons (imp_errF imp_var) (imp_cons (imp_errF imp_var) imp_nil))) imp_nil))))) (imp_seq (imp_tryAs0 (cv := .ref (He.ga K "AccessError")) (cat_cons (exm_BadRange_AccessError T) cat_nil) (fun wx => (imp_drop (imp_methX imp_var (imp_cons imp_var (imp_cons imp_var imp_nil))))) (fun a dd l ec ef => (imp_seq (imp_asg (imp_isET (.cons (.own _) (.cons (.own _) (.cons (.own _) (.cons (.own _) (.cons (.own _) (.cons (.own _) (.cons (.own _) .nil))))))) (Nat.le_of_ble_eq_true rfl) (fun _ _ _ q => q) (kitAny_cons (kit_BadRange_Unmapped T) (fun _ => (kitAny_cons (kit_BadRange_Denied T) (fun _ => (kitAny_cons (kit_BadRange_BeyondFile T) (fun _ => (kitAny_cons (kit_BadRange_LimitError T) (fun _ => (kitAny_cons (kit_BadRange_MissingError T) (fun _ => (kitAny_cons (kit_BadRange_FileError T) (fun _ => (kitAny_cons (kit_BadRange_CodeError T) (fun _ => kitAny_nil) (fun z => nomatch z))) (fun z => nomatch z))) (fun z => nomatch z))) (fun z => nomatch z))) (fun z => nomatch z))) (fun z => nomatch z))) (fun z => nomatch z)) imp_var) impg_name) (imp_ifS (imp_and (imp_tB (imp_isE1 (.own _) (kit_BadRange_BadRange T) imp_var)) (imp_and (imp_tB (imp_isE1 (.own _) (kit_BadRange_PagesError T) imp_var)) (imp_and (imp_tB (imp_isE1 (.ty _) (kit_BadRange_ValueError T) imp_var)) (imp_not (imp_tB imp_var))))) (imp_drop (imp_bm mti_append imp_var (imp_cons (imp_tup (imp_cons (imp_errF imp_var) (imp_cons (imp_errF imp_var) imp_nil))) imp_nil))) imp_next)))) (imp_ret (imp_call (imp_cons imp_var (imp_cons (imp_lst (imp_cons (imp_tup (imp_cons imp_var (imp_cons (imp_op opi_add imp_var imp_int) imp_nil))) (imp_cons (imp_tup (imp_cons imp_var (imp_cons (imp_op opi_add imp_var imp_int) imp_nil))) imp_nil))) imp_nil)))))))⟩
theorem ok_l_device_refuses (T : TX K mg) : DefOk P w K mg base (11) "_law_device_refuses" ["_law_device", "_law_block", "_law_content"] [] (Mi.spF K f_l_device_refuses) := by
  obtain ⟨fd, F, h⟩ := fn_l_device_refuses (P := P) (w := w) (base := base) T
  exact DefOk.of F (gl_l_device_refuses T) (F.bindsN fun _ _ _ _ _ _ us hl => match us, hl with | [_, _, _], _ => rfl) h
theorem sc_l_device_call : FnScope ["_law_device", "_law_plain", "_law_kind", "_law_block", "_law_content", "_law_fates", "_law_pair", "_law_passed"] ["_law_device", "_law_plain", "_law_kind", "_law_block", "_law_content", "_law_fates"] (defScope s_l_device_call) := ⟨rfl, rfl, rfl, by decide +kernel, rfl, by decide +kernel, by decide +kernel⟩
noncomputable def f_l_device_call_t1 : Mi.Env → Mi.Sto → Mi.R Bool := (xAnd (xB (xOp (oI fun i j => .bl (decide (i < j))) (xVar 2) (xC (.int 8)))) (xOr (xB (xOp (oI fun i j => .bl (decide (i < j))) (xVar 3) (xC (.int 0)))) (xB (xOp (oI fun i j => .bl (decide (j ≤ i))) (xVar 3) (xDGet (xVar 1) (xC (.str "count")))))))
noncomputable def f_l_device_call_c1 : Mi.Env → Mi.Sto → Mi.R Mi.D := (xLc (iL (xDGet (xVar 1) (xC (.str "wait")))) (gNameX 6) xYes (xC (.int 1)) [6])
@[irreducible] noncomputable def f_l_device_call : List Mi.D → Mi.Sto → Mi.R Mi.D := Mi.defX 6 2 (xSeq (xIfS f_l_device_call_t1 (xRet (xCall f_l_device_refuses (xCons (xVar 0) (xCons (xVar 3) (xCons (xVar 4) xNil))))) xNext)
      (xSeq (xIfS (xB (xOp (oI fun i j => .bl (decide (i < j))) (xVar 2) (xC (.int 6)))) (xSeq (xDrop (xBM (mL gAppend) (xDGet (xVar 1) (xC (.str "wait"))) (xCons (xTup (xCons (xVar 3) (xCons (xVar 4) xNil))) xNil)))
      (xRet (xIsN (xMeth "Device" "write" f_Device_write (xVar 0) (xCons (xVar 3) (xCons (xVar 4) xNil)))))) xNext)
      (xSeq (xIfS (xB (xOp (oI fun i j => .bl (decide (i < j))) (xVar 2) (xC (.int 8)))) (xRet (xCall (fSame 8) (xCons (xMeth "Device" "read" f_Device_read (xVar 0) (xCons (xVar 3) xNil)) (xCons (xCall f_l_device_due (xCons (xVar 1) (xCons (xVar 3) xNil))) xNil)))) xNext)
      (xSeq (xIfS (xB (xOp (oI fun i j => .bl (decide (i < j))) (xVar 2) (xC (.int 10)))) (xSeq (xDrop (xCall f_l_device_failure (xCons (xVar 1) (xCons f_l_device_call_c1 xNil))))
      (xRet (xIsN (xMeth "Device" "barrier" f_Device_barrier (xVar 0) xNil)))) xNext)
      (xSeq (xAsg (xCB bList (xCons (xVar 5) xNil)) (gNameX 7))
      (xSeq (xDrop (xCall f_l_device_failure (xCons (xVar 1) (xCons (xVar 5) xNil))))
      (xRet (xAndV (xIsN (xMeth "Device" "crash" f_Device_crash (xVar 0) (xCons (xVar 7) xNil))) (xCall (fSame 8) (xCons (xVar 7) (xCons (xVar 5) xNil)))))))))))
theorem f_l_device_call_eq : f_l_device_call = Mi.defX 6 2 (xSeq (xIfS f_l_device_call_t1 (xRet (xCall f_l_device_refuses (xCons (xVar 0) (xCons (xVar 3) (xCons (xVar 4) xNil))))) xNext)
      (xSeq (xIfS (xB (xOp (oI fun i j => .bl (decide (i < j))) (xVar 2) (xC (.int 6)))) (xSeq (xDrop (xBM (mL gAppend) (xDGet (xVar 1) (xC (.str "wait"))) (xCons (xTup (xCons (xVar 3) (xCons (xVar 4) xNil))) xNil)))
      (xRet (xIsN (xMeth "Device" "write" f_Device_write (xVar 0) (xCons (xVar 3) (xCons (xVar 4) xNil)))))) xNext)
      (xSeq (xIfS (xB (xOp (oI fun i j => .bl (decide (i < j))) (xVar 2) (xC (.int 8)))) (xRet (xCall (fSame 8) (xCons (xMeth "Device" "read" f_Device_read (xVar 0) (xCons (xVar 3) xNil)) (xCons (xCall f_l_device_due (xCons (xVar 1) (xCons (xVar 3) xNil))) xNil)))) xNext)
      (xSeq (xIfS (xB (xOp (oI fun i j => .bl (decide (i < j))) (xVar 2) (xC (.int 10)))) (xSeq (xDrop (xCall f_l_device_failure (xCons (xVar 1) (xCons f_l_device_call_c1 xNil))))
      (xRet (xIsN (xMeth "Device" "barrier" f_Device_barrier (xVar 0) xNil)))) xNext)
      (xSeq (xAsg (xCB bList (xCons (xVar 5) xNil)) (gNameX 7))
      (xSeq (xDrop (xCall f_l_device_failure (xCons (xVar 1) (xCons (xVar 5) xNil))))
      (xRet (xAndV (xIsN (xMeth "Device" "crash" f_Device_crash (xVar 0) (xCons (xVar 7) xNil))) (xCall (fSame 8) (xCons (xVar 7) (xCons (xVar 5) xNil))))))))))) := by with_unfolding_all rfl
theorem fn_l_device_call (T : TX K mg) : ∃ fd, FunD K "_law_device_call" "_law_device_call" (defArgs s_l_device_call) (defBody s_l_device_call) (defScope s_l_device_call) [] [] (He.ga K "_law_device_call") fd ∧ FnOk P w K mg base CX0 (12) (He.ga K "_law_device_call") fd ["_law_device", "_law_plain", "_law_kind", "_law_block", "_law_content", "_law_fates"] (Mi.spF K f_l_device_call) := by
  rw [f_l_device_call_eq]
  obtain ⟨fd, F⟩ := fd_l_device_call T
  refine ⟨fd, F, My.FunD.ok0 F sc_l_device_call (Mi.spF_len rfl) (fun cdv A outer s0 H vs Q E hr h => ?_)⟩
  have hu := hu_of hr
  exact ⟨_, (pss_cons (ps_if (PW.pt (pw_and (pt_cmpR op_lt (pv 2) pe_int (nomark _)) (pw_and1 (PW.pt (pw_or (pt_cmpR op_lt (pv 3) pe_int (nomark _)) (pw_or1 (pt_cmpR op_ge (pv 3) (pe_dget hu (pv 1) pe_str (fun _ _ => rfl)) (nomark _)))))))) (pss_one (ps_ret (pe_callN (ok_l_device_refuses (P := P) (w := w) (base := base) T) hr (pa_cons (pv 0) (pa_cons (pv 3) (pa_cons (pv 4) pa_nil)))))) pss_nil)
      (pss_cons (ps_if (pt_cmpR op_lt (pv 2) pe_int (nomark _)) (pss_cons (ps_expr (pe_bm PySem.F.plainAttrs_list PySem.F.slot_list_append PySem.F.type_list_append mt_append (pe_dget hu (pv 1) pe_str (fun _ _ => rfl)) (pa_cons (pe_tup (pa_cons (pv 3) (pa_cons (pv 4) pa_nil))) pa_nil)))
      (pss_one (ps_ret (pe_cmp (pc_isN (pe_methNX (ok_Device_write (P := P) (w := w) (base := base) T) (pv 0) hr takes0 (pa_cons (pv 3) (pa_cons (pv 4) pa_nil)))) rfl)))) pss_nil)
      (pss_cons (ps_if (pt_cmpR op_lt (pv 2) pe_int (nomark _)) (pss_one (ps_ret (pe_callN (okm_l_same (P := P) (w := w) (base := base) T 8) hr (pa_cons (pe_methNX (ok_Device_read (P := P) (w := w) (base := base) T) (pv 0) hr takes0 (pa_cons (pv 3) pa_nil)) (pa_cons (pe_callN (ok_l_device_due (P := P) (w := w) (base := base) T) hr (pa_cons (pv 1) (pa_cons (pv 3) pa_nil))) pa_nil))))) pss_nil)
      (pss_cons (ps_if (pt_cmpR op_lt (pv 2) pe_int (nomark _)) (pss_cons (ps_expr (pe_callN (ok_l_device_failure (P := P) (w := w) (base := base) T) hr (pa_cons (pv 1) (pa_cons (pe_lc (own := [("_law_pair", 6)]) rfl sc_l_device_call.nd (pi_list (pe_dget hu (pv 1) pe_str (fun _ _ => rfl))) (blkOk_by (own := [("_law_pair", 6)]) (N := ["_law_device", "_law_plain", "_law_kind", "_law_block", "_law_content", "_law_fates", "_law_pair", "_law_passed"]) (sc := defScope s_l_device_call) (by decide +kernel)) (fun _ _ _ _ _ => (pg_name (i := 6) sc_l_device_call.nd rfl (Or.inl rfl))) (fun _ _ _ _ _ => pts_nil) (fun _ _ _ _ _ => pe_int)) pa_nil))))
      (pss_one (ps_ret (pe_cmp (pc_isN (pe_methN0 (ok_Device_barrier (P := P) (w := w) (base := base) T) (pv 0) hr)) rfl)))) pss_nil)
      (pss_cons (ps_set (i := 7) sc_l_device_call.nd rfl (Or.inl rfl) (pe_callTy (listQ K) (by rfl) (fr_list T) (by decide +kernel) (pa_cons (pv 5) pa_nil)))
      (pss_cons (ps_expr (pe_callN (ok_l_device_failure (P := P) (w := w) (base := base) T) hr (pa_cons (pv 1) (pa_cons (pv 5) pa_nil))))
      (pss_one (ps_ret (pe_and (pe_cmp (pc_isN (pe_methN (ok_Device_crash (P := P) (w := w) (base := base) T) (pv 0) hr (pa_cons (pv 7) pa_nil))) rfl) (pe_one (pe_callN (okm_l_same (P := P) (w := w) (base := base) T 8) hr (pa_cons (pv 7) (pa_cons (pv 5) pa_nil))))))))))))),
    Mi.body_of (K := K) (E := E) (m := 6) (k := 2) (N := ["_law_device", "_law_plain", "_law_kind", "_law_block", "_law_content", "_law_fates", "_law_pair", "_law_passed"]) rfl h (imp_seq (imp_ifS (imp_and (imp_test (imp_op opi_lt imp_var imp_int)) (imp_or (imp_test (imp_op opi_lt imp_var imp_int)) (imp_test (imp_op opi_ge imp_var (imp_dget imp_var imp_str))))) (imp_ret (imp_call (imp_cons imp_var (imp_cons imp_var (imp_cons imp_var imp_nil))))) imp_next) (imp_seq (imp_ifS (imp_test (imp_op opi_lt imp_var imp_int)) (imp_seq (imp_drop (imp_bm mti_append (imp_dget imp_var imp_str) (imp_cons (imp_tup (imp_cons imp_var (imp_cons imp_var imp_nil))) imp_nil))) (imp_ret (imp_isN (imp_methX0 imp_var (imp_cons imp_var (imp_cons imp_var imp_nil)))))) imp_next) (imp_seq (imp_ifS (imp_test (imp_op opi_lt imp_var imp_int)) (imp_ret (imp_call (imp_cons (imp_methX0 imp_var (imp_cons imp_var imp_nil)) (imp_cons (imp_call (imp_cons imp_var (imp_cons imp_var imp_nil))) imp_nil)))) imp_next) (imp_seq (imp_ifS (imp_test (imp_op opi_lt imp_var imp_int)) (imp_seq (imp_drop (imp_call (imp_cons imp_var (imp_cons (imp_lc (imp_iL (imp_dget imp_var imp_str)) (impg_name) imp_yes imp_int (by decide)) imp_nil)))) (imp_ret (imp_isN (imp_meth imp_var imp_nil)))) imp_next) (imp_seq (imp_asg (imp_cb cbi_list (imp_cons imp_var imp_nil)) impg_name) (imp_seq (imp_drop (imp_call (imp_cons imp_var (imp_cons imp_var imp_nil)))) (imp_ret (imp_andV (imp_isN (imp_meth imp_var (imp_cons imp_var imp_nil))) (imp_call (imp_cons imp_var (imp_cons imp_var imp_nil)))))))))))⟩
theorem ok_l_device_call (T : TX K mg) : DefOk P w K mg base (12) "_law_device_call" ["_law_device", "_law_plain", "_law_kind", "_law_block", "_law_content", "_law_fates"] [] (Mi.spF K f_l_device_call) := by
  obtain ⟨fd, F, h⟩ := fn_l_device_call (P := P) (w := w) (base := base) T
  exact DefOk.of F (gl_l_device_call T) (F.bindsN fun _ _ _ _ _ _ us hl => match us, hl with | [_, _, _, _, _, _], _ => rfl) h
theorem sc_law : FnScope ["_law_script", "_law_counts", "_law_devices", "_law_plains", "_law_k", "_law_ends", "_law_at", "_law_who", "_law_count", "_law_number_here", "_law_block", "_law_content", "_law_fates"] ["_law_script"] (defScope s_law) := ⟨rfl, rfl, rfl, by decide +kernel, rfl, by decide +kernel, by decide +kernel⟩
noncomputable def f_law_c1 : Mi.Env → Mi.Sto → Mi.R Mi.D := (xLc (iR1 (xCons (xC (.int 2)) xNil)) (gNameX 4) xYes (xDisp (xPCons (xC (.str "count")) (xOp oIxL (xVar 1) (xVar 4)) (xPCons (xC (.str "kept")) xDNew (xPCons (xC (.str "wait")) (xLst xNil) xPNil)))) [4])
noncomputable def f_law_t1 : Mi.Env → Mi.Sto → Mi.R Bool := (xAnd (xB (xOp (oI fun i j => .bl (decide (j < i))) (xOp (oIC (fun _ j => 0 < j) fun i j => .int (i % j)) (xCB bInt (xCons (xVar 9) xNil)) (xC (.int 9))) (xC (.int 0)))) (xB (xOp (oI fun i j => .bl (decide (i < j))) (xOp (oIC (fun _ j => 0 < j) fun i j => .int (i % j)) (xCB bInt (xCons (xVar 9) xNil)) (xC (.int 9))) (xC (.int 5)))))
noncomputable def f_law_b1 : Mi.Env → Mi.Sto → Mi.RS := (xSeq (xAsg (xCall fNumber (xCons (xVar 0) (xCons (xVar 6) (xCons (xC (.int 15)) (xCons (xC (.int 2)) xNil))))) (gNameX 7))
      (xSeq (xAsg (xOp oIxL (xVar 1) (xVar 7)) (gNameX 8))
      (xSeq (xAsg (xCall fNumber (xCons (xVar 0) (xCons (xVar 6) (xCons (xC (.int 3)) (xCons (xC (.int 1000)) xNil))))) (gNameX 9))
      (xSeq (xAsg (xOp (oIC (fun _ j => 0 < j) fun i j => .int (i % j)) (xCB bInt (xCons (xOp (oI fun i j => .int (i + j)) (xOp (oIC CMul fun i j => .int (i * j)) (xOp (oIC CDiv fun i j => .int (i / j)) (xVar 9) (xC (.int 9))) (xC (.int 7))) (xVar 6)) xNil)) (xVar 8)) (gNameX 10))
      (xSeq (xIfS (xB (xOp oEqS (xOp (oIC (fun _ j => 0 < j) fun i j => .int (i % j)) (xCB bInt (xCons (xVar 9) xNil)) (xC (.int 9))) (xC (.int 0)))) (xAsg (xOp oIxL (xLst (xCons (xUn oNeg (xC (.int 1))) (xCons (xVar 8) (xCons (xOp (oI fun i j => .int (i + j)) (xVar 8) (xC (.int 1))) (xCons (xOp (oI fun i j => .int (i - j)) (xC (.int 0)) (xVar 8)) (xCons (xOp (oI fun i j => .int (i + j)) (xVar 8) (xC (.int 1000))) xNil)))))) (xOp (oIC (fun _ j => 0 < j) fun i j => .int (i % j)) (xCB bInt (xCons (xOp (oIC CDiv fun i j => .int (i / j)) (xVar 9) (xC (.int 9))) xNil)) (xC (.int 5)))) (gNameX 10)) xNext)
      (xSeq (xIfS f_law_t1 (xAsg (xOp (oIC (fun _ j => 0 < j) fun i j => .int (i % j)) (xCB bInt (xCons (xOp (oIC CDiv fun i j => .int (i / j)) (xVar 9) (xC (.int 9))) xNil)) (xCB (bInt2 fun i j => .int (if j < i then j else i)) (xCons (xC (.int 3)) (xCons (xVar 8) xNil)))) (gNameX 10)) xNext)
      (xSeq (xAsg (xCall f_l_device_content (xCons (xCall fNumber (xCons (xVar 0) (xCons (xVar 6) (xCons (xC (.int 1)) (xCons (xC (.int 1000)) xNil))))) (xCons (xCall fNumber (xCons (xVar 0) (xCons (xVar 6) (xCons (xC (.int 2)) (xCons (xC (.int 1000)) xNil))))) xNil))) (gNameX 11))
      (xSeq (xAsg (xCall f_l_device_fates (xCons (xCall fNumber (xCons (xVar 0) (xCons (xVar 6) (xCons (xC (.int 6)) (xCons (xC (.int 1000)) xNil))))) (xCons (xCB bLen (xCons (xDGet (xOp oIxL (xVar 3) (xVar 7)) (xC (.str "wait"))) xNil)) xNil))) (gNameX 12))
      (xSeq (xIfS (xNot (xB (xCall f_l_device_call (xCons (xOp oIxL (xVar 2) (xVar 7)) (xCons (xOp oIxL (xVar 3) (xVar 7)) (xCons (xCall fNumber (xCons (xVar 0) (xCons (xVar 6) (xCons (xC (.int 0)) (xCons (xC (.int 12)) xNil))))) (xCons (xVar 10) (xCons (xVar 11) (xCons (xVar 12) xNil))))))))) (xRet (xC (.bl false))) xNext)
      (xIfS (xNot (xB (xCall f_l_device_holds (xCons (xOp oIxL (xVar 2) (xVar 7)) (xCons (xOp oIxL (xVar 3) (xVar 7)) xNil))))) (xRet (xC (.bl false))) xNext))))))))))
noncomputable def f_law_l1 : Mi.Env → Mi.Sto → Mi.RS := (xFor (iR2 (xCons (xC (.int 1)) (xCons (xOp (oI fun i j => .int (i + j)) (xVar 5) (xC (.int 1))) xNil))) (gNameX 6) f_law_b1)
noncomputable def f_law_b2 : Mi.Env → Mi.Sto → Mi.RS := (xSeq (xAsg (xCall f_l_device_fates (xCons (xCall fNumber (xCons (xVar 0) (xCons (xOp (oI fun i j => .int (i + j)) (xOp (oI fun i j => .int (i + j)) (xVar 5) (xC (.int 1))) (xVar 7)) (xCons (xC (.int 6)) (xCons (xC (.int 1000)) xNil))))) (xCons (xCB bLen (xCons (xDGet (xOp oIxL (xVar 3) (xVar 7)) (xC (.str "wait"))) xNil)) xNil))) (gNameX 12))
      (xSeq (xIfS (xNot (xB (xCall f_l_device_holds (xCons (xOp oIxL (xVar 2) (xOp (oI fun i j => .int (i - j)) (xC (.int 1)) (xVar 7))) (xCons (xOp oIxL (xVar 3) (xOp (oI fun i j => .int (i - j)) (xC (.int 1)) (xVar 7))) xNil))))) (xRet (xC (.bl false))) xNext)
      (xIfS (xNot (xB (xCall f_l_device_call (xCons (xOp oIxL (xVar 2) (xVar 7)) (xCons (xOp oIxL (xVar 3) (xVar 7)) (xCons (xC (.int 11)) (xCons (xC (.int 0)) (xCons (xTup xNil) (xCons (xVar 12) xNil))))))))) (xRet (xC (.bl false))) xNext)))
noncomputable def f_law_l2 : Mi.Env → Mi.Sto → Mi.RS := (xFor (iR1 (xCons (xC (.int 2)) xNil)) (gNameX 7) f_law_b2)
@[irreducible] noncomputable def f_law : List Mi.D → Mi.Sto → Mi.R Mi.D := Mi.defX 1 12 (xSeq (xAsg (xLst (xCons (xOp (oI fun i j => .int (i + j)) (xC (.int 2)) (xCall fNumber (xCons (xVar 0) (xCons (xC (.int 0)) (xCons (xC (.int 0)) (xCons (xC (.int 8)) xNil)))))) (xCons (xOp oIxL (xLst (xCons (xC (.int 2)) (xCons (xC (.int 3)) (xCons (xC (.int 5)) (xCons (xC (.int 9)) (xCons (xC (.int 600)) (xCons (xC (.int 7)) (xCons (xC (.int 4)) (xCons (xC (.int 600)) xNil))))))))) (xCall fNumber (xCons (xVar 0) (xCons (xC (.int 0)) (xCons (xC (.int 1)) (xCons (xC (.int 8)) xNil)))))) xNil))) (gNameX 1))
      (xSeq (xAsg (xLst (xCons (xMake "Device" f_Device___init__ (xCons (xOp oIxL (xVar 1) (xC (.int 0))) xNil)) (xCons (xMake "Device" f_Device___init__ (xCons (xOp oIxL (xVar 1) (xC (.int 1))) xNil)) xNil))) (gNameX 2))
      (xSeq (xAsg f_law_c1 (gNameX 3))
      (xSeq (xAsg (xOp (oI fun i j => .int (i + j)) (xC (.int 1)) (xCall fNumber (xCons (xVar 0) (xCons (xC (.int 0)) (xCons (xC (.int 5)) (xCons (xC (.int 42)) xNil)))))) (gNameX 5))
      (xSeq f_law_l1
      (xSeq f_law_l2
      (xRet (xAndV (xCall f_l_device_holds (xCons (xOp oIxL (xVar 2) (xC (.int 0))) (xCons (xOp oIxL (xVar 3) (xC (.int 0))) xNil))) (xCall f_l_device_holds (xCons (xOp oIxL (xVar 2) (xC (.int 1))) (xCons (xOp oIxL (xVar 3) (xC (.int 1))) xNil)))))))))))
theorem f_law_eq : f_law = Mi.defX 1 12 (xSeq (xAsg (xLst (xCons (xOp (oI fun i j => .int (i + j)) (xC (.int 2)) (xCall fNumber (xCons (xVar 0) (xCons (xC (.int 0)) (xCons (xC (.int 0)) (xCons (xC (.int 8)) xNil)))))) (xCons (xOp oIxL (xLst (xCons (xC (.int 2)) (xCons (xC (.int 3)) (xCons (xC (.int 5)) (xCons (xC (.int 9)) (xCons (xC (.int 600)) (xCons (xC (.int 7)) (xCons (xC (.int 4)) (xCons (xC (.int 600)) xNil))))))))) (xCall fNumber (xCons (xVar 0) (xCons (xC (.int 0)) (xCons (xC (.int 1)) (xCons (xC (.int 8)) xNil)))))) xNil))) (gNameX 1))
      (xSeq (xAsg (xLst (xCons (xMake "Device" f_Device___init__ (xCons (xOp oIxL (xVar 1) (xC (.int 0))) xNil)) (xCons (xMake "Device" f_Device___init__ (xCons (xOp oIxL (xVar 1) (xC (.int 1))) xNil)) xNil))) (gNameX 2))
      (xSeq (xAsg f_law_c1 (gNameX 3))
      (xSeq (xAsg (xOp (oI fun i j => .int (i + j)) (xC (.int 1)) (xCall fNumber (xCons (xVar 0) (xCons (xC (.int 0)) (xCons (xC (.int 5)) (xCons (xC (.int 42)) xNil)))))) (gNameX 5))
      (xSeq f_law_l1
      (xSeq f_law_l2
      (xRet (xAndV (xCall f_l_device_holds (xCons (xOp oIxL (xVar 2) (xC (.int 0))) (xCons (xOp oIxL (xVar 3) (xC (.int 0))) xNil))) (xCall f_l_device_holds (xCons (xOp oIxL (xVar 2) (xC (.int 1))) (xCons (xOp oIxL (xVar 3) (xC (.int 1))) xNil))))))))))) := by with_unfolding_all rfl
theorem fn_law (T : TX K mg) : ∃ fd, FunD K "law" "law" (defArgs s_law) (defBody s_law) (defScope s_law) [] [] (He.ga K "law") fd ∧ FnOk P w K mg base CX0 (13) (He.ga K "law") fd ["_law_script"] (Mi.spF K f_law) := by
  rw [f_law_eq]
  obtain ⟨fd, F⟩ := fd_law T
  refine ⟨fd, F, My.FunD.ok0 F sc_law (Mi.spF_len rfl) (fun cdv A outer s0 H vs Q E hr h => ?_)⟩
  have hu := hu_of hr
  exact ⟨_, (pss_cons (ps_set (i := 1) sc_law.nd rfl (Or.inr rfl) (pe_lst (pa_cons (pe_op op_add pe_int (pe_callN (okm_l_number (P := P) (w := w) (base := base) T) hr (pa_cons (pv 0) (pa_cons pe_int (pa_cons pe_int (pa_cons pe_int pa_nil)))))) (pa_cons (pe_ix (ixL K) (pe_lst (pa_cons pe_int (pa_cons pe_int (pa_cons pe_int (pa_cons pe_int (pa_cons pe_int (pa_cons pe_int (pa_cons pe_int (pa_cons pe_int pa_nil))))))))) (pe_callN (okm_l_number (P := P) (w := w) (base := base) T) hr (pa_cons (pv 0) (pa_cons pe_int (pa_cons pe_int (pa_cons pe_int pa_nil))))) (fun _ _ => rfl)) pa_nil))))
      (pss_cons (ps_set (i := 2) sc_law.nd rfl (Or.inl rfl) (pe_lst (pa_cons (pe_makeN (mk_Device (P := P) (w := w) (base := base) T) hr (pa_cons (pe_ix (ixL K) (pv 1) pe_int (fun _ _ => rfl)) pa_nil)) (pa_cons (pe_makeN (mk_Device (P := P) (w := w) (base := base) T) hr (pa_cons (pe_ix (ixL K) (pv 1) pe_int (fun _ _ => rfl)) pa_nil)) pa_nil))))
      (pss_cons (ps_setLc (i := 3) (own := [("_law_k", 4)]) rfl sc_law.nd rfl rfl (sw_true rfl rfl rfl (by decide +kernel)) (pi_range1 rfl (fr_range T) (pa_cons pe_int pa_nil)) (blkOk_by (own := [("_law_k", 4)]) (N := ["_law_script", "_law_counts", "_law_devices", "_law_plains", "_law_k", "_law_ends", "_law_at", "_law_who", "_law_count", "_law_number_here", "_law_block", "_law_content", "_law_fates"]) (sc := defScope s_law) (by decide +kernel)) (fun _ _ _ _ _ => (pg_name (i := 4) sc_law.nd rfl (Or.inl rfl))) (fun _ _ _ _ _ => pts_nil) (fun _ _ _ _ _ => (pe_disp (pps_cons pe_str (pe_ix (ixL K) (pv 1) (pv 4) (fun _ _ => rfl)) (pps_cons pe_str pe_dnewK (pps_cons pe_str (pe_lst pa_nil) pps_nil))) (by rfl) (by rfl) (fun z => by cases z) (by decide))))
      (pss_cons (ps_set (i := 5) sc_law.nd rfl (Or.inl rfl) (pe_op op_add pe_int (pe_callN (okm_l_number (P := P) (w := w) (base := base) T) hr (pa_cons (pv 0) (pa_cons pe_int (pa_cons pe_int (pa_cons pe_int pa_nil)))))))
      (pss_cons (ps_for PassesOwn.never rfl (pi_range2 rfl (fr_range T) (pa_cons pe_int (pa_cons (pe_op op_add (pv 5) pe_int) pa_nil))) (pg_name (i := 6) sc_law.nd rfl (Or.inl rfl)) (pss_cons (ps_set (i := 7) sc_law.nd rfl (Or.inl rfl) (pe_callN (okm_l_number (P := P) (w := w) (base := base) T) hr (pa_cons (pv 0) (pa_cons (pv 6) (pa_cons pe_int (pa_cons pe_int pa_nil))))))
      (pss_cons (ps_set (i := 8) sc_law.nd rfl (Or.inl rfl) (pe_ix (ixL K) (pv 1) (pv 7) (fun _ _ => rfl)))
      (pss_cons (ps_set (i := 9) sc_law.nd rfl (Or.inl rfl) (pe_callN (okm_l_number (P := P) (w := w) (base := base) T) hr (pa_cons (pv 0) (pa_cons (pv 6) (pa_cons pe_int (pa_cons pe_int pa_nil))))))
      (pss_cons (ps_set (i := 10) sc_law.nd rfl (Or.inl rfl) (pe_op op_mod (pe_callTy call_int1 (by rfl) (fr_int T) (by decide +kernel) (pa_cons (pe_op op_add (pe_op op_mul (pe_op op_fdiv (pv 9) pe_int) pe_int) (pv 6)) pa_nil)) (pv 8)))
      (pss_cons (ps_if (pt_cmpR op_eq (pe_op op_mod (pe_callTy call_int1 (by rfl) (fr_int T) (by decide +kernel) (pa_cons (pv 9) pa_nil)) pe_int) pe_int (nomark _)) (pss_one (ps_set (i := 10) sc_law.nd rfl (Or.inl rfl) (pe_ix (ixL K) (pe_lst (pa_cons (pe_un un_neg pe_int) (pa_cons (pv 8) (pa_cons (pe_op op_add (pv 8) pe_int) (pa_cons (pe_op op_sub pe_int (pv 8)) (pa_cons (pe_op op_add (pv 8) pe_int) pa_nil)))))) (pe_op op_mod (pe_callTy call_int1 (by rfl) (fr_int T) (by decide +kernel) (pa_cons (pe_op op_fdiv (pv 9) pe_int) pa_nil)) pe_int) (fun _ _ => rfl)))) pss_nil)
      (pss_cons (ps_if (PW.pt (pw_and (pt_cmpR op_gt (pe_op op_mod (pe_callTy call_int1 (by rfl) (fr_int T) (by decide +kernel) (pa_cons (pv 9) pa_nil)) pe_int) pe_int (nomark _)) (pw_and1 (pt_cmpR op_lt (pe_op op_mod (pe_callTy call_int1 (by rfl) (fr_int T) (by decide +kernel) (pa_cons (pv 9) pa_nil)) pe_int) pe_int (nomark _))))) (pss_one (ps_set (i := 10) sc_law.nd rfl (Or.inl rfl) (pe_op op_mod (pe_callTy call_int1 (by rfl) (fr_int T) (by decide +kernel) (pa_cons (pe_op op_fdiv (pv 9) pe_int) pa_nil)) (pe_callB (call_min2 rfl) (by rfl) (fr_min T) (by decide +kernel) (pa_cons pe_int (pa_cons (pv 8) pa_nil)))))) pss_nil)
      (pss_cons (ps_set (i := 11) sc_law.nd rfl (Or.inl rfl) (pe_callN (ok_l_device_content (P := P) (w := w) (base := base) T) hr (pa_cons (pe_callN (okm_l_number (P := P) (w := w) (base := base) T) hr (pa_cons (pv 0) (pa_cons (pv 6) (pa_cons pe_int (pa_cons pe_int pa_nil))))) (pa_cons (pe_callN (okm_l_number (P := P) (w := w) (base := base) T) hr (pa_cons (pv 0) (pa_cons (pv 6) (pa_cons pe_int (pa_cons pe_int pa_nil))))) pa_nil))))
      (pss_cons (ps_set (i := 12) sc_law.nd rfl (Or.inl rfl) (pe_callN (ok_l_device_fates (P := P) (w := w) (base := base) T) hr (pa_cons (pe_callN (okm_l_number (P := P) (w := w) (base := base) T) hr (pa_cons (pv 0) (pa_cons (pv 6) (pa_cons pe_int (pa_cons pe_int pa_nil))))) (pa_cons (pe_callB (lenQ K) (by rfl) (fr_len T) PySem.boot_len (pa_cons (pe_dget hu (pe_ix (ixL K) (pv 3) (pv 7) (fun _ _ => rfl)) pe_str (fun _ _ => rfl)) pa_nil)) pa_nil))))
      (pss_cons (ps_if (pt_not (pt_val (pe_callN (ok_l_device_call (P := P) (w := w) (base := base) T) hr (pa_cons (pe_ix (ixL K) (pv 2) (pv 7) (fun _ _ => rfl)) (pa_cons (pe_ix (ixL K) (pv 3) (pv 7) (fun _ _ => rfl)) (pa_cons (pe_callN (okm_l_number (P := P) (w := w) (base := base) T) hr (pa_cons (pv 0) (pa_cons (pv 6) (pa_cons pe_int (pa_cons pe_int pa_nil))))) (pa_cons (pv 10) (pa_cons (pv 11) (pa_cons (pv 12) pa_nil))))))))) (pss_one (ps_ret pe_bl)) pss_nil)
      (pss_one (ps_if (pt_not (pt_val (pe_callN (ok_l_device_holds (P := P) (w := w) (base := base) T) hr (pa_cons (pe_ix (ixL K) (pv 2) (pv 7) (fun _ _ => rfl)) (pa_cons (pe_ix (ixL K) (pv 3) (pv 7) (fun _ _ => rfl)) pa_nil))))) (pss_one (ps_ret pe_bl)) pss_nil))))))))))))
      (pss_cons (ps_for PassesOwn.never rfl (pi_range1 rfl (fr_range T) (pa_cons pe_int pa_nil)) (pg_name (i := 7) sc_law.nd rfl (Or.inl rfl)) (pss_cons (ps_set (i := 12) sc_law.nd rfl (Or.inl rfl) (pe_callN (ok_l_device_fates (P := P) (w := w) (base := base) T) hr (pa_cons (pe_callN (okm_l_number (P := P) (w := w) (base := base) T) hr (pa_cons (pv 0) (pa_cons (pe_op op_add (pe_op op_add (pv 5) pe_int) (pv 7)) (pa_cons pe_int (pa_cons pe_int pa_nil))))) (pa_cons (pe_callB (lenQ K) (by rfl) (fr_len T) PySem.boot_len (pa_cons (pe_dget hu (pe_ix (ixL K) (pv 3) (pv 7) (fun _ _ => rfl)) pe_str (fun _ _ => rfl)) pa_nil)) pa_nil))))
      (pss_cons (ps_if (pt_not (pt_val (pe_callN (ok_l_device_holds (P := P) (w := w) (base := base) T) hr (pa_cons (pe_ix (ixL K) (pv 2) (pe_op op_sub pe_int (pv 7)) (fun _ _ => rfl)) (pa_cons (pe_ix (ixL K) (pv 3) (pe_op op_sub pe_int (pv 7)) (fun _ _ => rfl)) pa_nil))))) (pss_one (ps_ret pe_bl)) pss_nil)
      (pss_one (ps_if (pt_not (pt_val (pe_callN (ok_l_device_call (P := P) (w := w) (base := base) T) hr (pa_cons (pe_ix (ixL K) (pv 2) (pv 7) (fun _ _ => rfl)) (pa_cons (pe_ix (ixL K) (pv 3) (pv 7) (fun _ _ => rfl)) (pa_cons pe_int (pa_cons pe_int (pa_cons (pe_tup pa_nil) (pa_cons (pv 12) pa_nil))))))))) (pss_one (ps_ret pe_bl)) pss_nil)))))
      (pss_one (ps_ret (pe_and (pe_callN (ok_l_device_holds (P := P) (w := w) (base := base) T) hr (pa_cons (pe_ix (ixL K) (pv 2) pe_int (fun _ _ => rfl)) (pa_cons (pe_ix (ixL K) (pv 3) pe_int (fun _ _ => rfl)) pa_nil))) (pe_one (pe_callN (ok_l_device_holds (P := P) (w := w) (base := base) T) hr (pa_cons (pe_ix (ixL K) (pv 2) pe_int (fun _ _ => rfl)) (pa_cons (pe_ix (ixL K) (pv 3) pe_int (fun _ _ => rfl)) pa_nil))))))))))))),
    Mi.body_of (K := K) (E := E) (m := 1) (k := 12) (N := ["_law_script", "_law_counts", "_law_devices", "_law_plains", "_law_k", "_law_ends", "_law_at", "_law_who", "_law_count", "_law_number_here", "_law_block", "_law_content", "_law_fates"]) rfl h (imp_seq (imp_asg (imp_lst (imp_cons (imp_op opi_add imp_int (imp_call (imp_cons imp_var (imp_cons imp_int (imp_cons imp_int (imp_cons imp_int imp_nil)))))) (imp_cons (imp_op opi_ixL (imp_lst (imp_cons imp_int (imp_cons imp_int (imp_cons imp_int (imp_cons imp_int (imp_cons imp_int (imp_cons imp_int (imp_cons imp_int (imp_cons imp_int imp_nil))))))))) (imp_call (imp_cons imp_var (imp_cons imp_int (imp_cons imp_int (imp_cons imp_int imp_nil)))))) imp_nil))) impg_name) (imp_seq (imp_asg (imp_lst (imp_cons (imp_make (imp_cons (imp_op opi_ixL imp_var imp_int) imp_nil)) (imp_cons (imp_make (imp_cons (imp_op opi_ixL imp_var imp_int) imp_nil)) imp_nil))) impg_name) (imp_seq (imp_asg (imp_lc (imp_iR1 (imp_cons imp_int imp_nil)) (impg_name) imp_yes (imp_disp (impp_cons imp_str (imp_op opi_ixL imp_var imp_var) (impp_cons imp_str imp_dnew (impp_cons imp_str (imp_lst imp_nil) impp_nil)))) (by decide)) impg_name) (imp_seq (imp_asg (imp_op opi_add imp_int (imp_call (imp_cons imp_var (imp_cons imp_int (imp_cons imp_int (imp_cons imp_int imp_nil)))))) impg_name) (imp_seq (imp_for (imp_iR2 (imp_cons imp_int (imp_cons (imp_op opi_add imp_var imp_int) imp_nil))) (impg_name) (imp_seq (imp_asg (imp_call (imp_cons imp_var (imp_cons imp_var (imp_cons imp_int (imp_cons imp_int imp_nil))))) impg_name) (imp_seq (imp_asg (imp_op opi_ixL imp_var imp_var) impg_name) (imp_seq (imp_asg (imp_call (imp_cons imp_var (imp_cons imp_var (imp_cons imp_int (imp_cons imp_int imp_nil))))) impg_name) (imp_seq (imp_asg (imp_op opi_mod (imp_cb cbi_int (imp_cons (imp_op opi_add (imp_op opi_mul (imp_op opi_fdiv imp_var imp_int) imp_int) imp_var) imp_nil)) imp_var) impg_name) (imp_seq (imp_ifS (imp_test (imp_op opi_eqS (imp_op opi_mod (imp_cb cbi_int (imp_cons imp_var imp_nil)) imp_int) imp_int)) (imp_asg (imp_op opi_ixL (imp_lst (imp_cons (imp_un uni_neg imp_int) (imp_cons imp_var (imp_cons (imp_op opi_add imp_var imp_int) (imp_cons (imp_op opi_sub imp_int imp_var) (imp_cons (imp_op opi_add imp_var imp_int) imp_nil)))))) (imp_op opi_mod (imp_cb cbi_int (imp_cons (imp_op opi_fdiv imp_var imp_int) imp_nil)) imp_int)) impg_name) imp_next) (imp_seq (imp_ifS (imp_and (imp_test (imp_op opi_gt (imp_op opi_mod (imp_cb cbi_int (imp_cons imp_var imp_nil)) imp_int) imp_int)) (imp_test (imp_op opi_lt (imp_op opi_mod (imp_cb cbi_int (imp_cons imp_var imp_nil)) imp_int) imp_int))) (imp_asg (imp_op opi_mod (imp_cb cbi_int (imp_cons (imp_op opi_fdiv imp_var imp_int) imp_nil)) (imp_cb cbi_min2 (imp_cons imp_int (imp_cons imp_var imp_nil)))) impg_name) imp_next) (imp_seq (imp_asg (imp_call (imp_cons (imp_call (imp_cons imp_var (imp_cons imp_var (imp_cons imp_int (imp_cons imp_int imp_nil))))) (imp_cons (imp_call (imp_cons imp_var (imp_cons imp_var (imp_cons imp_int (imp_cons imp_int imp_nil))))) imp_nil))) impg_name) (imp_seq (imp_asg (imp_call (imp_cons (imp_call (imp_cons imp_var (imp_cons imp_var (imp_cons imp_int (imp_cons imp_int imp_nil))))) (imp_cons (imp_cb cbi_len (imp_cons (imp_dget (imp_op opi_ixL imp_var imp_var) imp_str) imp_nil)) imp_nil))) impg_name) (imp_seq (imp_ifS (imp_not (imp_tB (imp_call (imp_cons (imp_op opi_ixL imp_var imp_var) (imp_cons (imp_op opi_ixL imp_var imp_var) (imp_cons (imp_call (imp_cons imp_var (imp_cons imp_var (imp_cons imp_int (imp_cons imp_int imp_nil))))) (imp_cons imp_var (imp_cons imp_var (imp_cons imp_var imp_nil))))))))) (imp_ret imp_bl) imp_next) (imp_ifS (imp_not (imp_tB (imp_call (imp_cons (imp_op opi_ixL imp_var imp_var) (imp_cons (imp_op opi_ixL imp_var imp_var) imp_nil))))) (imp_ret imp_bl) imp_next))))))))))) (imp_seq (imp_for (imp_iR1 (imp_cons imp_int imp_nil)) (impg_name) (imp_seq (imp_asg (imp_call (imp_cons (imp_call (imp_cons imp_var (imp_cons (imp_op opi_add (imp_op opi_add imp_var imp_int) imp_var) (imp_cons imp_int (imp_cons imp_int imp_nil))))) (imp_cons (imp_cb cbi_len (imp_cons (imp_dget (imp_op opi_ixL imp_var imp_var) imp_str) imp_nil)) imp_nil))) impg_name) (imp_seq (imp_ifS (imp_not (imp_tB (imp_call (imp_cons (imp_op opi_ixL imp_var (imp_op opi_sub imp_int imp_var)) (imp_cons (imp_op opi_ixL imp_var (imp_op opi_sub imp_int imp_var)) imp_nil))))) (imp_ret imp_bl) imp_next) (imp_ifS (imp_not (imp_tB (imp_call (imp_cons (imp_op opi_ixL imp_var imp_var) (imp_cons (imp_op opi_ixL imp_var imp_var) (imp_cons imp_int (imp_cons imp_int (imp_cons (imp_tup imp_nil) (imp_cons imp_var imp_nil))))))))) (imp_ret imp_bl) imp_next)))) (imp_ret (imp_andV (imp_call (imp_cons (imp_op opi_ixL imp_var imp_int) (imp_cons (imp_op opi_ixL imp_var imp_int) imp_nil))) (imp_call (imp_cons (imp_op opi_ixL imp_var imp_int) (imp_cons (imp_op opi_ixL imp_var imp_int) imp_nil)))))))))))⟩
theorem ok_law (T : TX K mg) : DefOk P w K mg base (13) "law" ["_law_script"] [] (Mi.spF K f_law) := by
  obtain ⟨fd, F, h⟩ := fn_law (P := P) (w := w) (base := base) T
  exact DefOk.of F (gl_law T) (F.bindsN fun _ _ _ _ _ _ us hl => match us, hl with | [_], _ => rfl) h
end

section
open Mi
/-! ### plain law: writes and what is due -/
/-- data without places -/
def Good (c : D) : Prop := ∃ p, (∀ S, DD S c p) ∧ Dn 6 p
abbrev Wr := List (Int × D)
def prD : Int × D → D := fun x => .tup [.int x.1, x.2]
def lat (perm : List D) (xs : Wr) : List D := xs.foldl (fun l x => l.set x.1.toNat x.2) perm
def dueW (b : Int) (c : D) (xs : Wr) : D := xs.foldl (fun f x => if x.1 = b then x.2 else f) c
theorem lat_len : ∀ {xs : Wr} {perm : List D}, (lat perm xs).length = perm.length
  | [], _ => rfl
  | x :: r, perm => by
    show (lat (perm.set x.1.toNat x.2) r).length = _
    rw [lat_len, List.length_set]
theorem lat_app {perm : List D} {xs : Wr} {b : Int} {c : D} : lat perm (xs ++ [(b, c)]) = (lat perm xs).set b.toNat c := by simp [lat, List.foldl_append]
theorem lat_at {b : Int} (h0 : 0 ≤ b) : ∀ {xs : Wr} {perm : List D} {c : D}, (∀ x ∈ xs, 0 ≤ x.1 ∧ x.1 < perm.length) → perm[b.toNat]? = some c → (lat perm xs)[b.toNat]? = some (dueW b c xs)
  | [], _, _, _, h => h
  | x :: r, perm, c, hx, h => by
    show (lat (perm.set x.1.toNat x.2) r)[b.toNat]? = some (dueW b (if x.1 = b then x.2 else c) r)
    have hx0 := hx x List.mem_cons_self
    refine lat_at h0 (fun y hy => by rw [List.length_set]; exact hx y (List.mem_cons_of_mem _ hy)) ?_
    by_cases e : x.1 = b
    · rw [if_pos e, e, List.getElem?_set_self]
      exact (List.getElem?_eq_some_iff.mp h).1
    · rw [if_neg e, List.getElem?_set_ne (by omega)]
      exact h
theorem due_good {b : Int} : ∀ {xs : Wr} {c : D}, Good c → (∀ x ∈ xs, Good x.2) → Good (dueW b c xs)
  | [], _, h, _ => h
  | x :: r, c, h, hx => by
    show Good (dueW b (if x.1 = b then x.2 else c) r)
    refine due_good ?_ fun y hy => hx y (List.mem_cons_of_mem _ hy)
    split
    · exact hx x List.mem_cons_self
    · exact h
theorem good_non : Good .non := ⟨.none, fun _ => .non, by simp [Dn]⟩
/-! ### the device -/
def devO (n p q w : Nat) : O := .ins "Device" [("blocks", .int n), ("permanent", .ref p), ("latest", .ref q), ("writes", .ref w)]
theorem smallI {b : Int} (h : -100000 ≤ b ∧ b ≤ 100000) : small b := by
  unfold small
  have : b.natAbs ≤ 100000 := by omega
  exact Nat.lt_of_le_of_lt this (by decide)
theorem write_ok {S : Sto} {d p q w n : Nat} {ws ls : List D} {b : Int} {c : D} (hd : at_ S d = some (devO n p q w)) (hw : at_ S w = some (.lst ws)) (hq : at_ S q = some (.lst ls)) (h1 : w ≠ q) (h2 : w ≠ d) (hb : 0 ≤ b ∧ b < n) (hn : n ≤ 600) (hl : ls.length = n) (hz : ws.length < 100000) :
    f_Device_write [.ref d, .int b, c] S = .ok .non ((S.set w (.lst (ws ++ [.tup [.int b, c]]))).set q (.lst (ls.set b.toNat c))) := by
  unfold devO at hd
  have g : goodRange b (b + 1) n := by unfold goodRange; omega
  have s1 := smallI (b := b) (by omega)
  have s2 := smallI (b := b + 1) (by omega)
  have lw := at_lt hw
  have lq := at_lt hq
  have x1 : ixN ls.length b = some b.toNat := ixN_of hb.1 (by omega)
  have rw_ := rdL_lst hw
  rw [f_Device_write_eq]
  simp (decide := true) [xTryAs0, xTryOnly0, xLRg1, xLRg2, xTryAs, xTryOnly, xErrF, xIsE, xRaise, RS.unset, RS.noexc, defX, xSeq, xNext, xAsg, gNameX, gConsX, gNilX, gTupX, gSubX, xVar, xC, xOp, xUn, oI_int, oNeg_int, xB, asB_bl, xIfS, xRet, xRetN, xDrop, xBreak, xCont, xCons, xNil, xTup, xLst, xCB, xCall, xCallX, xAnd, xOr, xNot, xAndV, xOrV, xNotV, xIf, xYes, xTru, truD, xIsN, xNotN, nonD, xFld, xSetF, xAugF, xMeth, xMethX, xMake, xBM, xDGet, xDPut, xDIn, xDNew, xPart, xNoPart, xSl, nox_ok, toS_ok, finX, R.bind, R.bindS, RS.seq, RS.turn, R.bindE, xFor, xForE, iR1, iR2, iL, iT, iE, iZ, xLc, xAug, xAssert, str_beq, at_set, insX, setFX, putFX, setLX, putDX, getDX, oDGet, oDIn, putX, valX, keyD_int, keyD_str, List.lookup, oInSet, xDisp, xPCons, xPNil, keysX, mergeX, rdL_app_ge, rdL_app_self, rdL_zero, rdL_succ, at_app_ge, at_app_self, at_zero, at_succ, hd, hw, hq, fCheck, g, s1, s2, isLst, mL, gAppend, hz, lw, lq, h1, h2, x1, rw_]
theorem read_ok {S : Sto} {d p q w n : Nat} {ls : List D} {b : Int} {c : D} (hd : at_ S d = some (devO n p q w)) (hq : at_ S q = some (.lst ls)) (hb : 0 ≤ b ∧ b < n) (hn : n ≤ 600) (hl : ls.length = n) (hc : ls[b.toNat]? = some c) :
    f_Device_read [.ref d, .int b] S = .ok c S := by
  unfold devO at hd
  have g : goodRange b (b + 1) n := by unfold goodRange; omega
  have s1 := smallI (b := b) (by omega)
  have s2 := smallI (b := b + 1) (by omega)
  have x1 : atI ls b = some c := atI_of hb.1 hc
  have rq := rdL_lst hq
  rw [f_Device_read_eq]
  simp (decide := true) [xTryAs0, xTryOnly0, xLRg1, xLRg2, xTryAs, xTryOnly, xErrF, xIsE, xRaise, RS.unset, RS.noexc, defX, xSeq, xNext, xAsg, gNameX, gConsX, gNilX, gTupX, gSubX, xVar, xC, xOp, xUn, oI_int, oNeg_int, xB, asB_bl, xIfS, xRet, xRetN, xDrop, xBreak, xCont, xCons, xNil, xTup, xLst, xCB, xCall, xCallX, xAnd, xOr, xNot, xAndV, xOrV, xNotV, xIf, xYes, xTru, truD, xIsN, xNotN, nonD, xFld, xSetF, xAugF, xMeth, xMethX, xMake, xBM, xDGet, xDPut, xDIn, xDNew, xPart, xNoPart, xSl, nox_ok, toS_ok, finX, R.bind, R.bindS, RS.seq, RS.turn, R.bindE, xFor, xForE, iR1, iR2, iL, iT, iE, iZ, xLc, xAug, xAssert, str_beq, at_set, insX, setFX, putFX, setLX, putDX, getDX, oDGet, oDIn, putX, valX, keyD_int, keyD_str, List.lookup, oInSet, xDisp, xPCons, xPNil, keysX, mergeX, rdL_app_ge, rdL_app_self, rdL_zero, rdL_succ, at_app_ge, at_app_self, at_zero, at_succ, hd, hq, fCheck, g, s1, s2, oIxL, rq, x1]
theorem write_no {S : Sto} {d p q w n : Nat} {b : Int} {c : D} (hd : at_ S d = some (devO n p q w)) (hb : b < 0 ∨ (n : Int) ≤ b) (hs : -10000 ≤ b ∧ b ≤ 10000) :
    f_Device_write [.ref d, .int b, c] S = .exc "BadRange" [("end", .int (b + 1)), ("start", .int b)] S := by
  unfold devO at hd
  have g : ¬ goodRange b (b + 1) n := by unfold goodRange; omega
  have s1 := smallI (b := b) (by omega)
  have s2 := smallI (b := b + 1) (by omega)
  rw [f_Device_write_eq]
  simp (decide := true) [xTryAs0, xTryOnly0, xLRg1, xLRg2, xTryAs, xTryOnly, xErrF, xIsE, xRaise, RS.unset, RS.noexc, defX, xSeq, xNext, xAsg, gNameX, gConsX, gNilX, gTupX, gSubX, xVar, xC, xOp, xUn, oI_int, oNeg_int, xB, asB_bl, xIfS, xRet, xRetN, xDrop, xBreak, xCont, xCons, xNil, xTup, xLst, xCB, xCall, xCallX, xAnd, xOr, xNot, xAndV, xOrV, xNotV, xIf, xYes, xTru, truD, xIsN, xNotN, nonD, xFld, xSetF, xAugF, xMeth, xMethX, xMake, xBM, xDGet, xDPut, xDIn, xDNew, xPart, xNoPart, xSl, nox_ok, toS_ok, finX, R.bind, R.bindS, RS.seq, RS.turn, R.bindE, xFor, xForE, iR1, iR2, iL, iT, iE, iZ, xLc, xAug, xAssert, str_beq, at_set, insX, setFX, putFX, setLX, putDX, getDX, oDGet, oDIn, putX, valX, keyD_int, keyD_str, List.lookup, oInSet, xDisp, xPCons, xPNil, keysX, mergeX, rdL_app_ge, rdL_app_self, rdL_zero, rdL_succ, at_app_ge, at_app_self, at_zero, at_succ, hd, fCheck, g, s1, s2]
theorem read_no {S : Sto} {d p q w n : Nat} {b : Int} (hd : at_ S d = some (devO n p q w)) (hb : b < 0 ∨ (n : Int) ≤ b) (hs : -10000 ≤ b ∧ b ≤ 10000) :
    f_Device_read [.ref d, .int b] S = .exc "BadRange" [("end", .int (b + 1)), ("start", .int b)] S := by
  unfold devO at hd
  have g : ¬ goodRange b (b + 1) n := by unfold goodRange; omega
  have s1 := smallI (b := b) (by omega)
  have s2 := smallI (b := b + 1) (by omega)
  rw [f_Device_read_eq]
  simp (decide := true) [xTryAs0, xTryOnly0, xLRg1, xLRg2, xTryAs, xTryOnly, xErrF, xIsE, xRaise, RS.unset, RS.noexc, defX, xSeq, xNext, xAsg, gNameX, gConsX, gNilX, gTupX, gSubX, xVar, xC, xOp, xUn, oI_int, oNeg_int, xB, asB_bl, xIfS, xRet, xRetN, xDrop, xBreak, xCont, xCons, xNil, xTup, xLst, xCB, xCall, xCallX, xAnd, xOr, xNot, xAndV, xOrV, xNotV, xIf, xYes, xTru, truD, xIsN, xNotN, nonD, xFld, xSetF, xAugF, xMeth, xMethX, xMake, xBM, xDGet, xDPut, xDIn, xDNew, xPart, xNoPart, xSl, nox_ok, toS_ok, finX, R.bind, R.bindS, RS.seq, RS.turn, R.bindE, xFor, xForE, iR1, iR2, iL, iT, iE, iZ, xLc, xAug, xAssert, str_beq, at_set, insX, setFX, putFX, setLX, putDX, getDX, oDGet, oDIn, putX, valX, keyD_int, keyD_str, List.lookup, oInSet, xDisp, xPCons, xPNil, keysX, mergeX, rdL_app_ge, rdL_app_self, rdL_zero, rdL_succ, at_app_ge, at_app_self, at_zero, at_succ, hd, fCheck, g, s1, s2]
theorem pending_ok {S : Sto} {d p q w n : Nat} {xs : Wr} (hd : at_ S d = some (devO n p q w)) (hw : at_ S w = some (.lst (xs.map prD))) (hz : xs.length < 100000) :
    f_Device_pending [.ref d] S = .ok (.ref S.length) (S ++ [.lst (xs.map fun x => .int x.1)]) := by
  unfold devO at hd
  have rw_ := rdL_lst hw
  rw [f_Device_pending_eq]
  simp (decide := true) [xTryAs0, xTryOnly0, xLRg1, xLRg2, xTryAs, xTryOnly, xErrF, xIsE, xRaise, RS.unset, RS.noexc, defX, xSeq, xNext, xAsg, gNameX, gConsX, gNilX, gTupX, gSubX, xVar, xC, xOp, xUn, oI_int, oNeg_int, xB, asB_bl, xIfS, xRet, xRetN, xDrop, xBreak, xCont, xCons, xNil, xTup, xLst, xCB, xCall, xCallX, xAnd, xOr, xNot, xAndV, xOrV, xNotV, xIf, xYes, xTru, truD, xIsN, xNotN, nonD, xFld, xSetF, xAugF, xMeth, xMethX, xMake, xBM, xDGet, xDPut, xDIn, xDNew, xPart, xNoPart, xSl, nox_ok, toS_ok, finX, R.bind, R.bindS, RS.seq, RS.turn, R.bindE, xFor, xForE, iR1, iR2, iL, iT, iE, iZ, xLc, xAug, xAssert, str_beq, at_set, insX, setFX, putFX, setLX, putDX, getDX, oDGet, oDIn, putX, valX, keyD_int, keyD_str, List.lookup, oInSet, xDisp, xPCons, xPNil, keysX, mergeX, rdL_app_ge, rdL_app_self, rdL_zero, rdL_succ, at_app_ge, at_app_self, at_zero, at_succ, f_Device_pending_c1, hd, rw_]
  rw [lc_map (fun x => match x with | .tup [a, _] => a | _ => .non)]
  · simp [List.map_map, Function.comp_def, prD]
  · exact fun acc => rdL_app rw_
  · intro x hx acc
    obtain ⟨y, _, rfl⟩ := List.mem_map.mp hx
    simp (decide := true) [xTryAs0, xTryOnly0, xLRg1, xLRg2, xTryAs, xTryOnly, xErrF, xIsE, xRaise, RS.unset, RS.noexc, defX, xSeq, xNext, xAsg, gNameX, gConsX, gNilX, gTupX, gSubX, xVar, xC, xOp, xUn, oI_int, oNeg_int, xB, asB_bl, xIfS, xRet, xRetN, xDrop, xBreak, xCont, xCons, xNil, xTup, xLst, xCB, xCall, xCallX, xAnd, xOr, xNot, xAndV, xOrV, xNotV, xIf, xYes, xTru, truD, xIsN, xNotN, nonD, xFld, xSetF, xAugF, xMeth, xMethX, xMake, xBM, xDGet, xDPut, xDIn, xDNew, xPart, xNoPart, xSl, nox_ok, toS_ok, finX, R.bind, R.bindS, RS.seq, RS.turn, R.bindE, xFor, xForE, iR1, iR2, iL, iT, iE, iZ, xLc, xAug, xAssert, str_beq, at_set, insX, setFX, putFX, setLX, putDX, getDX, oDGet, oDIn, putX, valX, keyD_int, keyD_str, List.lookup, oInSet, xDisp, xPCons, xPNil, keysX, mergeX, rdL_app_ge, rdL_app_self, rdL_zero, rdL_succ, at_app_ge, at_app_self, at_zero, at_succ, prD, itemsOf, wipeE]
  · simpa using hz
end

section
open Mi
structure FrO (P : List Nat) (S S' : Sto) : Prop where
  le : S.length ≤ S'.length
  eq : ∀ i, i < S.length → i ∉ P → at_ S' i = at_ S i
theorem FrO.refl {P : List Nat} {S : Sto} : FrO P S S := ⟨Nat.le_refl _, fun _ _ _ => rfl⟩
theorem FrO.trans {P : List Nat} {S S1 S2 : Sto} (a : FrO P S S1) (c : FrO P S1 S2) : FrO P S S2 := ⟨Nat.le_trans a.le c.le, fun i h n => (c.eq i (Nat.lt_of_lt_of_le h a.le) n).trans (a.eq i h n)⟩
theorem FrO.mono {P Q : List Nat} {S S' : Sto} (a : FrO P S S') (h : ∀ i ∈ P, i ∈ Q) : FrO Q S S' := ⟨a.le, fun i hi n => a.eq i hi fun z => n (h i z)⟩
theorem FrO.set {P : List Nat} {S : Sto} {j : Nat} {o : O} (h : j ∈ P) : FrO P S (S.set j o) := ⟨by simp, fun i _ n => List.getElem?_set_ne (fun z => n (by rw [← z]; exact h))⟩
theorem FrO.app {P : List Nat} {S T : Sto} : FrO P S (S ++ T) := ⟨by simp, fun i h _ => List.getElem?_append_left h⟩
theorem FrO.get {P : List Nat} {S S' : Sto} {l : Nat} {o : O} (f : FrO P S S') (h : at_ S l = some o) (n : l ∉ P) : at_ S' l = some o := by rw [f.eq l (at_lt h) n]; exact h
theorem FrO.rd {P : List Nat} {S S' : Sto} {l : Nat} {xs : List D} (f : FrO P S S') (h : rdL S l = some xs) (n : l ∉ P) : rdL S' l = some xs := rdL_of_at (f.eq l (rdL_lt h) n) h
theorem barrier_ok {S : Sto} {d p q w n : Nat} {ls : List D} (hd : at_ S d = some (devO n p q w)) (hq : at_ S q = some (.lst ls)) :
    ∃ S', f_Device_barrier [.ref d] S = .ok .non S' ∧ FrO [d] S S' ∧ at_ S' d = some (devO n S.length q (S.length + 1)) ∧ at_ S' S.length = some (.lst ls) ∧ at_ S' (S.length + 1) = some (.lst []) := by
  have ld := at_lt hd
  have rq := rdL_lst hq
  unfold devO at hd
  have e1 : at_ (S ++ [O.lst ls]) d = some (devO n p q w) := at_app hd
  have ld1 : d < S.length + 1 := by omega
  rw [f_Device_barrier_eq]
  simp (decide := true) [xTryAs0, xTryOnly0, xLRg1, xLRg2, xTryAs, xTryOnly, xErrF, xIsE, xRaise, RS.unset, RS.noexc, defX, xSeq, xNext, xAsg, gNameX, gConsX, gNilX, gTupX, gSubX, xVar, xC, xOp, xUn, oI_int, oNeg_int, xB, asB_bl, xIfS, xRet, xRetN, xDrop, xBreak, xCont, xCons, xNil, xTup, xLst, xCB, xCall, xCallX, xAnd, xOr, xNot, xAndV, xOrV, xNotV, xIf, xYes, xTru, truD, xIsN, xNotN, nonD, xFld, xSetF, xAugF, xMeth, xMethX, xMake, xBM, xDGet, xDPut, xDIn, xDNew, xPart, xNoPart, xSl, nox_ok, toS_ok, finX, R.bind, R.bindS, RS.seq, RS.turn, R.bindE, xFor, xForE, iR1, iR2, iL, iT, iE, iZ, xLc, xAug, xAssert, str_beq, at_set, insX, setFX, putFX, setLX, putDX, getDX, oDGet, oDIn, putX, valX, keyD_int, keyD_str, List.lookup, oInSet, xDisp, xPCons, xPNil, keysX, mergeX, rdL_app_ge, rdL_app_self, rdL_zero, rdL_succ, at_app_ge, at_app_self, at_zero, at_succ, hd, rq, bList, itemsOf, e1, devO, ld1, at_app_lt, ld]
  have hm : d ∈ [d] := List.mem_cons_self
  refine ⟨FrO.trans (FrO.set hm) FrO.app, ?_⟩
  have n1 : ¬ d = S.length := by omega
  have n2 : ¬ d = S.length + 1 := by omega
  simp [at_set, at_, List.getElem?_append, n1, n2, ld]
/-! ### a failure -/
abbrev Zs := List ((Int × D) × Int)
def stP (l : List D) (z : (Int × D) × Int) : List D := if z.2 = 1 then l.set z.1.1.toNat z.1.2 else if z.2 = 2 then l.set z.1.1.toNat .non else l
def stK (kvs : List (Key × D)) (z : (Int × D) × Int) : List (Key × D) := if z.2 = 1 then putX kvs (.inl z.1.1) z.1.2 else if z.2 = 2 then putX kvs (.inl z.1.1) .non else kvs
def crs (perm : List D) (zs : Zs) : List D := zs.foldl stP perm
def kpt (kvs : List (Key × D)) (zs : Zs) : List (Key × D) := zs.foldl stK kvs
theorem stP_len {l : List D} {z : (Int × D) × Int} : (stP l z).length = l.length := by unfold stP; split <;> (try split) <;> simp
theorem crs_len : ∀ {zs : Zs} {perm : List D}, (crs perm zs).length = perm.length
  | [], _ => rfl
  | z :: r, perm => by
    show (crs (stP perm z) r).length = _
    rw [crs_len, stP_len]
theorem crs_take {perm : List D} {zs : Zs} {i : Nat} {z : (Int × D) × Int} (h : zs[i]? = some z) : crs perm (zs.take (i + 1)) = stP (crs perm (zs.take i)) z := by
  rw [List.take_add_one, h]
  simp [crs, List.foldl_append]
theorem kpt_take {kvs : List (Key × D)} {zs : Zs} {i : Nat} {z : (Int × D) × Int} (h : zs[i]? = some z) : kpt kvs (zs.take (i + 1)) = stK (kpt kvs (zs.take i)) z := by
  rw [List.take_add_one, h]
  simp [kpt, List.foldl_append]
theorem zip_map : ∀ {xs : Wr} {fs : List Int}, zipD (xs.map prD) (fs.map D.int) = (xs.zip fs).map fun z => .tup [prD z.1, .int z.2]
  | [], [] => rfl
  | [], _ :: _ => rfl
  | _ :: _, [] => rfl
  | x :: xs, f :: fs => by
    rw [List.zip_cons_cons, List.map_cons, List.map_cons, List.map_cons, ← zip_map]
    rfl
theorem crash_turn {S : Sto} {d p q w n l : Nat} {ps : List D} {b f : Int} {c : D} (hd : at_ S d = some (devO n p q w)) (hp : at_ S p = some (.lst ps)) (hl : ps.length = n) (hb : 0 ≤ b ∧ b < n) {o2 o3 o4 : Option D} :
    f_Device_crash_b1 [some (.ref d), some (.ref l), some (.int b), some c, some (.int f)] S = .nx [some (.ref d), some (.ref l), some (.int b), some c, some (.int f)] (if f = 1 ∨ f = 2 then S.set p (.lst (stP ps ((b, c), f))) else S) := by
  unfold devO at hd
  have x1 : ixN ps.length b = some b.toNat := ixN_of hb.1 (by omega)
  have lp := at_lt hp
  by_cases h1 : f = 1
  · subst h1
    simp (decide := true) [f_Device_crash_b1, xTryAs0, xTryOnly0, xLRg1, xLRg2, xTryAs, xTryOnly, xErrF, xIsE, xRaise, RS.unset, RS.noexc, defX, xSeq, xNext, xAsg, gNameX, gConsX, gNilX, gTupX, gSubX, xVar, xC, xOp, xUn, oI_int, oNeg_int, xB, asB_bl, xIfS, xRet, xRetN, xDrop, xBreak, xCont, xCons, xNil, xTup, xLst, xCB, xCall, xCallX, xAnd, xOr, xNot, xAndV, xOrV, xNotV, xIf, xYes, xTru, truD, xIsN, xNotN, nonD, xFld, xSetF, xAugF, xMeth, xMethX, xMake, xBM, xDGet, xDPut, xDIn, xDNew, xPart, xNoPart, xSl, nox_ok, toS_ok, finX, R.bind, R.bindS, RS.seq, RS.turn, R.bindE, xFor, xForE, iR1, iR2, iL, iT, iE, iZ, xLc, xAug, xAssert, str_beq, at_set, insX, setFX, putFX, setLX, putDX, getDX, oDGet, oDIn, putX, valX, keyD_int, keyD_str, List.lookup, oInSet, xDisp, xPCons, xPNil, keysX, mergeX, rdL_app_ge, rdL_app_self, rdL_zero, rdL_succ, at_app_ge, at_app_self, at_zero, at_succ, hd, hp, x1, stP, lp]
  · by_cases h2 : f = 2
    · subst h2
      simp (decide := true) [f_Device_crash_b1, xTryAs0, xTryOnly0, xLRg1, xLRg2, xTryAs, xTryOnly, xErrF, xIsE, xRaise, RS.unset, RS.noexc, defX, xSeq, xNext, xAsg, gNameX, gConsX, gNilX, gTupX, gSubX, xVar, xC, xOp, xUn, oI_int, oNeg_int, xB, asB_bl, xIfS, xRet, xRetN, xDrop, xBreak, xCont, xCons, xNil, xTup, xLst, xCB, xCall, xCallX, xAnd, xOr, xNot, xAndV, xOrV, xNotV, xIf, xYes, xTru, truD, xIsN, xNotN, nonD, xFld, xSetF, xAugF, xMeth, xMethX, xMake, xBM, xDGet, xDPut, xDIn, xDNew, xPart, xNoPart, xSl, nox_ok, toS_ok, finX, R.bind, R.bindS, RS.seq, RS.turn, R.bindE, xFor, xForE, iR1, iR2, iL, iT, iE, iZ, xLc, xAug, xAssert, str_beq, at_set, insX, setFX, putFX, setLX, putDX, getDX, oDGet, oDIn, putX, valX, keyD_int, keyD_str, List.lookup, oInSet, xDisp, xPCons, xPNil, keysX, mergeX, rdL_app_ge, rdL_app_self, rdL_zero, rdL_succ, at_app_ge, at_app_self, at_zero, at_succ, hd, hp, x1, stP, lp]
    · simp (decide := true) [f_Device_crash_b1, xTryAs0, xTryOnly0, xLRg1, xLRg2, xTryAs, xTryOnly, xErrF, xIsE, xRaise, RS.unset, RS.noexc, defX, xSeq, xNext, xAsg, gNameX, gConsX, gNilX, gTupX, gSubX, xVar, xC, xOp, xUn, oI_int, oNeg_int, xB, asB_bl, xIfS, xRet, xRetN, xDrop, xBreak, xCont, xCons, xNil, xTup, xLst, xCB, xCall, xCallX, xAnd, xOr, xNot, xAndV, xOrV, xNotV, xIf, xYes, xTru, truD, xIsN, xNotN, nonD, xFld, xSetF, xAugF, xMeth, xMethX, xMake, xBM, xDGet, xDPut, xDIn, xDNew, xPart, xNoPart, xSl, nox_ok, toS_ok, finX, R.bind, R.bindS, RS.seq, RS.turn, R.bindE, xFor, xForE, iR1, iR2, iL, iT, iE, iZ, xLc, xAug, xAssert, str_beq, at_set, insX, setFX, putFX, setLX, putDX, getDX, oDGet, oDIn, putX, valX, keyD_int, keyD_str, List.lookup, oInSet, xDisp, xPCons, xPNil, keysX, mergeX, rdL_app_ge, rdL_app_self, rdL_zero, rdL_succ, at_app_ge, at_app_self, at_zero, at_succ, hd, hp, x1, stP, lp, h1, h2]
theorem crash_ok {S : Sto} {d p q w n l : Nat} {ps : List D} {xs : Wr} {fs : List Int} (hd : at_ S d = some (devO n p q w)) (hp : at_ S p = some (.lst ps)) (hw : at_ S w = some (.lst (xs.map prD))) (hf : rdL S l = some (fs.map .int)) (hl : ps.length = n) (hx : ∀ x ∈ xs, 0 ≤ x.1 ∧ x.1 < n)
    (n1 : d ≠ p) (n2 : w ≠ p) (n3 : l ≠ p) :
    ∃ S', f_Device_crash [.ref d, .ref l] S = .ok .non S' ∧ FrO [d, p] S S' ∧ at_ S' d = some (devO n p S.length (S.length + 1)) ∧ at_ S' p = some (.lst (crs ps (xs.zip fs))) ∧ at_ S' S.length = some (.lst (crs ps (xs.zip fs))) ∧ at_ S' (S.length + 1) = some (.lst []) := by
  have rw_ := rdL_lst hw
  obtain ⟨e', S1, h1, ⟨o2, o3, o4, rfl⟩, h3, h4, h5⟩ := loop_all (ok := fun S => rdL S w = some (xs.map prD) ∧ rdL S l = some (fs.map D.int)) (fg := gTupX 2 (gConsX (gTupX 2 (gConsX (gNameX 2) (gConsX (gNameX 3) gNilX))) (gConsX (gNameX 4) gNilX))) (fb := f_Device_crash_b1)
    (items := (xs.zip fs).map fun z => .tup [prD z.1, .int z.2]) (env := [some (.ref d), some (.ref l), none, none, none]) (S := S)
    (fun i e S' => (∃ o2 o3 o4, e = [some (.ref d), some (.ref l), o2, o3, o4]) ∧ at_ S' p = some (.lst (crs ps ((xs.zip fs).take i))) ∧ FrO [p] S S' ∧ S'.length = S.length)
    (fun i e S' _ ⟨_, _, f, _⟩ => ⟨f.rd rw_ (by simp [n2]), f.rd hf (by simp [n3])⟩) (fun i x e S1 hx1 ⟨⟨o2, o3, o4, he⟩, g1, g2, g3⟩ => by
      subst he
      rw [List.getElem?_map] at hx1
      obtain ⟨⟨⟨b, c⟩, f⟩, hz, rfl⟩ := Option.map_eq_some_iff.mp hx1
      have hm := List.mem_of_getElem? hz
      have hb := hx _ (List.of_mem_zip hm).1
      refine ⟨[some (.ref d), some (.ref l), some (.int b), some c, some (.int f)], S1, ?_, _, _, .inl (crash_turn (g2.get hd (by simp [n1])) g1 (by rw [crs_len, hl]) hb (o2 := o2) (o3 := o3) (o4 := o4)), ⟨_, _, _, rfl⟩, ?_⟩
      · simp (decide := true) [xTryAs0, xTryOnly0, xLRg1, xLRg2, xTryAs, xTryOnly, xErrF, xIsE, xRaise, RS.unset, RS.noexc, defX, xSeq, xNext, xAsg, gNameX, gConsX, gNilX, gTupX, gSubX, xVar, xC, xOp, xUn, oI_int, oNeg_int, xB, asB_bl, xIfS, xRet, xRetN, xDrop, xBreak, xCont, xCons, xNil, xTup, xLst, xCB, xCall, xCallX, xAnd, xOr, xNot, xAndV, xOrV, xNotV, xIf, xYes, xTru, truD, xIsN, xNotN, nonD, xFld, xSetF, xAugF, xMeth, xMethX, xMake, xBM, xDGet, xDPut, xDIn, xDNew, xPart, xNoPart, xSl, nox_ok, toS_ok, finX, R.bind, R.bindS, RS.seq, RS.turn, R.bindE, xFor, xForE, iR1, iR2, iL, iT, iE, iZ, xLc, xAug, xAssert, str_beq, at_set, insX, setFX, putFX, setLX, putDX, getDX, oDGet, oDIn, putX, valX, keyD_int, keyD_str, List.lookup, oInSet, xDisp, xPCons, xPNil, keysX, mergeX, rdL_app_ge, rdL_app_self, rdL_zero, rdL_succ, at_app_ge, at_app_self, at_zero, at_succ, prD, itemsOf]
      · rw [crs_take hz]
        split
        · exact ⟨by rw [at_set_eq (at_lt g1)], g2.trans (FrO.set (by simp)), by rw [List.length_set, g3]⟩
        · rename_i hn
          have : stP (crs ps ((xs.zip fs).take i)) ((b, c), f) = crs ps ((xs.zip fs).take i) := by
            unfold stP
            rw [if_neg (fun z => hn (.inl z)), if_neg (fun z => hn (.inr z))]
          rw [this]
          exact ⟨g1, g2, g3⟩)
    ⟨⟨none, none, none, rfl⟩, hp, FrO.refl, rfl⟩
  rw [List.length_map, List.take_length] at h3
  have hd1 := h4.get hd (by simp [n1])
  unfold devO at hd hd1
  have ld := at_lt hd
  have lp := at_lt hp
  have ld1 : d < S1.length := by omega
  have rp := rdL_lst h3
  have e1 : at_ (S1 ++ [O.lst (crs ps (xs.zip fs))]) d = some (devO n p q w) := at_app hd1
  rw [f_Device_crash_eq]
  have ld2 : d < S1.length + 1 := by omega
  simp (decide := true) [f_Device_crash_l1, xTryAs0, xTryOnly0, xLRg1, xLRg2, xTryAs, xTryOnly, xErrF, xIsE, xRaise, RS.unset, RS.noexc, defX, xSeq, xNext, xAsg, gNameX, gConsX, gNilX, gTupX, gSubX, xVar, xC, xOp, xUn, oI_int, oNeg_int, xB, asB_bl, xIfS, xRet, xRetN, xDrop, xBreak, xCont, xCons, xNil, xTup, xLst, xCB, xCall, xCallX, xAnd, xOr, xNot, xAndV, xOrV, xNotV, xIf, xYes, xTru, truD, xIsN, xNotN, nonD, xFld, xSetF, xAugF, xMeth, xMethX, xMake, xBM, xDGet, xDPut, xDIn, xDNew, xPart, xNoPart, xSl, nox_ok, toS_ok, finX, R.bind, R.bindS, RS.seq, RS.turn, R.bindE, xFor, xForE, iR1, iR2, iL, iT, iE, iZ, xLc, xAug, xAssert, str_beq, at_set, insX, setFX, putFX, setLX, putDX, getDX, oDGet, oDIn, putX, valX, keyD_int, keyD_str, List.lookup, oInSet, xDisp, xPCons, xPNil, keysX, mergeX, rdL_app_ge, rdL_app_self, rdL_zero, rdL_succ, at_app_ge, at_app_self, at_zero, at_succ, hd, rw_, hf, zip_map, h1, hd1, rp, bList, itemsOf, e1, devO, ld1, ld2, at_app_lt]
  have hm : d ∈ [d, p] := List.mem_cons_self
  refine ⟨FrO.trans (h4.mono (by simp)) (FrO.trans (FrO.set hm) FrO.app), ?_⟩
  rw [← h5]
  have m1 : ¬ d = S1.length := by omega
  have m2 : ¬ d = S1.length + 1 := by omega
  have m3 : p < S1.length := by omega
  have m4 : ¬ d = p := n1
  have k1 : at_ S1 p = S1[p]? := rfl
  refine ⟨?_, ?_, ?_, ?_⟩
  · simp [at_set, at_, List.getElem?_append, m1, m2, ld1]
  · rw [k1] at h3
    have h3' := (List.getElem?_eq_some_iff.mp h3).2
    simp [at_set, at_, List.getElem?_append, m1, m2, m3, m4, h3']
  · simp [at_set, at_, List.getElem?_append, m1, m2]
  · simp [at_set, at_, List.getElem?_append, m1, m2]
end

section
open Mi
/-! ### dicts: what a key has -/
theorem valX_map_ne {κ α : Type} [DecidableEq κ] {k k' : κ} {v : α} (h : k ≠ k') : ∀ {kvs : List (κ × α)}, valX (kvs.map fun kv => if kv.1 = k then (kv.1, v) else kv) k' = valX kvs k'
  | [] => rfl
  | (a, x) :: r => by
    rw [List.map_cons]
    by_cases ha : a = k
    · subst ha
      rw [if_pos rfl, valX_cons, valX_cons, if_neg h, if_neg h, valX_map_ne h]
    · rw [if_neg ha, valX_cons, valX_cons, valX_map_ne h]
theorem valX_map_eq {κ α : Type} [DecidableEq κ] {k : κ} {v : α} : ∀ {kvs : List (κ × α)}, (kvs.any fun kv => decide (kv.1 = k)) = true → valX (kvs.map fun kv => if kv.1 = k then (kv.1, v) else kv) k = some v
  | [], h => by cases h
  | (a, x) :: r, h => by
    rw [List.map_cons]
    by_cases ha : a = k
    · subst ha
      rw [if_pos rfl, valX_cons, if_pos rfl]
    · rw [if_neg ha, valX_cons, if_neg ha]
      refine valX_map_eq ?_
      rw [List.any_cons, decide_eq_false ha, Bool.false_or] at h
      exact h
theorem valX_app {κ α : Type} [DecidableEq κ] {k k' : κ} {v : α} : ∀ {kvs : List (κ × α)}, (kvs.any fun kv => decide (kv.1 = k)) = false → valX (kvs ++ [(k, v)]) k' = if k = k' then some v else valX kvs k'
  | [], _ => by
    rw [List.nil_append, valX_cons]
  | (a, x) :: r, h => by
    rw [List.any_cons, Bool.or_eq_false_iff] at h
    rw [List.cons_append, valX_cons, valX_cons, valX_app h.2]
    by_cases hk : k = k'
    · subst hk
      rw [if_pos rfl, if_pos rfl, if_neg (of_decide_eq_false h.1)]
    · rw [if_neg hk, if_neg hk]
theorem valX_put {κ α : Type} [DecidableEq κ] {kvs : List (κ × α)} {k k' : κ} {v : α} : valX (putX kvs k v) k' = if k = k' then some v else valX kvs k' := by
  unfold putX
  split
  · rename_i h
    by_cases hk : k = k'
    · subst hk
      rw [if_pos rfl, valX_map_eq h]
    · rw [if_neg hk, valX_map_ne hk]
  · rename_i h
    exact valX_app (Bool.eq_false_iff.mpr h)
theorem putX_mem {κ α : Type} [DecidableEq κ] {kvs : List (κ × α)} {k : κ} {v : α} {kv : κ × α} (h : kv ∈ putX kvs k v) : kv = (k, v) ∨ kv ∈ kvs := by
  unfold putX at h
  split at h
  · obtain ⟨y, hy, rfl⟩ := List.mem_map.mp h
    split
    · rename_i e
      exact .inl (by rw [e])
    · exact .inr hy
  · rcases List.mem_append.mp h with h | h
    · exact .inr h
    · exact .inl (by simpa using h)
theorem putX_len {κ α : Type} [DecidableEq κ] {kvs : List (κ × α)} {k : κ} {v : α} : (putX kvs k v).length ≤ kvs.length + 1 := by
  unfold putX
  split <;> simp
/-! ### the plain side -/
def kv0 (kvs : List (Key × D)) (b : Int) : D := (valX kvs (.inl b)).getD .non
def plO (n k a : Nat) : O := .dK [(.inr "count", .int n), (.inr "kept", .ref k), (.inr "wait", .ref a)]
theorem due_ok {S : Sto} {t k a n : Nat} {kvs : List (Key × D)} {xs : Wr} {b : Int} (ht : at_ S t = some (plO n k a)) (hk : at_ S k = some (.dK kvs)) (ha : at_ S a = some (.lst (xs.map prD))) : f_l_device_due [.ref t, .int b] S = .ok (dueW b (kv0 kvs b) xs) S := by
  have ra := rdL_lst ha
  obtain ⟨e', S1, h1, ⟨o3, rfl⟩, rfl⟩ := loop_all (ok := fun S => rdL S a = some (xs.map prD)) (fg := gNameX 3) (fb := f_l_device_due_b1) (items := xs.map prD) (env := [some (.ref t), some (.int b), some (kv0 kvs b), none]) (S := S)
    (fun i e S' => (∃ o3, e = [some (.ref t), some (.int b), some (dueW b (kv0 kvs b) (xs.take i)), o3]) ∧ S' = S) (fun i e S' _ ⟨_, q⟩ => by rw [q]; exact ra) (fun i x e S1 hx ⟨⟨o3, he⟩, hS⟩ => by
      subst he hS
      rw [List.getElem?_map] at hx
      obtain ⟨⟨c, v⟩, hz, rfl⟩ := Option.map_eq_some_iff.mp hx
      have e1 : dueW b (kv0 kvs b) (xs.take (i + 1)) = if c = b then v else dueW b (kv0 kvs b) (xs.take i) := by
        rw [List.take_add_one, hz]
        simp [dueW, List.foldl_append]
      refine ⟨_, _, rfl, ?_⟩
      rw [e1]
      by_cases hc : c = b
      · refine ⟨_, S1, .inl ?_, ⟨some (prD (c, v)), rfl⟩, rfl⟩
        simp (decide := true) [f_l_device_due_b1, xTryAs0, xTryOnly0, xLRg1, xLRg2, xTryAs, xTryOnly, xErrF, xIsE, xRaise, RS.unset, RS.noexc, defX, xSeq, xNext, xAsg, gNameX, gConsX, gNilX, gTupX, gSubX, xVar, xC, xOp, xUn, oI_int, oNeg_int, xB, asB_bl, xIfS, xRet, xRetN, xDrop, xBreak, xCont, xCons, xNil, xTup, xLst, xCB, xCall, xCallX, xAnd, xOr, xNot, xAndV, xOrV, xNotV, xIf, xYes, xTru, truD, xIsN, xNotN, nonD, xFld, xSetF, xAugF, xMeth, xMethX, xMake, xBM, xDGet, xDPut, xDIn, xDNew, xPart, xNoPart, xSl, nox_ok, toS_ok, finX, R.bind, R.bindS, RS.seq, RS.turn, R.bindE, xFor, xForE, iR1, iR2, iL, iT, iE, iZ, xLc, xAug, xAssert, str_beq, at_set, insX, setFX, putFX, setLX, putDX, getDX, oDGet, oDIn, putX, valX, keyD_int, keyD_str, List.lookup, oInSet, xDisp, xPCons, xPNil, keysX, mergeX, rdL_app_ge, rdL_app_self, rdL_zero, rdL_succ, at_app_ge, at_app_self, at_zero, at_succ, prD, oIxT, hc, atI, ixN]
      · refine ⟨_, S1, .inl ?_, ⟨some (prD (c, v)), rfl⟩, rfl⟩
        simp (decide := true) [f_l_device_due_b1, xTryAs0, xTryOnly0, xLRg1, xLRg2, xTryAs, xTryOnly, xErrF, xIsE, xRaise, RS.unset, RS.noexc, defX, xSeq, xNext, xAsg, gNameX, gConsX, gNilX, gTupX, gSubX, xVar, xC, xOp, xUn, oI_int, oNeg_int, xB, asB_bl, xIfS, xRet, xRetN, xDrop, xBreak, xCont, xCons, xNil, xTup, xLst, xCB, xCall, xCallX, xAnd, xOr, xNot, xAndV, xOrV, xNotV, xIf, xYes, xTru, truD, xIsN, xNotN, nonD, xFld, xSetF, xAugF, xMeth, xMethX, xMake, xBM, xDGet, xDPut, xDIn, xDNew, xPart, xNoPart, xSl, nox_ok, toS_ok, finX, R.bind, R.bindS, RS.seq, RS.turn, R.bindE, xFor, xForE, iR1, iR2, iL, iT, iE, iZ, xLc, xAug, xAssert, str_beq, at_set, insX, setFX, putFX, setLX, putDX, getDX, oDGet, oDIn, putX, valX, keyD_int, keyD_str, List.lookup, oInSet, xDisp, xPCons, xPNil, keysX, mergeX, rdL_app_ge, rdL_app_self, rdL_zero, rdL_succ, at_app_ge, at_app_self, at_zero, at_succ, prD, oIxT, hc, atI, ixN])
    ⟨⟨none, rfl⟩, rfl⟩
  rw [List.length_map, List.take_length] at h1
  unfold plO at ht
  unfold kv0 at h1 ⊢
  rw [f_l_device_due_eq]
  have e2 : getDX S1 (.ref k) (.int b) = some (valX kvs (.inl b)) := getDX_eq hk rfl
  have e3 : oDGet (.ref t) (.str "kept") S1 = .ok (.ref k) S1 := oDGet_eq ht rfl (by simp (decide := true) [valX])
  have e4 : oDGet (.ref t) (.str "wait") S1 = .ok (.ref a) S1 := oDGet_eq ht rfl (by simp (decide := true) [valX])
  simp (decide := true) [defX, xSeq, xAsg, gNameX, xDGet1, xDGet, xVar, xC, xOp, e2, e3, e4, hk, f_l_device_due_l1, xFor, iL, ra, h1, xRet, finX, R.bind, R.bindS, RS.seq, toS]
theorem failure_turn {S : Sto} {t k a n l i : Nat} {kvs : List (Key × D)} {xs : Wr} {fs : List Int} {b f : Int} {c : D} (ht : at_ S t = some (plO n k a)) (hk : at_ S k = some (.dK kvs)) (ha : at_ S a = some (.lst (xs.map prD))) (hl : rdL S l = some (fs.map .int))
    (hx : xs[i]? = some (b, c)) (hf : fs[i]? = some f ∨ (fs.length ≤ i ∧ f = 0)) (hz : kvs.length < 100000) {o3 o4 : Option D} :
    f_l_device_failure_b1 [some (.ref t), some (.ref l), some (.int (i : Int)), o3, o4] S = .nx [some (.ref t), some (.ref l), some (.int (i : Int)), some (prD (b, c)), some (.int f)] (if f = 1 ∨ f = 2 then S.set k (.dK (stK kvs ((b, c), f))) else S) := by
  have ra := rdL_lst ha
  unfold plO at ht
  have e3 : oDGet (.ref t) (.str "kept") S = .ok (.ref k) S := oDGet_eq ht rfl (by simp (decide := true) [valX])
  have e4 : oDGet (.ref t) (.str "wait") S = .ok (.ref a) S := oDGet_eq ht rfl (by simp (decide := true) [valX])
  have x1 : atI (xs.map prD) (i : Int) = some (prD (b, c)) := atI_of (by omega) (by rw [List.getElem?_map, Int.toNat_natCast, hx]; rfl)
  have p1 : ∀ v, putDX (.ref k) (.int b) v S = some (S.set k (.dK (putX kvs (.inl b) v))) := fun v => putDX_eq hk rfl hz
  have key : ∀ o4 : Option D, (xSeq (xIfS (xB (xOp oEqS (xVar 4) (xC (.int 1)))) (xDPut (xDGet (xVar 0) (xC (.str "kept"))) (xOp oIxT (xVar 3) (xC (.int 0))) (xOp oIxT (xVar 3) (xC (.int 1)))) xNext)
      (xIfS (xB (xOp oEqS (xVar 4) (xC (.int 2)))) (xDPut (xDGet (xVar 0) (xC (.str "kept"))) (xOp oIxT (xVar 3) (xC (.int 0))) (xC .non)) xNext)) [some (.ref t), some (.ref l), some (.int (i : Int)), some (prD (b, c)), some (.int f)] S =
      .nx [some (.ref t), some (.ref l), some (.int (i : Int)), some (prD (b, c)), some (.int f)] (if f = 1 ∨ f = 2 then S.set k (.dK (stK kvs ((b, c), f))) else S) := fun o4 => by
    by_cases h1 : f = 1
    · subst h1
      simp (decide := true) [xSeq, xIfS, xB, xVar, xC, xOp, xDPut, xDGet, e3, prD, oIxT, atI, ixN, p1, stK, xNext, toS, R.bind, R.bindS, RS.seq, asB_bl]
    · by_cases h2 : f = 2
      · subst h2
        simp (decide := true) [xSeq, xIfS, xB, xVar, xC, xOp, xDPut, xDGet, e3, prD, oIxT, atI, ixN, p1, stK, xNext, toS, R.bind, R.bindS, RS.seq, asB_bl]
      · simp (decide := true) [xSeq, xIfS, xB, xVar, xC, xOp, h1, h2, xNext, toS, R.bind, R.bindS, RS.seq, asB_bl]
  rcases hf with hf | ⟨hf, rfl⟩
  · have lf := (List.getElem?_eq_some_iff.mp hf).1
    have x2 : atI (fs.map D.int) (i : Int) = some (.int f) := atI_of (by omega) (by rw [List.getElem?_map, Int.toNat_natCast, hf]; rfl)
    have q := key none
    rw [f_l_device_failure_b1]
    simp (decide := true) [xSeq, xAsg, gNameX, xIfS, xB, xVar, xC, xOp, xCB, bLen, itemsOf, hl, xCons, xNil, xDGet, e4, oIxL, ra, x1, x2, oI_int, lf, xNext, toS, R.bind, R.bindS, RS.seq, asB_bl] at q ⊢
    exact q
  · have q := key none
    have lf : ¬ i < fs.length := by omega
    rw [f_l_device_failure_b1]
    simp (decide := true) [xSeq, xAsg, gNameX, xIfS, xB, xVar, xC, xOp, xCB, bLen, itemsOf, hl, xCons, xNil, xDGet, e4, oIxL, ra, x1, oI_int, lf, xNext, toS, R.bind, R.bindS, RS.seq, asB_bl] at q ⊢
theorem kpt_len : ∀ {zs : Zs} {kvs : List (Key × D)}, (kpt kvs zs).length ≤ kvs.length + zs.length
  | [], _ => Nat.le_refl _
  | z :: r, kvs => by
    show (kpt (stK kvs z) r).length ≤ _
    have h1 := kpt_len (zs := r) (kvs := stK kvs z)
    have h2 : (stK kvs z).length ≤ kvs.length + 1 := by
      unfold stK
      split
      · exact putX_len
      · split
        · exact putX_len
        · omega
    rw [List.length_cons]
    omega
theorem failure_ok {S : Sto} {t k a n l : Nat} {kvs : List (Key × D)} {xs : Wr} {fs : List Int} (ht : at_ S t = some (plO n k a)) (hk : at_ S k = some (.dK kvs)) (ha : at_ S a = some (.lst (xs.map prD))) (hl : rdL S l = some (fs.map .int))
    (n1 : t ≠ k) (n2 : a ≠ k) (n3 : l ≠ k) (hz : kvs.length + xs.length < 100000) :
    ∃ S', f_l_device_failure [.ref t, .ref l] S = .ok .non S' ∧ FrO [t, k] S S' ∧ at_ S' t = some (plO n k S.length) ∧ at_ S' k = some (.dK (kpt kvs (xs.zip fs))) ∧ at_ S' S.length = some (.lst []) := by
  have ra := rdL_lst ha
  obtain ⟨e', S1, h1, ⟨o2, o3, o4, rfl⟩, h3, h4, h5⟩ := loop_all (ok := fun _ => True) (fg := gNameX 2) (fb := f_l_device_failure_b1) (items := rngD 0 xs.length) (env := [some (.ref t), some (.ref l), none, none, none]) (S := S)
    (fun i e S' => (∃ o2 o3 o4, e = [some (.ref t), some (.ref l), o2, o3, o4]) ∧ at_ S' k = some (.dK (kpt kvs ((xs.zip fs).take i))) ∧ FrO [k] S S' ∧ S'.length = S.length)
    (fun _ _ _ _ _ => trivial) (fun i x e S1 hx1 ⟨⟨o2, o3, o4, he⟩, g1, g2, g3⟩ => by
      subst he
      obtain ⟨hi, rfl⟩ := rngD_get hx1
      rw [Int.zero_add]
      obtain ⟨⟨b, c⟩, hb⟩ : ∃ y, xs[i]? = some y := ⟨_, List.getElem?_eq_getElem hi⟩
      have hlen : (kpt kvs ((xs.zip fs).take i)).length < 100000 := by
        have := kpt_len (zs := (xs.zip fs).take i) (kvs := kvs)
        rw [List.length_take] at this
        omega
      by_cases hf : i < fs.length
      · obtain ⟨f, hff⟩ : ∃ f, fs[i]? = some f := ⟨_, List.getElem?_eq_getElem hf⟩
        have hzz : (xs.zip fs)[i]? = some ((b, c), f) := by
          rw [List.getElem?_zip_eq_some]
          exact ⟨hb, hff⟩
        refine ⟨_, _, rfl, _, _, .inl (failure_turn (g2.get ht (by simp [n1])) g1 (g2.get ha (by simp [n2])) (g2.rd hl (by simp [n3])) hb (.inl hff) hlen), ⟨_, _, _, rfl⟩, ?_⟩
        rw [kpt_take hzz]
        split
        · exact ⟨by rw [at_set_eq (at_lt g1)], g2.trans (FrO.set (by simp)), by rw [List.length_set, g3]⟩
        · rename_i hn
          have : stK (kpt kvs ((xs.zip fs).take i)) ((b, c), f) = kpt kvs ((xs.zip fs).take i) := by
            unfold stK
            rw [if_neg (fun z => hn (.inl z)), if_neg (fun z => hn (.inr z))]
          rw [this]
          exact ⟨g1, g2, g3⟩
      · refine ⟨_, _, rfl, _, _, .inl (failure_turn (g2.get ht (by simp [n1])) g1 (g2.get ha (by simp [n2])) (g2.rd hl (by simp [n3])) hb (.inr ⟨by omega, rfl⟩) hlen), ⟨_, _, _, rfl⟩, ?_⟩
        rw [if_neg (by decide)]
        have hzl : (xs.zip fs).length ≤ i := by rw [List.length_zip]; omega
        rw [List.take_of_length_le hzl] at g1
        rw [List.take_of_length_le (Nat.le_succ_of_le hzl)]
        exact ⟨g1, g2, g3⟩)
    ⟨⟨none, none, none, rfl⟩, hk, FrO.refl, rfl⟩
  rw [rngD_len] at h3
  rw [List.take_of_length_le (by rw [List.length_zip]; omega)] at h3
  have ht1 := h4.get ht (by simp [n1])
  unfold plO at ht ht1
  have e4 : oDGet (.ref t) (.str "wait") S = .ok (.ref a) S := oDGet_eq ht rfl (by simp (decide := true) [valX])
  have lt := at_lt ht1
  have hr : RngOk (xs.length : Int) := rngOk (by omega)
  have p1 : putDX (.ref t) (.str "wait") (.ref S1.length) (S1 ++ [O.lst []]) = some ((S1 ++ [O.lst []]).set t (plO n k S1.length)) := by
    rw [putDX_eq (at_app ht1) rfl (by simp)]
    simp (decide := true) [putX, plO]
  rw [f_l_device_failure_eq]
  simp (decide := true) [defX, xSeq, f_l_device_failure_l1, xFor, iR1, xCons, xNil, xCB, bLen, itemsOf, xDGet, xOp, xVar, xC, e4, ra, hr, h1, finX, xDPut, xLst, p1, toS, R.bind, R.bindS, RS.seq]
  have hm : t ∈ [t, k] := List.mem_cons_self
  have m1 : ¬ t = S1.length := by omega
  have m2 : ¬ t = k := n1
  have lk := at_lt h3
  have k1 : at_ S1 k = S1[k]? := rfl
  rw [k1] at h3
  have h3' := (List.getElem?_eq_some_iff.mp h3).2
  rw [← h5]
  refine ⟨FrO.trans (h4.mono (by simp)) ?_, ?_, ?_, ?_⟩
  · rw [List.set_append_left _ _ lt]
    exact FrO.trans (FrO.set hm) FrO.app
  · simp [at_set, at_, List.getElem?_append, m1, lt]
  · simp [at_set, at_, List.getElem?_append, m1, m2, lk, h3']
  · simp [at_set, at_, List.getElem?_append, m1]
end

section
open Mi
theorem DDs.ints {S : Sto} : ∀ as : List Int, DDs S (as.map .int) (as.map PyData.int)
  | [] => .nil
  | i :: r => .cons (.int i) (DDs.ints r)
theorem same_ints {S : Sto} {l m : Nat} {as : List Int} (h : rdL S l = some (as.map .int)) (g : rdL S m = some (as.map .int)) (hz : as.length ≤ 40000) : fSame 8 [.ref l, .ref m] S = .ok (.bl true) S :=
  fSame_refl (.lst h (DDs.ints as)) (.lst g (DDs.ints as)) ((dn_ints hz).le (by decide))
theorem same_good {S : Sto} {c : D} (h : Good c) : fSame 8 [c, c] S = .ok (.bl true) S := by
  obtain ⟨p, h1, h2⟩ := h
  exact fSame_refl (h1 S) (h1 S) (h2.le (by decide))
/-! ### the two sides together -/
structure Pl where
  d : Nat
  p : Nat
  q : Nat
  w : Nat
  t : Nat
  k : Nat
  a : Nat
def Pl.own (l : Pl) : List Nat := [l.d, l.p, l.q, l.w, l.t, l.k, l.a]
structure Inv (n : Nat) (S : Sto) (l : Pl) (perm : List D) (xs : Wr) (kvs : List (Key × D)) : Prop where
  d : at_ S l.d = some (devO n l.p l.q l.w)
  p : at_ S l.p = some (.lst perm)
  q : at_ S l.q = some (.lst (lat perm xs))
  w : at_ S l.w = some (.lst (xs.map prD))
  t : at_ S l.t = some (plO n l.k l.a)
  k : at_ S l.k = some (.dK kvs)
  a : at_ S l.a = some (.lst (xs.map prD))
  nd : l.own.Nodup
  n0 : 2 ≤ n
  n1 : n ≤ 600
  pl : perm.length = n
  xo : ∀ x ∈ xs, 0 ≤ x.1 ∧ x.1 < n ∧ Good x.2
  ko : ∀ kv ∈ kvs, ∃ b : Int, kv.1 = .inl b ∧ 0 ≤ b ∧ b < n
  po : ∀ b : Int, 0 ≤ b → b < n → perm[b.toNat]? = some (kv0 kvs b) ∧ Good (kv0 kvs b)
  xz : xs.length ≤ 1000
  kz : kvs.length ≤ 10000
theorem Inv.fr {n : Nat} {S S' : Sto} {l : Pl} {perm : List D} {xs : Wr} {kvs : List (Key × D)} {P : List Nat} (h : Inv n S l perm xs kvs) (f : FrO P S S') (hd : ∀ i ∈ l.own, i ∉ P) : Inv n S' l perm xs kvs :=
  ⟨f.get h.d (hd _ (by simp [Pl.own])), f.get h.p (hd _ (by simp [Pl.own])), f.get h.q (hd _ (by simp [Pl.own])), f.get h.w (hd _ (by simp [Pl.own])), f.get h.t (hd _ (by simp [Pl.own])), f.get h.k (hd _ (by simp [Pl.own])), f.get h.a (hd _ (by simp [Pl.own])), h.nd, h.n0, h.n1, h.pl, h.xo, h.ko, h.po, h.xz, h.kz⟩
theorem Inv.app {n : Nat} {S T : Sto} {l : Pl} {perm : List D} {xs : Wr} {kvs : List (Key × D)} (h : Inv n S l perm xs kvs) : Inv n (S ++ T) l perm xs kvs := h.fr (P := []) FrO.app (by simp)
theorem Inv.read {n : Nat} {S : Sto} {l : Pl} {perm : List D} {xs : Wr} {kvs : List (Key × D)} (h : Inv n S l perm xs kvs) {b : Int} (h0 : 0 ≤ b) (h1 : b < n) :
    f_Device_read [.ref l.d, .int b] S = .ok (dueW b (kv0 kvs b) xs) S ∧ f_l_device_due [.ref l.t, .int b] S = .ok (dueW b (kv0 kvs b) xs) S ∧ Good (dueW b (kv0 kvs b) xs) := by
  refine ⟨read_ok h.d h.q ⟨h0, h1⟩ h.n1 (by rw [lat_len, h.pl]) (lat_at h0 (fun x hx => ?_) (h.po b h0 h1).1), due_ok h.t h.k h.a, due_good (h.po b h0 h1).2 fun x hx => (h.xo x hx).2.2⟩
  rw [h.pl]
  exact ⟨(h.xo x hx).1, (h.xo x hx).2.1⟩
theorem count_get {S : Sto} {t n k a : Nat} (h : at_ S t = some (plO n k a)) : oDGet (.ref t) (.str "count") S = .ok (.int n) S ∧ oDGet (.ref t) (.str "kept") S = .ok (.ref k) S ∧ oDGet (.ref t) (.str "wait") S = .ok (.ref a) S := by
  unfold plO at h
  exact ⟨oDGet_eq h rfl (by simp (decide := true) [valX]), oDGet_eq h rfl (by simp (decide := true) [valX]), oDGet_eq h rfl (by simp (decide := true) [valX])⟩
def fsts (xs : Wr) : List Int := xs.map Prod.fst
theorem fsts_len {xs : Wr} : (fsts xs).length = xs.length := by simp [fsts]
theorem firsts_ok {S : Sto} {t n k a : Nat} {xs : Wr} {o0 o2 o3 o4 o5 o6 o7 : Option D} (ht : at_ S t = some (plO n k a)) (ha : at_ S a = some (.lst (xs.map prD))) (hz : xs.length ≤ 1000) :
    f_l_device_holds_c1 [o0, some (.ref t), o2, o3, o4, o5, o6, o7] S = .ok (.ref S.length) (S ++ [.lst ((fsts xs).map .int)]) := by
  have ra := rdL_lst ha
  simp (decide := true) [f_l_device_holds_c1, xLc, iL, xDGet, xOp, xVar, xC, (count_get ht).2.2, ra, R.bind]
  rw [lc_map (fun x => match x with | .tup [a, _] => a | _ => .non)]
  · simp [List.map_map, Function.comp_def, prD, fsts]
  · exact fun acc => rdL_app ra
  · intro x hx acc
    obtain ⟨y, _, rfl⟩ := List.mem_map.mp hx
    simp (decide := true) [xTryAs0, xTryOnly0, xLRg1, xLRg2, xTryAs, xTryOnly, xErrF, xIsE, xRaise, RS.unset, RS.noexc, defX, xSeq, xNext, xAsg, gNameX, gConsX, gNilX, gTupX, gSubX, xVar, xC, xOp, xUn, oI_int, oNeg_int, xB, asB_bl, xIfS, xRet, xRetN, xDrop, xBreak, xCont, xCons, xNil, xTup, xLst, xCB, xCall, xCallX, xAnd, xOr, xNot, xAndV, xOrV, xNotV, xIf, xYes, xTru, truD, xIsN, xNotN, nonD, xFld, xSetF, xAugF, xMeth, xMethX, xMake, xBM, xDGet, xDPut, xDIn, xDNew, xPart, xNoPart, xSl, nox_ok, toS_ok, finX, R.bind, R.bindS, RS.seq, RS.turn, R.bindE, xFor, xForE, iR1, iR2, iL, iT, iE, iZ, xLc, xAug, xAssert, str_beq, at_set, insX, setFX, putFX, setLX, putDX, getDX, oDGet, oDIn, putX, valX, keyD_int, keyD_str, List.lookup, oInSet, xDisp, xPCons, xPNil, keysX, mergeX, rdL_app_ge, rdL_app_self, rdL_zero, rdL_succ, at_app_ge, at_app_self, at_zero, at_succ, prD, itemsOf, wipeE, oIxT, atI, ixN]
  · simp; omega
theorem firsts2 : f_l_device_holds_c2 = f_l_device_holds_c1 := rfl
theorem holds_turn {n : Nat} {S : Sto} {l : Pl} {perm : List D} {xs : Wr} {kvs : List (Key × D)} (h : Inv n S l perm xs kvs) {U : Nat} (hU : rdL S U = some ((fsts xs).map .int)) {o2 o3 o5 o6 o7 : Option D} :
    ∃ S', f_l_device_holds_b1 [some (.ref l.d), some (.ref l.t), o2, o3, some (.ref U), o5, o6, o7] S = .nx [some (.ref l.d), some (.ref l.t), o2, o3, some (.ref U), o5, some (.ref S.length), o7] S' ∧ FrO [] S S' := by
  have hp := pending_ok h.d h.w (by have := h.xz; omega)
  have e : (xs.map fun x => D.int x.1) = (fsts xs).map .int := by rw [fsts, List.map_map] <;> rfl
  rw [e] at hp
  have hd := h.d
  unfold devO at hd
  have hs := same_ints (S := S ++ [.lst ((fsts xs).map .int)]) (l := S.length) (m := U) (as := fsts xs) rdL_new (rdL_app hU) (by rw [fsts_len]; have := h.xz; omega)
  refine ⟨S ++ [.lst ((fsts xs).map .int ++ [.int 0])], ?_, FrO.app⟩
  have hl : (fsts xs).length < 100000 := by rw [fsts_len]; have := h.xz; omega
  simp (decide := true) [f_l_device_holds_b1, xTryAs0, xTryOnly0, xLRg1, xLRg2, xTryAs, xTryOnly, xErrF, xIsE, xRaise, RS.unset, RS.noexc, defX, xSeq, xNext, xAsg, gNameX, gConsX, gNilX, gTupX, gSubX, xVar, xC, xOp, xUn, oI_int, oNeg_int, xB, asB_bl, xIfS, xRet, xRetN, xDrop, xBreak, xCont, xCons, xNil, xTup, xLst, xCB, xCall, xCallX, xAnd, xOr, xNot, xAndV, xOrV, xNotV, xIf, xYes, xTru, truD, xIsN, xNotN, nonD, xFld, xSetF, xAugF, xMeth, xMethX, xMake, xBM, xDGet, xDPut, xDIn, xDNew, xPart, xNoPart, xSl, nox_ok, toS_ok, finX, R.bind, R.bindS, RS.seq, RS.turn, R.bindE, xFor, xForE, iR1, iR2, iL, iT, iE, iZ, xLc, xAug, xAssert, str_beq, at_set, insX, setFX, putFX, setLX, putDX, getDX, oDGet, oDIn, putX, valX, keyD_int, keyD_str, List.lookup, oInSet, xDisp, xPCons, xPNil, keysX, mergeX, rdL_app_ge, rdL_app_self, rdL_zero, rdL_succ, at_app_ge, at_app_self, at_zero, at_succ, hd, hp, hs, isLst, mL, gAppend, hl]
theorem xSeq_assoc {a b c : Mi.Env → Mi.Sto → Mi.RS} : xSeq a (xSeq b c) = xSeq (xSeq a b) c := by
  funext env S
  unfold xSeq
  cases a env S <;> rfl
/-- what is looked at -/
theorem keys_int {n : Nat} : ∀ {kvs : List (Key × D)}, (∀ kv ∈ kvs, ∃ b : Int, kv.1 = .inl b ∧ 0 ≤ b ∧ b < n) → ∃ bs : List Int, (kvs.map fun kv => keyOf kv.1) = bs.map .int ∧ (∀ b ∈ bs, 0 ≤ b ∧ b < n) ∧ bs.length = kvs.length
  | [], _ => ⟨[], rfl, by simp, rfl⟩
  | kv :: r, h => by
    obtain ⟨bs, h1, h2, h3⟩ := keys_int fun kv' hk => h kv' (List.mem_cons_of_mem _ hk)
    obtain ⟨b, e, h4⟩ := h kv List.mem_cons_self
    refine ⟨b :: bs, ?_, ?_, by simp [h3]⟩
    · rw [List.map_cons, List.map_cons, h1, e]
      rfl
    · intro z hz
      rcases List.mem_cons.mp hz with rfl | hz
      · exact h4
      · exact h2 z hz
theorem looked_ok {n : Nat} {S : Sto} {l : Pl} {perm : List D} {xs : Wr} {kvs : List (Key × D)} (h : Inv n S l perm xs kvs) :
    ∃ (L : Nat) (bs : List Int) (S' : Sto), (xSeq (xAsg (xOp oCat (xOp oCat (xLst (xCons (xC (.int 0)) (xCons (xC (.int 1)) (xCons (xOp (oI fun i j => .int (i - j)) (xDGet (xVar 1) (xC (.str "count"))) (xC (.int 1))) xNil)))) (xCB bListD (xCons (xDGet (xVar 1) (xC (.str "kept"))) xNil))) f_l_device_holds_c1) (gNameX 2))
      (xIfS (xB (xOp (oI fun i j => .bl (decide (i < j))) (xDGet (xVar 1) (xC (.str "count"))) (xC (.int 10)))) (xAsg (xLRg1 (xDGet (xVar 1) (xC (.str "count")))) (gNameX 2)) xNext)) [some (.ref l.d), some (.ref l.t), none, none, none, none, none, none] S =
      .nx [some (.ref l.d), some (.ref l.t), some (.ref L), none, none, none, none, none] S' ∧ FrO [] S S' ∧ rdL S' L = some (bs.map .int) ∧ (∀ b ∈ bs, 0 ≤ b ∧ b < n) ∧ bs.length ≤ 20000 := by
  obtain ⟨ks, k1, k2, k3⟩ := keys_int h.ko
  have kz := h.kz
  have xz := h.xz
  have n0 := h.n0
  have n1 := h.n1
  obtain ⟨c1, c2, c3⟩ := count_get (h.app (T := [.lst ([0, 1, (n : Int) - 1].map D.int)])).t
  have b1 : bListD [.ref l.k] (S ++ [.lst ([0, 1, (n : Int) - 1].map D.int)]) = .ok (.ref (S.length + 1)) (S ++ [.lst ([0, 1, (n : Int) - 1].map D.int), .lst (ks.map .int)]) := by
    rw [bListD_eq (h.app).k, k1]
    simp
  have b2 : oCat (.ref S.length) (.ref (S.length + 1)) (S ++ [.lst ([0, 1, (n : Int) - 1].map D.int), .lst (ks.map .int)]) = .ok (.ref (S.length + 2)) (S ++ [.lst ([0, 1, (n : Int) - 1].map D.int), .lst (ks.map .int), .lst (([0, 1, (n : Int) - 1] ++ ks).map D.int)]) := by
    rw [oCat_eq (xs := [0, 1, (n : Int) - 1].map D.int) (ys := ks.map D.int) at_new (by rw [at_app_ge]; rfl) (by simp; omega)]
    simp
  have b3 := firsts_ok (o0 := some (.ref l.d)) (o2 := none) (o3 := none) (o4 := none) (o5 := none) (o6 := none) (o7 := none) (h.app (T := [.lst ([0, 1, (n : Int) - 1].map D.int), .lst (ks.map .int), .lst (([0, 1, (n : Int) - 1] ++ ks).map D.int)])).t (h.app).a xz
  have b4 : oCat (.ref (S.length + 2)) (.ref (S.length + 3)) (S ++ [.lst ([0, 1, (n : Int) - 1].map D.int), .lst (ks.map .int), .lst (([0, 1, (n : Int) - 1] ++ ks).map D.int), .lst ((fsts xs).map .int)]) =
      .ok (.ref (S.length + 4)) (S ++ [.lst ([0, 1, (n : Int) - 1].map D.int), .lst (ks.map .int), .lst (([0, 1, (n : Int) - 1] ++ ks).map D.int), .lst ((fsts xs).map .int), .lst (([0, 1, (n : Int) - 1] ++ ks ++ fsts xs).map D.int)]) := by
    rw [oCat_eq (xs := ([0, 1, (n : Int) - 1] ++ ks).map D.int) (ys := (fsts xs).map D.int) (by rw [at_app_ge]; rfl) (by rw [at_app_ge]; rfl) (by simp [fsts_len]; omega)]
    simp
  obtain ⟨d1, _, _⟩ := count_get h.t
  have hb : ∀ z ∈ [0, 1, (n : Int) - 1] ++ ks ++ fsts xs, 0 ≤ z ∧ z < n := by
    intro z hz
    rcases List.mem_append.mp hz with hz | hz
    · rcases List.mem_append.mp hz with hz | hz
      · simp at hz
        omega
      · exact k2 z hz
    · obtain ⟨x, hx, rfl⟩ := List.mem_map.mp hz
      exact ⟨(h.xo x hx).1, (h.xo x hx).2.1⟩
  have hl : ([0, 1, (n : Int) - 1] ++ ks ++ fsts xs).length ≤ 20000 := by simp [fsts_len]; omega
  have b3' : f_l_device_holds_c1 [some (.ref l.d), some (.ref l.t), none, none, none, none, none, none] (S ++ [.lst ([0, 1, (n : Int) - 1].map D.int), .lst (ks.map .int), .lst (([0, 1, (n : Int) - 1] ++ ks).map D.int)]) = .ok (.ref (S.length + 3)) (S ++ [.lst ([0, 1, (n : Int) - 1].map D.int), .lst (ks.map .int), .lst (([0, 1, (n : Int) - 1] ++ ks).map D.int), .lst ((fsts xs).map .int)]) := by
    rw [b3]
    simp
  generalize [0, 1, (n : Int) - 1] ++ ks ++ fsts xs = zs at hb hl b4
  generalize (([0, 1, (n : Int) - 1] ++ ks).map D.int) = C at b2 b3' b4
  generalize hA : [0, 1, (n : Int) - 1].map D.int = A at b1 b2 b3' b4 c2
  generalize ks.map D.int = B at b1 b2 b3' b4
  generalize (fsts xs).map D.int = F at b3' b4
  have hA' : [D.int 0, D.int 1, D.int ((n : Int) - 1)] = A := hA
  have e1 : (xOp oCat (xOp oCat (xLst (xCons (xC (.int 0)) (xCons (xC (.int 1)) (xCons (xOp (oI fun i j => .int (i - j)) (xDGet (xVar 1) (xC (.str "count"))) (xC (.int 1))) xNil)))) (xCB bListD (xCons (xDGet (xVar 1) (xC (.str "kept"))) xNil))) f_l_device_holds_c1) [some (.ref l.d), some (.ref l.t), none, none, none, none, none, none] S = .ok (.ref (S.length + 4)) (S ++ [.lst A, .lst B, .lst C, .lst F, .lst (zs.map .int)]) := by
    have hAl : A.length ≤ 100000 := by rw [← hA]; simp
    simp (decide := true) [xOp, xLst, xCons, xC, xVar, xNil, xDGet, xCB, R.bind, d1, oI_int, hA', hAl, c2, b1, b2, b3', b4]
  have d5 := (count_get (h.app (T := [.lst A, .lst B, .lst C, .lst F, .lst (zs.map .int)])).t).1
  have r5 : rdL (S ++ [.lst A, .lst B, .lst C, .lst F, .lst (zs.map .int)]) (S.length + 4) = some (zs.map .int) := by rw [rdL_app_ge]; rfl
  have l5 : (S ++ [O.lst A, .lst B, .lst C, .lst F, .lst (zs.map .int)]).length = S.length + 5 := by simp
  generalize hS5 : S ++ [O.lst A, .lst B, .lst C, .lst F, .lst (zs.map .int)] = S5 at e1 d5 r5 l5
  have f5 : FrO [] S S5 := by rw [← hS5]; exact FrO.app
  generalize (xOp oCat (xOp oCat (xLst (xCons (xC (.int 0)) (xCons (xC (.int 1)) (xCons (xOp (oI fun i j => .int (i - j)) (xDGet (xVar 1) (xC (.str "count"))) (xC (.int 1))) xNil)))) (xCB bListD (xCons (xDGet (xVar 1) (xC (.str "kept"))) xNil))) f_l_device_holds_c1) = EX at e1 ⊢
  by_cases h10 : (n : Int) < 10
  · have ok : RgOk 0 n := RgOk.of_le (by omega) (by omega) (by omega) (by omega)
    refine ⟨S5.length, (List.range n).map Int.ofNat, S5 ++ [.lst (rngD 0 n)], ?_, f5.trans FrO.app, ?_, ?_, by simp; omega⟩
    · simp (decide := true) [xSeq, xAsg, e1, gNameX, xIfS, xB, xOp, xDGet, xVar, xC, d5, oI_int, asB_bl, h10, xLRg1, mkRg_eq ok, R.bind, R.bindS, RS.seq, toS]
    · rw [rdL_new]
      simp [rngD, List.map_map, Function.comp_def]
    · intro b hb
      obtain ⟨i, hi, rfl⟩ := List.mem_map.mp hb
      have := List.mem_range.mp hi
      rw [Int.ofNat_eq_natCast]
      omega
  · refine ⟨S.length + 4, zs, S5, ?_, f5, r5, hb, hl⟩
    simp (decide := true) [xSeq, xAsg, e1, gNameX, xIfS, xB, xOp, xDGet, xVar, xC, d5, oI_int, asB_bl, h10, xNext, R.bind, R.bindS, RS.seq, toS]
theorem holds_ok {n : Nat} {S : Sto} {l : Pl} {perm : List D} {xs : Wr} {kvs : List (Key × D)} (h : Inv n S l perm xs kvs) : ∃ S', f_l_device_holds [.ref l.d, .ref l.t] S = .ok (.bl true) S' ∧ FrO [] S S' := by
  obtain ⟨L, bs, S1, e1, f1, r1, hb, hl⟩ := looked_ok h
  have h1 := h.fr f1 (by simp)
  have b3 := firsts_ok (o0 := some (.ref l.d)) (o2 := some (.ref L)) (o3 := none) (o4 := none) (o5 := none) (o6 := none) (o7 := none) h1.t h1.a h.xz
  have h2 := h1.app (T := [.lst ((fsts xs).map .int)])
  obtain ⟨e', S3, h3, ⟨o5, o6, rfl⟩, f3⟩ := loop_all (ok := fun _ => True) (fg := gNameX 5) (fb := f_l_device_holds_b1) (items := rngD 0 2) (env := [some (.ref l.d), some (.ref l.t), some (.ref L), none, some (.ref S1.length), none, none, none]) (S := S1 ++ [.lst ((fsts xs).map .int)])
    (fun i e S' => (∃ o5 o6, e = [some (.ref l.d), some (.ref l.t), some (.ref L), none, some (.ref S1.length), o5, o6, none]) ∧ FrO [] (S1 ++ [.lst ((fsts xs).map .int)]) S') (fun _ _ _ _ _ => trivial) (fun i x e S' hx ⟨⟨o5, o6, he⟩, g⟩ => by
      subst he
      obtain ⟨S2, q1, q2⟩ := holds_turn (h2.fr g (by simp)) (U := S1.length) (g.rd rdL_new (by simp)) (o2 := some (.ref L)) (o3 := none) (o5 := some x) (o6 := o6) (o7 := none)
      exact ⟨_, _, rfl, _, _, .inl q1, ⟨_, _, rfl⟩, g.trans q2⟩)
    ⟨⟨none, none, rfl⟩, FrO.refl⟩
  have h4 := h2.fr f3 (by simp)
  have r4 : rdL S3 L = some (bs.map .int) := f3.rd (rdL_app r1) (by simp)
  have e4 : f_l_device_holds_c3 [some (.ref l.d), some (.ref l.t), some (.ref L), none, some (.ref S1.length), o5, o6, none] S3 = .ok (.ref S3.length) (S3 ++ [.lst []]) := by
    simp (decide := true) [f_l_device_holds_c3, xLc, iL, xVar, r4, R.bind]
    rw [lc_pure (fun _ => none) (bs.map .int) []]
    · simp
    · exact fun acc => rdL_app r4
    · intro x hx acc
      obtain ⟨b, hbm, rfl⟩ := List.mem_map.mp hx
      obtain ⟨b0, b1⟩ := hb b hbm
      obtain ⟨q1, q2, q3⟩ := (h4.app (T := [.lst acc])).read b0 b1
      have q4 := same_good (S := S3 ++ [.lst acc]) q3
      have hd := (h4.app (T := [.lst acc])).d
      unfold devO at hd
      refine ⟨_, rfl, ?_⟩
      simp (decide := true) [xTryAs0, xTryOnly0, xLRg1, xLRg2, xTryAs, xTryOnly, xErrF, xIsE, xRaise, RS.unset, RS.noexc, defX, xSeq, xNext, xAsg, gNameX, gConsX, gNilX, gTupX, gSubX, xVar, xC, xOp, xUn, oI_int, oNeg_int, xB, asB_bl, xIfS, xRet, xRetN, xDrop, xBreak, xCont, xCons, xNil, xTup, xLst, xCB, xCall, xCallX, xAnd, xOr, xNot, xAndV, xOrV, xNotV, xIf, xYes, xTru, truD, xIsN, xNotN, nonD, xFld, xSetF, xAugF, xMeth, xMethX, xMake, xBM, xDGet, xDPut, xDIn, xDNew, xPart, xNoPart, xSl, nox_ok, toS_ok, finX, R.bind, R.bindS, RS.seq, RS.turn, R.bindE, xFor, xForE, iR1, iR2, iL, iT, iE, iZ, xLc, xAug, xAssert, str_beq, at_set, insX, setFX, putFX, setLX, putDX, getDX, oDGet, oDIn, putX, valX, keyD_int, keyD_str, List.lookup, oInSet, xDisp, xPCons, xPNil, keysX, mergeX, rdL_app_ge, rdL_app_self, rdL_zero, rdL_succ, at_app_ge, at_app_self, at_zero, at_succ, wipeE, hd, q1, q2, q4]
    · simp; omega
  refine ⟨S3 ++ [.lst []], ?_, (f1.trans FrO.app).trans (f3.trans FrO.app)⟩
  rw [f_l_device_holds_eq, xSeq_assoc]
  generalize (xSeq (xAsg (xOp oCat (xOp oCat (xLst (xCons (xC (.int 0)) (xCons (xC (.int 1)) (xCons (xOp (oI fun i j => .int (i - j)) (xDGet (xVar 1) (xC (.str "count"))) (xC (.int 1))) xNil)))) (xCB bListD (xCons (xDGet (xVar 1) (xC (.str "kept"))) xNil))) f_l_device_holds_c1) (gNameX 2))
      (xIfS (xB (xOp (oI fun i j => .bl (decide (i < j))) (xDGet (xVar 1) (xC (.str "count"))) (xC (.int 10)))) (xAsg (xLRg1 (xDGet (xVar 1) (xC (.str "count")))) (gNameX 2)) xNext)) = G at e1 ⊢
  have hr : RngOk 2 := rngOk (by decide)
  have ls : rdL (S3 ++ [O.lst []]) S3.length = some [] := rdL_new
  simp (decide := true) [defX, xSeq, e1, firsts2, b3, xAsg, gNameX, f_l_device_holds_l1, xFor, iR1, xCons, xNil, xC, hr, h3, finX, xRet, xOp, xCB, e4, bLen, itemsOf, ls, R.bind, R.bindS, RS.seq, toS]
end

section
open Mi
theorem refuses_ok {S : Sto} {d p q w n : Nat} {b : Int} {c : D} (hd : at_ S d = some (devO n p q w)) (hb : b < 0 ∨ (n : Int) ≤ b) (hs : -10000 ≤ b ∧ b ≤ 10000) : ∃ S', f_l_device_refuses [.ref d, .int b, c] S = .ok (.bl true) S' ∧ FrO [] S S' := by
  have q1 := read_no (S := S ++ [O.lst []]) (at_app hd) hb hs
  have q2 := write_no (S := S ++ [O.lst [.tup [.int b, .int (b + 1)]], .opq]) (c := c) (at_app hd) hb hs
  have i1 : insX (S ++ [O.lst []]) "Device" (.ref d) = some (d, ([("blocks", .int n), ("permanent", .ref p), ("latest", .ref q), ("writes", .ref w)] : List (Str × D))) := insX_eq (at_app hd)
  have i2 : insX (S ++ [O.lst [.tup [.int b, .int (b + 1)]], .opq]) "Device" (.ref d) = some (d, ([("blocks", .int n), ("permanent", .ref p), ("latest", .ref q), ("writes", .ref w)] : List (Str × D))) := insX_eq (at_app hd)
  have hdd : ∀ (T : Sto) (m : Nat), at_ T m = some (.lst [.tup [.int b, .int (b + 1)], .tup [.int b, .int (b + 1)]]) → DD T (.ref m) (.list [.tuple [.int b, .int (b + 1)], .tuple [.int b, .int (b + 1)]]) := fun T m h =>
    .lst (rdL_lst h) (.cons (.tup (.cons (.int _) (.cons (.int _) .nil))) (.cons (.tup (.cons (.int _) (.cons (.int _) .nil))) .nil))
  have q3 : fSame 8 [.ref S.length, .ref (S.length + 3)] (S ++ [O.lst [.tup [.int b, .int (b + 1)], .tup [.int b, .int (b + 1)]], .opq, .opq, .lst [.tup [.int b, .int (b + 1)], .tup [.int b, .int (b + 1)]]]) = .ok (.bl true) (S ++ [O.lst [.tup [.int b, .int (b + 1)], .tup [.int b, .int (b + 1)]], .opq, .opq, .lst [.tup [.int b, .int (b + 1)], .tup [.int b, .int (b + 1)]]]) :=
    fSame_refl (hdd _ _ at_new) (hdd _ _ (by rw [at_app_ge]; rfl)) (by simp [Dn])
  refine ⟨_, ?_, FrO.app (T := [O.lst [.tup [.int b, .int (b + 1)], .tup [.int b, .int (b + 1)]], .opq, .opq, .lst [.tup [.int b, .int (b + 1)], .tup [.int b, .int (b + 1)]]])⟩
  rw [f_l_device_refuses_eq]
  simp (decide := true) [f_l_device_refuses_b1, f_l_device_refuses_b2, f_l_device_refuses_s1, f_l_device_refuses_s2, f_l_device_refuses_t1, defX, xSeq, xAsg, gNameX, xLst, xCons, xNil, xTryAs0, xTryAs, xDrop, xMethX, xVar, xC, i1, i2, q1, q2, List.lookup, str_beq, RS.unset, RS.noexc, xBM, isLst, rdL_app_self, rdL_zero, mL, gAppend, at_app_self, at_zero, xTup, xErrF, xIsE, xIfS, xAnd, xNot, xB, asB_bl, xNext, xRet, xCall, q3, oI_int, xOp, nox_ok, R.bind, R.bindS, RS.seq, toS]
end

section
open Mi
theorem Inv.ne {n : Nat} {S : Sto} {l : Pl} {perm : List D} {xs : Wr} {kvs : List (Key × D)} (h : Inv n S l perm xs kvs) : (l.d ≠ l.p ∧ l.d ≠ l.q ∧ l.d ≠ l.w ∧ l.d ≠ l.t ∧ l.d ≠ l.k ∧ l.d ≠ l.a) ∧ (l.p ≠ l.q ∧ l.p ≠ l.w ∧ l.p ≠ l.t ∧ l.p ≠ l.k ∧ l.p ≠ l.a) ∧ (l.q ≠ l.w ∧ l.q ≠ l.t ∧ l.q ≠ l.k ∧ l.q ≠ l.a) ∧ (l.w ≠ l.t ∧ l.w ≠ l.k ∧ l.w ≠ l.a) ∧ (l.t ≠ l.k ∧ l.t ≠ l.a) ∧ l.k ≠ l.a := by
  have nd := h.nd
  simp [Pl.own] at nd
  obtain ⟨h1, h2, h3, h4, h5, h6⟩ := nd
  exact ⟨h1, h2, h3, h4, h5, h6⟩
theorem Inv.lt {n : Nat} {S : Sto} {l : Pl} {perm : List D} {xs : Wr} {kvs : List (Key × D)} (h : Inv n S l perm xs kvs) : l.d < S.length ∧ l.p < S.length ∧ l.q < S.length ∧ l.w < S.length ∧ l.t < S.length ∧ l.k < S.length ∧ l.a < S.length :=
  ⟨at_lt h.d, at_lt h.p, at_lt h.q, at_lt h.w, at_lt h.t, at_lt h.k, at_lt h.a⟩
/-- a write, told to both -/
theorem Inv.write {n : Nat} {S : Sto} {l : Pl} {perm : List D} {xs : Wr} {kvs : List (Key × D)} (h : Inv n S l perm xs kvs) {b : Int} {c : D} (hb : 0 ≤ b ∧ b < n) (hc : Good c) (hz : xs.length < 1000) :
    Inv n (((S.set l.a (.lst (xs.map prD ++ [prD (b, c)]))).set l.w (.lst (xs.map prD ++ [prD (b, c)]))).set l.q (.lst ((lat perm xs).set b.toNat c))) l perm (xs ++ [(b, c)]) kvs := by
  obtain ⟨⟨a1, a2, a3, a4, a5, a6⟩, ⟨b1, b2, b3, b4, b5⟩, ⟨c1, c2, c3, c4⟩, ⟨d1, d2, d3⟩, ⟨e1, e2⟩, f1⟩ := h.ne
  obtain ⟨l1, l2, l3, l4, l5, l6, l7⟩ := h.lt
  have e : (xs ++ [(b, c)]).map prD = xs.map prD ++ [prD (b, c)] := by simp
  refine ⟨?_, ?_, ?_, ?_, ?_, ?_, ?_, h.nd, h.n0, h.n1, h.pl, ?_, h.ko, h.po, by simp; omega, h.kz⟩
  · simp [at_set, a1, a2, a3, a4, a5, a6, Ne.symm a1, Ne.symm a2, Ne.symm a3, Ne.symm a6, h.d]
  · simp [at_set, b1, b2, b5, Ne.symm b1, Ne.symm b2, Ne.symm b5, h.p]
  · rw [lat_app]
    simp [at_set, l3]
  · rw [e]
    simp [at_set, l4, c1]
  · simp [at_set, Ne.symm e2, e2, d1, c2, h.t]
  · simp [at_set, Ne.symm f1, f1, d2, c3, h.k]
  · rw [e]
    simp [at_set, l7, c4, d3, Ne.symm c4, Ne.symm d3]
  · intro x hx
    rcases List.mem_append.mp hx with hx | hx
    · exact h.xo x hx
    · have : x = (b, c) := by simpa using hx
      rw [this]
      exact ⟨hb.1, hb.2, hc⟩
/-- what a failure leaves -/
theorem fail_po {n : Nat} : ∀ {zs : Zs} {perm : List D} {kvs : List (Key × D)}, perm.length = n → (∀ z ∈ zs, 0 ≤ z.1.1 ∧ z.1.1 < n ∧ Good z.1.2) → (∀ b : Int, 0 ≤ b → b < n → perm[b.toNat]? = some (kv0 kvs b) ∧ Good (kv0 kvs b)) →
    ∀ b : Int, 0 ≤ b → b < n → (crs perm zs)[b.toNat]? = some (kv0 (kpt kvs zs) b) ∧ Good (kv0 (kpt kvs zs) b)
  | [], _, _, _, _, h => h
  | z :: r, perm, kvs, hl, hz, h => by
    have step : ∀ c : D, Good c → ∀ b : Int, 0 ≤ b → b < n → (perm.set z.1.1.toNat c)[b.toNat]? = some (kv0 (putX kvs (.inl z.1.1) c) b) ∧ Good (kv0 (putX kvs (.inl z.1.1) c) b) := fun c hc b h0 h1 => by
      have hz0 := hz z List.mem_cons_self
      unfold kv0
      rw [valX_put]
      by_cases e : z.1.1 = b
      · rw [if_pos (by rw [e]), e, List.getElem?_set_self (by omega)]
        exact ⟨rfl, hc⟩
      · rw [if_neg (by intro q; exact e (Sum.inl.inj q)), List.getElem?_set_ne (by omega)]
        exact h b h0 h1
    show ∀ b : Int, 0 ≤ b → b < n → (crs (stP perm z) r)[b.toNat]? = some (kv0 (kpt (stK kvs z) r) b) ∧ Good (kv0 (kpt (stK kvs z) r) b)
    refine fail_po (by rw [stP_len, hl]) (fun y hy => hz y (List.mem_cons_of_mem _ hy)) ?_
    unfold stP stK
    split
    · exact step _ (hz z List.mem_cons_self).2.2
    · split
      · exact step _ good_non
      · exact h
theorem fail_ko {n : Nat} : ∀ {zs : Zs} {kvs : List (Key × D)}, (∀ z ∈ zs, 0 ≤ z.1.1 ∧ z.1.1 < n) → (∀ kv ∈ kvs, ∃ b : Int, kv.1 = .inl b ∧ 0 ≤ b ∧ b < n) → ∀ kv ∈ kpt kvs zs, ∃ b : Int, kv.1 = .inl b ∧ 0 ≤ b ∧ b < n
  | [], _, _, h => h
  | z :: r, kvs, hz, h => by
    have step : ∀ c : D, ∀ kv ∈ putX kvs (.inl z.1.1) c, ∃ b : Int, kv.1 = .inl b ∧ 0 ≤ b ∧ b < n := fun c kv hk => by
      rcases putX_mem hk with rfl | hk
      · exact ⟨_, rfl, (hz z List.mem_cons_self).1, (hz z List.mem_cons_self).2⟩
      · exact h kv hk
    show ∀ kv ∈ kpt (stK kvs z) r, _
    refine fail_ko (fun y hy => hz y (List.mem_cons_of_mem _ hy)) ?_
    unfold stK
    split
    · exact step _
    · split
      · exact step _
      · exact h
theorem crs_ones : ∀ {xs : Wr} {perm : List D}, crs perm (xs.zip (List.replicate xs.length 1)) = lat perm xs
  | [], _ => rfl
  | x :: r, perm => by
    rw [List.length_cons, List.replicate_succ, List.zip_cons_cons]
    show crs (stP perm (x, 1)) _ = lat (perm.set x.1.toNat x.2) r
    rw [crs_ones]
    rfl
theorem Inv.zs {n : Nat} {S : Sto} {l : Pl} {perm : List D} {xs : Wr} {kvs : List (Key × D)} (h : Inv n S l perm xs kvs) (fs : List Int) : ∀ z ∈ xs.zip fs, 0 ≤ z.1.1 ∧ z.1.1 < n ∧ Good z.1.2 := fun z hz => h.xo _ (List.of_mem_zip (b := z.2) hz).1
/-- both after a failure with these fates; the new places -/
theorem Inv.fail {n : Nat} {S S' : Sto} {l l' : Pl} {perm : List D} {xs : Wr} {kvs : List (Key × D)} (h : Inv n S l perm xs kvs) (fs : List Int) (hd : at_ S' l'.d = some (devO n l'.p l'.q l'.w)) (hp : at_ S' l'.p = some (.lst (crs perm (xs.zip fs)))) (hq : at_ S' l'.q = some (.lst (crs perm (xs.zip fs)))) (hw : at_ S' l'.w = some (.lst []))
    (ht : at_ S' l'.t = some (plO n l'.k l'.a)) (hk : at_ S' l'.k = some (.dK (kpt kvs (xs.zip fs)))) (ha : at_ S' l'.a = some (.lst [])) (nd : l'.own.Nodup) (hz : kvs.length + xs.length ≤ 10000) : Inv n S' l' (crs perm (xs.zip fs)) [] (kpt kvs (xs.zip fs)) := by
  refine ⟨hd, hp, hq, hw, ht, hk, ha, nd, h.n0, h.n1, by rw [crs_len, h.pl], by simp, fail_ko (fun z hz => ⟨(h.zs fs z hz).1, (h.zs fs z hz).2.1⟩) h.ko, fail_po h.pl (h.zs fs) h.po, by simp, ?_⟩
  have := kpt_len (zs := xs.zip fs) (kvs := kvs)
  rw [List.length_zip] at this
  omega
end

section
open Mi
structure CallOut (n : Nat) (S S' : Sto) (l : Pl) (xs : Wr) (kvs : List (Key × D)) : Prop where
  ex : ∃ l' perm' xs' kvs', Inv n S' l' perm' xs' kvs' ∧ FrO l.own S S' ∧ (∀ i ∈ l'.own, i ∈ l.own ∨ S.length ≤ i) ∧ xs'.length ≤ xs.length + 1 ∧ kvs'.length ≤ kvs.length + xs.length ∧ l'.d = l.d ∧ l'.t = l.t ∧ l'.a < S'.length
theorem call_ok {n : Nat} {S : Sto} {l : Pl} {perm : List D} {xs : Wr} {kvs : List (Key × D)} (h : Inv n S l perm xs kvs) {kd b : Int} {c : D} {F : Nat} {fs : List Int} (hb : -10000 ≤ b ∧ b ≤ 10000) (hc : Good c) (hF : rdL S F = some (fs.map .int)) (nF : F ∉ l.own) (hfz : fs.length ≤ 40000)
    (hz : xs.length < 900) (hkz : kvs.length + xs.length ≤ 9000) : ∃ S', f_l_device_call [.ref l.d, .ref l.t, .int kd, .int b, c, .ref F] S = .ok (.bl true) S' ∧ CallOut n S S' l xs kvs := by
  obtain ⟨⟨a1, a2, a3, a4, a5, a6⟩, ⟨b1, b2, b3, b4, b5⟩, ⟨c1, c2, c3, c4⟩, ⟨d1, d2, d3⟩, ⟨e1, e2⟩, f1⟩ := h.ne
  obtain ⟨l1, l2, l3, l4, l5, l6, l7⟩ := h.lt
  obtain ⟨g1, g2, g3⟩ := count_get h.t
  have hd := h.d
  have nF' : F ≠ l.d ∧ F ≠ l.p ∧ F ≠ l.q ∧ F ≠ l.w ∧ F ≠ l.t ∧ F ≠ l.k ∧ F ≠ l.a := by simpa [Pl.own] using nF
  have lF := rdL_lt hF
  have ins0 : insX S "Device" (.ref l.d) = some (l.d, ([("blocks", .int n), ("permanent", .ref l.p), ("latest", .ref l.q), ("writes", .ref l.w)] : List (Str × D))) := insX_eq hd
  by_cases hA : kd < 8 ∧ (b < 0 ∨ (n : Int) ≤ b)
  · obtain ⟨S', q1, q2⟩ := refuses_ok (c := c) hd hA.2 hb
    have ht : f_l_device_call_t1 [some (.ref l.d), some (.ref l.t), some (.int kd), some (.int b), some c, some (.ref F), none, none] S = .ok true S := by
      rcases hA.2 with hn | hn
      · simp (decide := true) [f_l_device_call_t1, xAnd, xOr, xB, xOp, xVar, xC, oI_int, hA.1, hn, asB_bl, R.bind]
      · by_cases hn0 : b < 0
        · simp (decide := true) [f_l_device_call_t1, xAnd, xOr, xB, xOp, xVar, xC, oI_int, hA.1, hn0, asB_bl, R.bind]
        · simp (decide := true) [f_l_device_call_t1, xAnd, xOr, xB, xOp, xVar, xC, xDGet, g1, oI_int, hA.1, hn, hn0, asB_bl, R.bind]
    refine ⟨S', ?_, ⟨l, perm, xs, kvs, h.fr q2 (by simp), q2.mono (by simp), fun i hi => .inl hi, by omega, by omega, rfl, rfl, Nat.lt_of_lt_of_le l7 q2.le⟩⟩
    rw [f_l_device_call_eq]
    simp (decide := true) [defX, xSeq, xIfS, ht, xRet, xCall, xCons, xNil, xVar, q1, nox_ok, R.bind, R.bindS, RS.seq, toS]
  have ht : f_l_device_call_t1 [some (.ref l.d), some (.ref l.t), some (.int kd), some (.int b), some c, some (.ref F), none, none] S = .ok false S := by
    by_cases h8 : kd < 8
    · have hn0 : ¬ b < 0 := fun z => hA ⟨h8, .inl z⟩
      have hn : ¬ (n : Int) ≤ b := fun z => hA ⟨h8, .inr z⟩
      simp (decide := true) [f_l_device_call_t1, xAnd, xOr, xB, xOp, xVar, xC, xDGet, g1, oI_int, h8, hn, hn0, asB_bl, R.bind]
    · simp (decide := true) [f_l_device_call_t1, xAnd, xOr, xB, xOp, xVar, xC, oI_int, h8, asB_bl, R.bind]
  by_cases h8 : kd < 8
  · have hn : 0 ≤ b ∧ b < n := by omega
    by_cases h6 : kd < 6
    · -- a write
      have hz' : xs.length < 100000 := by omega
      have la := rdL_lst h.a
      have hw := write_ok (S := S.set l.a (.lst (xs.map prD ++ [prD (b, c)]))) (d := l.d) (p := l.p) (q := l.q) (w := l.w) (n := n) (ws := xs.map prD) (ls := lat perm xs) (b := b) (c := c) (by rw [at_set_ne (Ne.symm a6)]; exact hd) (by rw [at_set_ne (Ne.symm d3)]; exact h.w) (by rw [at_set_ne (Ne.symm c4)]; exact h.q) (Ne.symm c1) (Ne.symm a3) hn h.n1 (by rw [lat_len, h.pl]) (by simpa using hz')
      have ins1 : insX (S.set l.a (.lst (xs.map prD ++ [prD (b, c)]))) "Device" (.ref l.d) = some (l.d, ([("blocks", .int n), ("permanent", .ref l.p), ("latest", .ref l.q), ("writes", .ref l.w)] : List (Str × D))) := insX_eq (by rw [at_set_ne (Ne.symm a6)]; exact hd)
      have hp : prD (b, c) = .tup [.int b, c] := rfl
      refine ⟨_, ?_, ⟨l, perm, xs ++ [(b, c)], kvs, h.write hn hc (by omega), ((FrO.set (by simp [Pl.own])).trans (FrO.set (by simp [Pl.own]))).trans (FrO.set (by simp [Pl.own])), fun i hi => .inl hi, by simp, by omega, rfl, rfl, by simpa using l7⟩⟩
      rw [f_l_device_call_eq]
      rw [hp] at hw ins1
      simp (decide := true) [defX, xSeq, xIfS, ht, xNext, xB, xOp, xVar, xC, oI_int, h6, asB_bl, xDrop, xBM, xDGet, g3, isLst, la, xCons, xNil, xTup, mL, gAppend, h.a, hz', xRet, xIsN, nonD, xMeth, List.lookup, str_beq, ins1, hw, hp, nox_ok, R.bind, R.bindS, RS.seq, toS]
    · -- a read
      obtain ⟨q1, q2, q3⟩ := h.read hn.1 hn.2
      have q4 := same_good (S := S) q3
      refine ⟨S, ?_, ⟨l, perm, xs, kvs, h, FrO.refl, fun i hi => .inl hi, by omega, by omega, rfl, rfl, l7⟩⟩
      rw [f_l_device_call_eq]
      simp (decide := true) [defX, xSeq, xIfS, ht, xNext, xB, xOp, xVar, xC, oI_int, h6, h8, asB_bl, xRet, xCall, xCons, xNil, xMeth, ins0, List.lookup, str_beq, q1, q2, q4, nox_ok, R.bind, R.bindS, RS.seq, toS]
  · have h6 : ¬ kd < 6 := by omega
    by_cases h10 : kd < 10
    · -- a barrier
      have la := rdL_lst h.a
      have ones : f_l_device_call_c1 [some (.ref l.d), some (.ref l.t), some (.int kd), some (.int b), some c, some (.ref F), none, none] S = .ok (.ref S.length) (S ++ [.lst ((List.replicate xs.length 1).map .int)]) := by
        simp (decide := true) [f_l_device_call_c1, xLc, iL, xDGet, xOp, xVar, xC, g3, la, R.bind]
        rw [lc_map (fun _ => .int 1)]
        · have : (xs.map prD).map (fun _ => D.int 1) = List.replicate xs.length (.int 1) := List.eq_replicate_iff.mpr ⟨by simp, fun x hx => by
            obtain ⟨_, _, rfl⟩ := List.mem_map.mp hx
            rfl⟩
          rw [this]
        · exact fun acc => rdL_app la
        · exact fun x hx acc => ⟨_, rfl, rfl⟩
        · simp; omega
      have h1 := h.app (T := [.lst ((List.replicate xs.length 1).map D.int)])
      have lS1 : (S ++ [O.lst ((List.replicate xs.length 1).map D.int)]).length = S.length + 1 := by simp
      have rF1 : rdL (S ++ [O.lst ((List.replicate xs.length 1).map D.int)]) S.length = some ((List.replicate xs.length 1).map D.int) := rdL_new
      have fr1 : FrO l.own S (S ++ [O.lst ((List.replicate xs.length 1).map D.int)]) := FrO.app
      generalize S ++ [O.lst ((List.replicate xs.length 1).map D.int)] = S1 at ones h1 lS1 rF1 fr1
      obtain ⟨S2, q1, fr2, t2, k2, w2⟩ := failure_ok h1.t h1.k h1.a rF1 e1 (Ne.symm f1) (by omega) (by omega)
      have lS2 := at_lt w2
      obtain ⟨S3, q2, fr3, t3, k3, w3⟩ := barrier_ok (fr2.get h1.d (by simp [a4, a5])) (fr2.get h1.q (by simp [c2, c3]))
      have ins2 : insX S2 "Device" (.ref l.d) = some (l.d, ([("blocks", .int n), ("permanent", .ref l.p), ("latest", .ref l.q), ("writes", .ref l.w)] : List (Str × D))) := insX_eq (fr2.get h1.d (by simp [a4, a5]))
      have lS3 := at_lt w3
      refine ⟨S3, ?_, ⟨⟨l.d, S2.length, l.q, S2.length + 1, l.t, l.k, S1.length⟩, _, _, _, h.fail (S' := S3) (l' := ⟨l.d, S2.length, l.q, S2.length + 1, l.t, l.k, S1.length⟩) (List.replicate xs.length 1) t3 ?_ ?_ w3 ?_ ?_ ?_ ?_ (by omega), ?_, ?_, by simp, ?_, rfl, rfl, ?_⟩⟩
      · rw [f_l_device_call_eq]
        simp (decide := true) [defX, xSeq, xIfS, ht, xNext, xB, xOp, xVar, xC, oI_int, h6, h8, h10, asB_bl, xDrop, xCall, xCons, xNil, ones, q1, xRet, xIsN, nonD, xMeth, ins2, List.lookup, str_beq, q2, nox_ok, R.bind, R.bindS, RS.seq, toS]
      · rw [crs_ones]
        exact k3
      · rw [crs_ones]
        exact fr3.get (fr2.get h1.q (by simp [c2, c3])) (by simp [Ne.symm a2])
      · exact fr3.get t2 (by simp [Ne.symm a4])
      · exact fr3.get k2 (by simp [Ne.symm a5])
      · exact fr3.get w2 (by
          have z1 : S1.length ≠ l.d := by omega
          have z2 : S1.length ≠ l.p := by omega
          simp [z1, z2])
      · simp [Pl.own, a2, a4, a5, c2, c3, e1]
        clear a1 a2 a3 a4 a5 a6 b1 b2 b3 b4 b5 c1 c2 c3 c4 d1 d2 d3 e1 e2 f1 nF nF'
        omega
      · exact (fr1.trans (fr2.mono (by simp [Pl.own]))).trans (fr3.mono (by simp [Pl.own]))
      · intro i hi
        simp [Pl.own] at hi
        rcases hi with rfl | rfl | rfl | rfl | rfl | rfl | rfl
        · exact .inl (by simp [Pl.own])
        · exact .inr (by omega)
        · exact .inl (by simp [Pl.own])
        · exact .inr (by omega)
        · exact .inl (by simp [Pl.own])
        · exact .inl (by simp [Pl.own])
        · exact .inr (by omega)
      · have := kpt_len (zs := xs.zip (List.replicate xs.length 1)) (kvs := kvs)
        rw [List.length_zip] at this
        exact Nat.le_trans this (Nat.add_le_add_left (Nat.min_le_left _ _) _)
      · show S1.length < S3.length
        omega
    · -- a crash
      have h1 := h.app (T := [.lst (fs.map D.int)])
      have bl : bList [.ref F] S = .ok (.ref S.length) (S ++ [.lst (fs.map D.int)]) := bList_ref hF
      have lS1 : (S ++ [O.lst (fs.map D.int)]).length = S.length + 1 := by simp
      have rF1 : rdL (S ++ [O.lst (fs.map D.int)]) S.length = some (fs.map D.int) := rdL_new
      have rF2 : rdL (S ++ [O.lst (fs.map D.int)]) F = some (fs.map D.int) := rdL_app hF
      have fr1 : FrO l.own S (S ++ [O.lst (fs.map D.int)]) := FrO.app
      generalize S ++ [O.lst (fs.map D.int)] = S1 at bl h1 lS1 rF1 rF2 fr1
      obtain ⟨S2, q1, fr2, t2, k2, w2⟩ := failure_ok h1.t h1.k h1.a rF2 e1 (Ne.symm f1) nF'.2.2.2.2.2.1 (by omega)
      have lS2 := at_lt w2
      obtain ⟨S3, q2, fr3, t3, p3, k3, w3⟩ := crash_ok (fs := fs) (l := S.length) (fr2.get h1.d (by simp [a4, a5])) (fr2.get h1.p (by simp [b3, b4])) (fr2.get h1.w (by simp [d1, d2])) (fr2.rd rF1 (by simp [Nat.ne_of_gt l5, Nat.ne_of_gt l6])) h.pl (fun x hx => ⟨(h.xo x hx).1, (h.xo x hx).2.1⟩) a1 (Ne.symm b2) (by omega)
      have ins2 : insX S2 "Device" (.ref l.d) = some (l.d, ([("blocks", .int n), ("permanent", .ref l.p), ("latest", .ref l.q), ("writes", .ref l.w)] : List (Str × D))) := insX_eq (fr2.get h1.d (by simp [a4, a5]))
      have lS3 := at_lt w3
      have q4 := same_ints (S := S3) (l := S.length) (m := F) (as := fs) (fr3.rd (fr2.rd rF1 (by simp [Nat.ne_of_gt l5, Nat.ne_of_gt l6])) (by simp [Nat.ne_of_gt l1, Nat.ne_of_gt l2])) (fr3.rd (fr2.rd rF2 (by simp [nF'])) (by simp [nF'])) hfz
      refine ⟨S3, ?_, ⟨⟨l.d, l.p, S2.length, S2.length + 1, l.t, l.k, S1.length⟩, _, _, _, h.fail (S' := S3) (l' := ⟨l.d, l.p, S2.length, S2.length + 1, l.t, l.k, S1.length⟩) fs t3 p3 k3 w3 ?_ ?_ ?_ ?_ (by omega), ?_, ?_, by simp, ?_, rfl, rfl, ?_⟩⟩
      · rw [f_l_device_call_eq]
        simp (decide := true) [defX, xSeq, xAsg, gNameX, xIfS, ht, xNext, xB, xOp, xVar, xC, oI_int, h6, h8, h10, asB_bl, xDrop, xCall, xCB, bl, xCons, xNil, q1, xRet, xAndV, truD, xIsN, nonD, xMeth, ins2, List.lookup, str_beq, q2, q4, nox_ok, R.bind, R.bindS, RS.seq, toS]
      · exact fr3.get t2 (by simp [Ne.symm a4, Ne.symm b3])
      · exact fr3.get k2 (by simp [Ne.symm a5, Ne.symm b4])
      · exact fr3.get w2 (by
          have z1 : S1.length ≠ l.d := by omega
          have z2 : S1.length ≠ l.p := by omega
          simp [z1, z2])
      · simp [Pl.own, a1, a4, a5, b3, b4, e1]
        clear a1 a2 a3 a4 a5 a6 b1 b2 b3 b4 b5 c1 c2 c3 c4 d1 d2 d3 e1 e2 f1 nF nF'
        omega
      · exact (fr1.trans (fr2.mono (by simp [Pl.own]))).trans (fr3.mono (by simp [Pl.own]))
      · intro i hi
        simp [Pl.own] at hi
        rcases hi with rfl | rfl | rfl | rfl | rfl | rfl | rfl
        · exact .inl (by simp [Pl.own])
        · exact .inl (by simp [Pl.own])
        · exact .inr (by omega)
        · exact .inr (by omega)
        · exact .inl (by simp [Pl.own])
        · exact .inl (by simp [Pl.own])
        · exact .inr (by omega)
      · have := kpt_len (zs := xs.zip fs) (kvs := kvs)
        rw [List.length_zip] at this
        exact Nat.le_trans this (Nat.add_le_add_left (Nat.min_le_left _ _) _)
      · show S1.length < S3.length
        omega
end

section
open Mi
/-! ### contents and fates -/
theorem good_int (i : Int) : Good (.int i) := ⟨.int i, fun _ => .int i, by simp [Dn]⟩
/-- data without places, of this depth -/
def GoodN (m : Nat) (c : D) : Prop := ∃ p, (∀ S, DD S c p) ∧ Dn m p
theorem goodN_good {m : Nat} {c : D} (h : GoodN m c) (l : m ≤ 6) : Good c := by
  obtain ⟨p, h1, h2⟩ := h
  exact ⟨p, h1, h2.le l⟩
theorem goodN_up {m k : Nat} {c : D} (h : GoodN m c) (l : m ≤ k) : GoodN k c := by
  obtain ⟨p, h1, h2⟩ := h
  exact ⟨p, h1, h2.le l⟩
theorem goodN_int {m : Nat} (i : Int) : GoodN m (.int i) := ⟨.int i, fun _ => .int i, by simp [Dn]⟩
theorem goodN_str {m : Nat} (i : Str) : GoodN m (.str i) := ⟨.str i, fun _ => .str i, by simp [Dn]⟩
theorem goodN_non {m : Nat} : GoodN m .non := ⟨.none, fun _ => .non, by simp [Dn]⟩
theorem goodN_tups {m : Nat} : ∀ {xs : List D}, (∀ x ∈ xs, GoodN m x) → ∃ ps, (∀ S, DDs S xs ps) ∧ ps.length = xs.length ∧ ∀ p ∈ ps, Dn m p
  | [], _ => ⟨[], fun _ => .nil, rfl, by simp⟩
  | x :: r, h => by
    obtain ⟨ps, h1, h2, h3⟩ := goodN_tups fun y hy => h y (List.mem_cons_of_mem _ hy)
    obtain ⟨p, h4, h5⟩ := h x List.mem_cons_self
    refine ⟨p :: ps, fun S => .cons (h4 S) (h1 S), by simp [h2], fun q hq => ?_⟩
    rcases List.mem_cons.mp hq with rfl | hq
    · exact h5
    · exact h3 q hq
theorem goodN_tup {m : Nat} {xs : List D} (h : ∀ x ∈ xs, GoodN m x) (hl : xs.length ≤ 100) : GoodN (m + 1) (.tup xs) := by
  obtain ⟨ps, h1, h2, h3⟩ := goodN_tups h
  exact ⟨.tuple ps, fun S => .tup (h1 S), by simp only [Dn]; exact ⟨by omega, h3⟩⟩
def thingL (s : Int) : List D := [.int s, .int (0 - s), .str ("b" ++ strRepS "a" (s % 7)), .non, .int (10 ^ 20 + s), .str "", .tup [], .tup [.int s, .non]]
theorem thing_good {s : Int} {x : D} (h : x ∈ thingL s) : GoodN 1 x := by
  simp [thingL] at h
  rcases h with rfl | rfl | rfl | rfl | rfl | rfl | rfl | rfl
  · exact goodN_int _
  · exact goodN_int _
  · exact goodN_str _
  · exact goodN_non
  · exact goodN_int _
  · exact goodN_str _
  · exact goodN_tup (m := 0) (by simp) (by simp)
  · refine goodN_tup (m := 0) (fun x hx => ?_) (by simp)
    rcases List.mem_cons.mp hx with rfl | hx
    · exact goodN_int _
    · rcases List.mem_cons.mp hx with rfl | hx
      · exact goodN_non
      · cases hx
theorem content_ok {S : Sto} {m s : Int} (hm : 0 ≤ m ∧ m < 1000) (hs : 0 ≤ s ∧ s < 1000) : ∃ c S', f_l_device_content [.int m, .int s] S = .ok c S' ∧ FrO [] S S' ∧ Good c := by
  obtain ⟨x, hx⟩ : ∃ x, (thingL s)[(m % 8).toNat]? = some x := ⟨_, List.getElem?_eq_getElem (by
    have : (thingL s).length = 8 := rfl
    omega)⟩
  have hg := thing_good (List.mem_of_getElem? hx)
  have hat : atI (thingL s) (m % 8) = some x := atI_of (by omega) hx
  have e7 : oMulS (.str "a") (.int (s % 7)) S = .ok (.str (strRepS "a" (s % 7))) S := oMulS_eq (by decide) (by omega) (by omega)
  have hsl : (strRepS "a" (s % 7)).length ≤ 10 := by
    have : s % 7 = 0 ∨ s % 7 = 1 ∨ s % 7 = 2 ∨ s % 7 = 3 ∨ s % 7 = 4 ∨ s % 7 = 5 ∨ s % 7 = 6 := by omega
    rcases this with h | h | h | h | h | h | h <;> rw [h] <;> decide +kernel
  have hbl : ("b" : Str).length = 1 := by decide +kernel
  have e8 : oAddS (.str "b") (.str (strRepS "a" (s % 7))) S = .ok (.str ("b" ++ strRepS "a" (s % 7))) S := oAddS_eq (by rw [hbl]; omega)
  have e9 : oIC CPow (fun i j => .int (i ^ j.toNat)) (.int 10) (.int 20) S = .ok (.int (10 ^ 20)) S := oIC_int (by unfold CPow; decide)
  have e10 : oIC CDiv (fun i j => .int (i / j)) (.int m) (.int 8) (S ++ [.lst (thingL s)]) = .ok (.int (m / 8)) (S ++ [.lst (thingL s)]) := oIC_int (by unfold CDiv; decide)
  have e11 : oIxL (.ref S.length) (.int (m % 8)) (S ++ [.lst (thingL s)]) = .ok x (S ++ [.lst (thingL s)]) := by
    have : rdL (S ++ [.lst (thingL s)]) S.length = some (thingL s) := rdL_new
    simp [oIxL, this, hat]
  have m7 : ∀ i : Int, ∀ T : Sto, oIC (fun _ j => 0 < j) (fun i j => .int (i % j)) (.int i) (.int 7) T = .ok (.int (i % 7)) T := fun i T => oIC_int (by decide)
  have m8 : ∀ i : Int, ∀ T : Sto, oIC (fun _ j => 0 < j) (fun i j => .int (i % j)) (.int i) (.int 8) T = .ok (.int (i % 8)) T := fun i T => oIC_int (by decide)
  have m6 : ∀ i : Int, ∀ T : Sto, oIC (fun _ j => 0 < j) (fun i j => .int (i % j)) (.int i) (.int 6) T = .ok (.int (i % 6)) T := fun i T => oIC_int (by decide)
  have bi : ∀ i : Int, ∀ T : Sto, bInt [.int i] T = .ok (.int i) T := fun i T => rfl
  have l8 : (thingL s).length ≤ 100000 := by simp [thingL]
  have e12 : (xCons (xVar 1) (xCons (xOp (oI fun i j => .int (i - j)) (xC (.int 0)) (xVar 1)) (xCons (xOp oAddS (xC (.str "b")) (xOp oMulS (xC (.str "a")) (xOp (oIC (fun _ j => 0 < j) fun i j => .int (i % j)) (xCB bInt (xCons (xVar 1) xNil)) (xC (.int 7))))) (xCons (xC .non) (xCons (xOp (oI fun i j => .int (i + j)) (xOp (oIC CPow fun i j => .int (i ^ j.toNat)) (xC (.int 10)) (xC (.int 20))) (xVar 1)) (xCons (xC (.str "")) (xCons (xTup xNil) (xCons (xTup (xCons (xVar 1) (xCons (xC .non) xNil))) xNil)))))))) [some (.int m), some (.int s), none, none] S = .ok (thingL s) S := by
    simp (decide := true) [xCons, xVar, xC, xOp, xCB, e7, e8, e9, m7, bi, oI_int, xTup, xNil, R.bind, thingL]
  have hw : m / 8 % 6 = 0 ∨ m / 8 % 6 = 1 ∨ m / 8 % 6 = 2 ∨ m / 8 % 6 = 3 ∨ m / 8 % 6 = 4 ∨ m / 8 % 6 = 5 := by omega
  rw [f_l_device_content_eq]
  generalize (xCons (xVar 1) (xCons (xOp (oI fun i j => .int (i - j)) (xC (.int 0)) (xVar 1)) (xCons (xOp oAddS (xC (.str "b")) (xOp oMulS (xC (.str "a")) (xOp (oIC (fun _ j => 0 < j) fun i j => .int (i % j)) (xCB bInt (xCons (xVar 1) xNil)) (xC (.int 7))))) (xCons (xC .non) (xCons (xOp (oI fun i j => .int (i + j)) (xOp (oIC CPow fun i j => .int (i ^ j.toNat)) (xC (.int 10)) (xC (.int 20))) (xVar 1)) (xCons (xC (.str "")) (xCons (xTup xNil) (xCons (xTup (xCons (xVar 1) (xCons (xC .non) xNil))) xNil)))))))) = G at e12 ⊢
  have t1 : ∀ {y : D}, GoodN 1 y → GoodN 2 (.tup [y]) := fun hy => goodN_tup (fun z hz => by
    have : z = _ := List.mem_singleton.mp hz
    rw [this]; exact hy) (by simp)
  rcases hw with h | h | h | h | h | h
  · refine ⟨.tup [], S ++ [.lst (thingL s)], ?_, FrO.app, goodN_good (goodN_tup (m := 0) (by simp) (by simp)) (by decide)⟩
    simp (decide := true) [defX, xSeq, xAsg, gNameX, xOp, xVar, xC, xCB, xCons, xNil, bi, m8, m6, e10, e11, e12, xLst, l8, h, xIfS, xB, asB_bl, xRet, xTup, xNext, R.bind, R.bindS, RS.seq, toS]
  · refine ⟨.tup [x], S ++ [.lst (thingL s)], ?_, FrO.app, goodN_good (t1 hg) (by decide)⟩
    simp (decide := true) [defX, xSeq, xAsg, gNameX, xOp, xVar, xC, xCB, xCons, xNil, bi, m8, m6, e10, e11, e12, xLst, l8, h, xIfS, xB, asB_bl, xRet, xTup, xNext, R.bind, R.bindS, RS.seq, toS]
  · refine ⟨.tup [.int s, x, .str "c"], S ++ [.lst (thingL s)], ?_, FrO.app, goodN_good (goodN_tup (m := 1) (fun z hz => ?_) (by simp)) (by decide)⟩
    · simp (decide := true) [defX, xSeq, xAsg, gNameX, xOp, xVar, xC, xCB, xCons, xNil, bi, m8, m6, e10, e11, e12, xLst, l8, h, xIfS, xB, asB_bl, xRet, xTup, xNext, R.bind, R.bindS, RS.seq, toS]
    · simp at hz
      rcases hz with rfl | rfl | rfl
      · exact goodN_int _
      · exact hg
      · exact goodN_str _
  · refine ⟨.tup [.tup [x], .tup [], .tup [.tup [.int s, .str "c"], .non]], S ++ [.lst (thingL s)], ?_, FrO.app, goodN_good (goodN_tup (m := 2) (fun z hz => ?_) (by simp)) (by decide)⟩
    · simp (decide := true) [defX, xSeq, xAsg, gNameX, xOp, xVar, xC, xCB, xCons, xNil, bi, m8, m6, e10, e11, e12, xLst, l8, h, xIfS, xB, asB_bl, xRet, xTup, xNext, R.bind, R.bindS, RS.seq, toS]
    · simp at hz
      rcases hz with rfl | rfl | rfl
      · exact t1 hg
      · exact goodN_up (goodN_tup (m := 0) (by simp) (by simp)) (by decide)
      · refine goodN_tup (m := 1) (fun z hz => ?_) (by simp)
        simp at hz
        rcases hz with rfl | rfl
        · refine goodN_tup (m := 0) (fun z hz => ?_) (by simp)
          simp at hz
          rcases hz with rfl | rfl
          · exact goodN_int _
          · exact goodN_str _
        · exact goodN_non
  · refine ⟨.tup [.str "root", .int s, .int 0], S ++ [.lst (thingL s)], ?_, FrO.app, goodN_good (goodN_tup (m := 1) (fun z hz => ?_) (by simp)) (by decide)⟩
    · simp (decide := true) [defX, xSeq, xAsg, gNameX, xOp, xVar, xC, xCB, xCons, xNil, bi, m8, m6, e10, e11, e12, xLst, l8, h, xIfS, xB, asB_bl, xRet, xTup, xNext, R.bind, R.bindS, RS.seq, toS]
    · simp at hz
      rcases hz with rfl | rfl | rfl
      · exact goodN_str _
      · exact goodN_int _
      · exact goodN_int _
  · refine ⟨.tup [x, x, .tup [.tup [.tup [x]]]], S ++ [.lst (thingL s)], ?_, FrO.app, goodN_good (goodN_tup (m := 4) (fun z hz => ?_) (by simp)) (by decide)⟩
    · simp (decide := true) [defX, xSeq, xAsg, gNameX, xOp, xVar, xC, xCB, xCons, xNil, bi, m8, m6, e10, e11, e12, xLst, l8, h, xIfS, xB, asB_bl, xRet, xTup, xNext, R.bind, R.bindS, RS.seq, toS]
    · simp at hz
      rcases hz with rfl | rfl
      · exact goodN_up hg (by decide)
      · refine goodN_tup (m := 3) (fun z hz => ?_) (by simp)
        rw [List.mem_singleton.mp hz]
        refine goodN_tup (m := 2) (fun z hz => ?_) (by simp)
        rw [List.mem_singleton.mp hz]
        exact t1 hg
end

section
open Mi
def pwA (j : Int) : Int := if j = 0 then 1 else if j = 1 then 3 else if j = 2 then 9 else if j = 3 then 27 else if j = 4 then 81 else 243
def pwL : List D := [.int 1, .int 3, .int 9, .int 27, .int 81, .int 243]
theorem pwA_at {j : Int} (h0 : 0 ≤ j) (h1 : j < 6) : atI pwL j = some (.int (pwA j)) := by
  have : j = 0 ∨ j = 1 ∨ j = 2 ∨ j = 3 ∨ j = 4 ∨ j = 5 := by omega
  rcases this with rfl | rfl | rfl | rfl | rfl | rfl <;> rfl
theorem pwA_in (j : Int) : 0 < pwA j ∧ pwA j < 1000 := by
  unfold pwA
  repeat' split
  all_goals decide
theorem fates_ok {S : Sto} {m k : Int} (hm : 0 ≤ m ∧ m < 1000) (hk : 0 ≤ k ∧ k ≤ 2000) : ∃ (fs : List Int) (F : Nat) (S' : Sto), f_l_device_fates [.int m, .int k] S = .ok (.ref F) S' ∧ FrO [] S S' ∧ S.length ≤ F ∧ rdL S' F = some (fs.map .int) ∧ fs.length ≤ 4000 := by
  have m5 : ∀ i : Int, ∀ T : Sto, oIC (fun _ j => 0 < j) (fun i j => .int (i % j)) (.int i) (.int 5) T = .ok (.int (i % 5)) T := fun i T => oIC_int (by decide)
  have m4 : ∀ i : Int, ∀ T : Sto, oIC (fun _ j => 0 < j) (fun i j => .int (i % j)) (.int i) (.int 4) T = .ok (.int (i % 4)) T := fun i T => oIC_int (by decide)
  have m6 : ∀ i : Int, ∀ T : Sto, oIC (fun _ j => 0 < j) (fun i j => .int (i % j)) (.int i) (.int 6) T = .ok (.int (i % 6)) T := fun i T => oIC_int (by decide)
  have m3 : ∀ i : Int, ∀ T : Sto, oIC (fun _ j => 0 < j) (fun i j => .int (i % j)) (.int i) (.int 3) T = .ok (.int (i % 3)) T := fun i T => oIC_int (by decide)
  have dv : ∀ i j : Int, 0 < j → j < 1000 → ∀ T : Sto, oIC CDiv (fun i j => .int (i / j)) (.int i) (.int j) T = .ok (.int (i / j)) T := fun i j h1 h2 T => oIC_int (by unfold CDiv; omega)
  have bi : ∀ i : Int, ∀ T : Sto, bInt [.int i] T = .ok (.int i) T := fun i T => rfl
  rw [f_l_device_fates_eq]
  by_cases h4 : m % 5 = 4
  · refine ⟨[], S.length, S ++ [.lst []], ?_, FrO.app, Nat.le_refl _, by rw [rdL_new]; rfl, by simp⟩
    simp (decide := true) [defX, xSeq, xAsg, gNameX, xOp, xVar, xC, xCB, xCons, xNil, bi, m5, h4, xIfS, xB, asB_bl, xRet, xLst, R.bind, R.bindS, RS.seq, toS]
  by_cases h12 : m % 5 = 1 ∨ m % 5 = 2
  · have ht : f_l_device_fates_t1 [some (.int m), some (.int k), some (.int (m % 5)), none, none] S = .ok true S := by
      rcases h12 with h | h <;> simp (decide := true) [f_l_device_fates_t1, xOr, xB, xOp, xVar, xC, h, asB_bl, R.bind]
    have hr : RngOk k := rngOk (by omega)
    have hc : f_l_device_fates_c1 [some (.int m), some (.int k), some (.int (m % 5)), none, none] S = .ok (.ref S.length) (S ++ [.lst ((List.replicate k.toNat (3 - m % 5)).map .int)]) := by
      simp (decide := true) [f_l_device_fates_c1, xLc, iR1, xCons, xNil, xVar, hr, R.bind]
      rw [lc_map (fun _ => .int (3 - m % 5))]
      · have : (rngD 0 k.toNat).map (fun _ => D.int (3 - m % 5)) = List.replicate k.toNat (.int (3 - m % 5)) := List.eq_replicate_iff.mpr ⟨by simp, fun x hx => by
          obtain ⟨_, _, rfl⟩ := List.mem_map.mp hx
          rfl⟩
        rw [this]
      · exact fun _ => trivial
      · intro x hx acc
        exact ⟨_, rfl, by simp (decide := true) [xOp, xC, xVar, wipeE, oI_int, R.bind]⟩
      · simp; omega
    refine ⟨List.replicate k.toNat (3 - m % 5), S.length, S ++ [.lst ((List.replicate k.toNat (3 - m % 5)).map .int)], ?_, FrO.app, Nat.le_refl _, rdL_new, by simp; omega⟩
    simp (decide := true) [defX, xSeq, xAsg, gNameX, xOp, xVar, xC, xCB, xCons, xNil, bi, m5, h4, xIfS, xB, asB_bl, xNext, ht, hc, xRet, xLst, R.bind, R.bindS, RS.seq, toS]
  · have ht : f_l_device_fates_t1 [some (.int m), some (.int k), some (.int (m % 5)), none, none] S = .ok false S := by
      have h1 : ¬ m % 5 = 1 := fun z => h12 (.inl z)
      have h2 : ¬ m % 5 = 2 := fun z => h12 (.inr z)
      simp (decide := true) [f_l_device_fates_t1, xOr, xB, xOp, xVar, xC, h1, h2, asB_bl, R.bind]
    have hr : RngOk (k + m / 5 % 4 - 1) := rngOk (by omega)
    have dv5 := dv m 5 (by decide) (by decide)
    have hc : f_l_device_fates_c2 [some (.int m), some (.int k), some (.int (m % 5)), none, some (.ref S.length)] (S ++ [.lst pwL]) = .ok (.ref (S.length + 1)) ((S ++ [.lst pwL]) ++ [.lst (((List.range (k + m / 5 % 4 - 1).toNat).map fun (i : Nat) => m / pwA ((i : Int) % 6) % 3).map .int)]) := by
      have hi : iR1 (xCons (xOp (oI fun i j => .int (i - j)) (xOp (oI fun i j => .int (i + j)) (xVar 1) (xOp (oIC (fun _ j => 0 < j) fun i j => .int (i % j)) (xCB bInt (xCons (xOp (oIC CDiv fun i j => .int (i / j)) (xVar 0) (xC (.int 5))) xNil)) (xC (.int 4)))) (xC (.int 1))) xNil) [some (.int m), some (.int k), some (.int (m % 5)), none, some (.ref S.length)] (S ++ [.lst pwL]) = .ok ⟨rngD 0 (k + m / 5 % 4 - 1).toNat, fun _ => True⟩ (S ++ [.lst pwL]) := by
        simp (decide := true) [iR1, xCons, xNil, xVar, xOp, xC, xCB, dv5, bi, m4, oI_int, hr, R.bind]
      rw [f_l_device_fates_c2, xLc]
      simp only [hi, R.bind]
      rw [lc_map (fun x => match x with | .int i => .int (m / pwA (i % 6) % 3) | _ => .non)]
      · simp [rngD, List.map_map, Function.comp_def]
      · exact fun _ => trivial
      · intro x hx acc
        obtain ⟨i, hi, rfl⟩ := rngD_mem hx
        refine ⟨_, rfl, ?_⟩
        have hp := pwA_at (j := (0 + (i : Int)) % 6) (by omega) (by omega)
        have hq := pwA_in ((0 + (i : Int)) % 6)
        have hd := dv m (pwA ((0 + (i : Int)) % 6)) hq.1 hq.2
        have hrd : rdL (S ++ [O.lst pwL] ++ [.lst acc]) S.length = some pwL := rdL_app rdL_new
        generalize S ++ [O.lst pwL] ++ [.lst acc] = T at hrd ⊢
        have hix : oIxL (.ref S.length) (.int ((0 + (i : Int)) % 6)) T = .ok (.int (pwA ((0 + (i : Int)) % 6))) T := by simp only [oIxL, hrd, Option.bind_some, hp]
        generalize (0 + (i : Int)) = z at hix hd ⊢
        simp (decide := true) [xOp, xC, xVar, xCB, xCons, xNil, gNameX, wipeE, bi, m6, m3, hix, hd, R.bind]
      · simp; omega
    refine ⟨(List.range (k + m / 5 % 4 - 1).toNat).map fun (i : Nat) => m / pwA ((i : Int) % 6) % 3, S.length + 1, (S ++ [.lst pwL]) ++ [.lst (((List.range (k + m / 5 % 4 - 1).toNat).map fun (i : Nat) => m / pwA ((i : Int) % 6) % 3).map .int)], ?_, FrO.trans (FrO.app (T := [O.lst pwL])) FrO.app, Nat.le_succ _, by
      have : (S ++ [O.lst pwL]).length = S.length + 1 := by simp
      rw [← this]
      exact rdL_new, by simp; omega⟩
    have hpl : [D.int 1, .int 3, .int 9, .int 27, .int 81, .int 243] = pwL := rfl
    have hpz : pwL.length ≤ 100000 := by decide
    simp (decide := true) [defX, xSeq, xAsg, gNameX, xOp, xVar, xC, xCB, xCons, xNil, bi, m5, h4, xIfS, xB, asB_bl, xNext, ht, hpl, hpz, hc, xRet, xLst, R.bind, R.bindS, RS.seq, toS]
end

section
open Mi
theorem init_ok {S : Sto} {d n : Nat} (hd : at_ S d = some (.ins "Device" [])) (hn : n ≤ 600) : ∃ S', f_Device___init__ [.ref d, .int n] S = .ok .non S' ∧ FrO [d] S S' ∧ at_ S' d = some (devO n S.length (S.length + 1) (S.length + 2)) ∧
    at_ S' S.length = some (.lst (List.replicate n .non)) ∧ at_ S' (S.length + 1) = some (.lst (List.replicate n .non)) ∧ at_ S' (S.length + 2) = some (.lst []) := by
  have ld := at_lt hd
  have hr : RngOk (n : Int) := rngOk (by omega)
  have hc : ∀ T : Sto, f_Device___init___c1 [some (.ref d), some (.int n), none] T = .ok (.ref T.length) (T ++ [.lst (List.replicate n .non)]) := fun T => by
    simp (decide := true) [f_Device___init___c1, xLc, iR1, xCons, xNil, xVar, hr, R.bind]
    rw [lc_map (fun _ => .non)]
    · have : (rngD 0 n).map (fun _ => D.non) = List.replicate n .non := List.eq_replicate_iff.mpr ⟨by simp, fun x hx => by
        obtain ⟨_, _, rfl⟩ := List.mem_map.mp hx
        rfl⟩
      rw [this]
    · exact fun _ => trivial
    · exact fun x hx acc => ⟨_, rfl, rfl⟩
    · simp; omega
  generalize hR : List.replicate n D.non = Z at hc ⊢
  have m0 : d ≠ S.length := by omega
  have m1 : d ≠ S.length + 1 := by omega
  have m2 : d ≠ S.length + 2 := by omega
  have s1 : setFX "Device" "blocks" (.ref d) (.int n) S = some (S.set d (.ins "Device" [("blocks", .int n)])) := by rw [setFX_eq hd (by simp)]; simp (decide := true) [putFX]
  have q1 : at_ (S.set d (.ins "Device" [("blocks", .int n)])) d = some (.ins "Device" [("blocks", .int n)]) := at_set_eq ld
  generalize hS1 : S.set d (.ins "Device" [("blocks", .int n)]) = S1 at s1 q1
  have z1 : S1.length = S.length := by rw [← hS1]; simp
  have f1 : FrO [d] S S1 := by rw [← hS1]; exact FrO.set (by simp)
  have s2 : setFX "Device" "permanent" (.ref d) (.ref S1.length) (S1 ++ [O.lst Z]) = some ((S1 ++ [O.lst Z]).set d (.ins "Device" [("blocks", .int n), ("permanent", .ref S.length)])) := by rw [setFX_eq (at_app q1) (by simp)]; simp (decide := true) [putFX, z1]
  have q2 : at_ ((S1 ++ [O.lst Z]).set d (.ins "Device" [("blocks", .int n), ("permanent", .ref S.length)])) d = some (.ins "Device" [("blocks", .int n), ("permanent", .ref S.length)]) := at_set_eq (by simp; omega)
  have r2 : at_ ((S1 ++ [O.lst Z]).set d (.ins "Device" [("blocks", .int n), ("permanent", .ref S.length)])) S.length = some (.lst Z) := by rw [at_set_ne m0, ← z1]; exact at_new
  have f2 : FrO [d] S ((S1 ++ [O.lst Z]).set d (.ins "Device" [("blocks", .int n), ("permanent", .ref S.length)])) := (f1.trans FrO.app).trans (FrO.set (by simp))
  have z2 : ((S1 ++ [O.lst Z]).set d (.ins "Device" [("blocks", .int n), ("permanent", .ref S.length)])).length = S.length + 1 := by simp [z1]
  generalize (S1 ++ [O.lst Z]).set d (.ins "Device" [("blocks", .int n), ("permanent", .ref S.length)]) = S2 at s2 q2 r2 f2 z2
  have rr2 := rdL_lst r2
  have s3 : setFX "Device" "latest" (.ref d) (.ref S2.length) (S2 ++ [O.lst Z]) = some ((S2 ++ [O.lst Z]).set d (.ins "Device" [("blocks", .int n), ("permanent", .ref S.length), ("latest", .ref (S.length + 1))])) := by rw [setFX_eq (at_app q2) (by simp)]; simp (decide := true) [putFX, z2]
  have q3 : at_ ((S2 ++ [O.lst Z]).set d (.ins "Device" [("blocks", .int n), ("permanent", .ref S.length), ("latest", .ref (S.length + 1))])) d = some (.ins "Device" [("blocks", .int n), ("permanent", .ref S.length), ("latest", .ref (S.length + 1))]) := at_set_eq (by simp; omega)
  have r3 : at_ ((S2 ++ [O.lst Z]).set d (.ins "Device" [("blocks", .int n), ("permanent", .ref S.length), ("latest", .ref (S.length + 1))])) S.length = some (.lst Z) := by rw [at_set_ne m0]; exact at_app r2
  have r3' : at_ ((S2 ++ [O.lst Z]).set d (.ins "Device" [("blocks", .int n), ("permanent", .ref S.length), ("latest", .ref (S.length + 1))])) (S.length + 1) = some (.lst Z) := by rw [at_set_ne m1, ← z2]; exact at_new
  have f3 : FrO [d] S ((S2 ++ [O.lst Z]).set d (.ins "Device" [("blocks", .int n), ("permanent", .ref S.length), ("latest", .ref (S.length + 1))])) := (f2.trans FrO.app).trans (FrO.set (by simp))
  have z3 : ((S2 ++ [O.lst Z]).set d (.ins "Device" [("blocks", .int n), ("permanent", .ref S.length), ("latest", .ref (S.length + 1))])).length = S.length + 2 := by simp [z2]
  generalize (S2 ++ [O.lst Z]).set d (.ins "Device" [("blocks", .int n), ("permanent", .ref S.length), ("latest", .ref (S.length + 1))]) = S3 at s3 q3 r3 r3' f3 z3
  have s4 : setFX "Device" "writes" (.ref d) (.ref S3.length) (S3 ++ [O.lst []]) = some ((S3 ++ [O.lst []]).set d (devO n S.length (S.length + 1) (S.length + 2))) := by rw [setFX_eq (at_app q3) (by simp)]; simp (decide := true) [putFX, devO, z3]
  have i2 : insX S2 "Device" (.ref d) = some (d, ([("blocks", .int n), ("permanent", .ref S.length)] : List (Str × D))) := insX_eq q2
  refine ⟨(S3 ++ [O.lst []]).set d (devO n S.length (S.length + 1) (S.length + 2)), ?_, (f3.trans FrO.app).trans (FrO.set (by simp)), at_set_eq (by simp; omega), by rw [at_set_ne m0]; exact at_app r3, by rw [at_set_ne m1]; exact at_app r3', by rw [at_set_ne m2, ← z3]; exact at_new⟩
  rw [f_Device___init___eq]
  simp (decide := true) [defX, xSeq, xSetF, xVar, s1, s2, s3, s4, hc, xCB, xCons, xNil, xFld, i2, List.lookup, str_beq, bList, rr2, xLst, R.bind, R.bindS, RS.seq, toS]
end

section
open Mi
/-- one side of the law's world: a device and its plain table after at most j calls -/
structure Sd (S : Sto) (n : Nat) (l : Pl) (j : Nat) : Prop where
  ex : ∃ perm xs kvs, Inv n S l perm xs kvs ∧ xs.length ≤ j ∧ kvs.length ≤ 100 * j
theorem Sd.fr {S S' : Sto} {n j : Nat} {l : Pl} {P : List Nat} (h : Sd S n l j) (f : FrO P S S') (hd : ∀ i ∈ l.own, i ∉ P) : Sd S' n l j := by
  obtain ⟨perm, xs, kvs, h1, h2, h3⟩ := h.ex
  exact ⟨perm, xs, kvs, h1.fr f hd, h2, h3⟩
theorem Sd.up {S : Sto} {n j k : Nat} {l : Pl} (h : Sd S n l j) (hk : j ≤ k) : Sd S n l k := by
  obtain ⟨perm, xs, kvs, h1, h2, h3⟩ := h.ex
  exact ⟨perm, xs, kvs, h1, by omega, by omega⟩
theorem Sd.lt {S : Sto} {n j : Nat} {l : Pl} (h : Sd S n l j) : ∀ i ∈ l.own, i < S.length := by
  obtain ⟨perm, xs, kvs, h1, h2, h3⟩ := h.ex
  obtain ⟨l1, l2, l3, l4, l5, l6, l7⟩ := h1.lt
  intro i hi
  simp [Pl.own] at hi
  rcases hi with rfl | rfl | rfl | rfl | rfl | rfl | rfl <;> assumption
theorem Sd.holds {S : Sto} {n j : Nat} {l : Pl} (h : Sd S n l j) : ∃ S', f_l_device_holds [.ref l.d, .ref l.t] S = .ok (.bl true) S' ∧ FrO [] S S' := by
  obtain ⟨perm, xs, kvs, h1, h2, h3⟩ := h.ex
  exact holds_ok h1
theorem Sd.call {S : Sto} {n j : Nat} {l : Pl} (h : Sd S n l j) (hj : j ≤ 80) {kd b : Int} {c : D} {F : Nat} {fs : List Int} (hb : -10000 ≤ b ∧ b ≤ 10000) (hc : Good c) (hF : rdL S F = some (fs.map .int)) (nF : F ∉ l.own) (hfz : fs.length ≤ 40000) :
    ∃ l' S', f_l_device_call [.ref l.d, .ref l.t, .int kd, .int b, c, .ref F] S = .ok (.bl true) S' ∧ Sd S' n l' (j + 1) ∧ FrO l.own S S' ∧ (∀ i ∈ l'.own, i ∈ l.own ∨ S.length ≤ i) ∧ l'.d = l.d ∧ l'.t = l.t := by
  obtain ⟨perm, xs, kvs, h1, h2, h3⟩ := h.ex
  obtain ⟨S', q1, l', perm', xs', kvs', q2, q3, q4, q5, q6, q7, q8, _⟩ := call_ok h1 (kd := kd) hb hc hF nF hfz (by omega) (by omega)
  exact ⟨l', S', q1, ⟨perm', xs', kvs', q2, by omega, by omega⟩, q3, q4, q7, q8⟩
theorem Sd.wait {S : Sto} {n j : Nat} {l : Pl} (h : Sd S n l j) : ∃ a ws, oDGet (.ref l.t) (.str "wait") S = .ok (.ref a) S ∧ rdL S a = some ws ∧ ws.length ≤ j := by
  obtain ⟨perm, xs, kvs, h1, h2, h3⟩ := h.ex
  exact ⟨l.a, xs.map prD, (count_get h1.t).2.2, rdL_lst h1.a, by simpa using h2⟩
structure Wd (S : Sto) (ns : List Int) (C DV PV n0 n1 : Nat) (lA lB : Pl) (j : Nat) : Prop where
  hn : rdL S 0 = some (ns.map .int)
  c : at_ S C = some (.lst [.int n0, .int n1])
  d : at_ S DV = some (.lst [.ref lA.d, .ref lB.d])
  t : at_ S PV = some (.lst [.ref lA.t, .ref lB.t])
  A : Sd S n0 lA j
  B : Sd S n1 lB j
  dj : ∀ i ∈ lA.own, i ∉ lB.own
  ot : ∀ i ∈ [0, C, DV, PV], i ∉ lA.own ∧ i ∉ lB.own
section
variable {S S' : Sto} {ns : List Int} {C DV PV n0 n1 j : Nat} {lA lB : Pl}
theorem Wd.fr (h : Wd S ns C DV PV n0 n1 lA lB j) (f : FrO [] S S') : Wd S' ns C DV PV n0 n1 lA lB j :=
  ⟨f.rd h.hn (by simp), f.get h.c (by simp), f.get h.d (by simp), f.get h.t (by simp), h.A.fr f (by simp), h.B.fr f (by simp), h.dj, h.ot⟩
theorem Wd.callA (h : Wd S ns C DV PV n0 n1 lA lB j) (hj : j ≤ 80) {kd b : Int} {c : D} {F : Nat} {fs : List Int} (hb : -10000 ≤ b ∧ b ≤ 10000) (hc : Good c) (hF : rdL S F = some (fs.map .int)) (nF : F ∉ lA.own) (hfz : fs.length ≤ 40000) :
    ∃ lA' S', f_l_device_call [.ref lA.d, .ref lA.t, .int kd, .int b, c, .ref F] S = .ok (.bl true) S' ∧ Wd S' ns C DV PV n0 n1 lA' lB (j + 1) := by
  obtain ⟨l', S', q1, q2, q3, q4, q5, q6⟩ := h.A.call hj (kd := kd) hb hc hF nF hfz
  have o0 := h.ot 0 (by simp)
  have oC := h.ot C (by simp)
  have oD := h.ot DV (by simp)
  have oP := h.ot PV (by simp)
  have b1 := rdL_lt h.hn
  have b2 := at_lt h.c
  have b3 := at_lt h.d
  have b4 := at_lt h.t
  refine ⟨l', S', q1, q3.rd h.hn o0.1, q3.get h.c oC.1, by rw [q5]; exact q3.get h.d oD.1, by rw [q6]; exact q3.get h.t oP.1, q2, (h.B.fr q3 fun i hi z => h.dj i z hi).up (by omega), fun i hi z => ?_, fun i hi => ⟨fun z => ?_, (h.ot i hi).2⟩⟩
  · rcases q4 i hi with hi | hi
    · exact h.dj i hi z
    · exact absurd (h.B.lt i z) (by omega)
  · rcases q4 i z with hz | hz
    · exact (h.ot i hi).1 hz
    · simp at hi
      rcases hi with rfl | rfl | rfl | rfl <;> omega
theorem Wd.swap (h : Wd S ns C DV PV n0 n1 lA lB j) : at_ S DV = some (.lst [.ref lA.d, .ref lB.d]) := h.d
theorem Wd.callB (h : Wd S ns C DV PV n0 n1 lA lB j) (hj : j ≤ 80) {kd b : Int} {c : D} {F : Nat} {fs : List Int} (hb : -10000 ≤ b ∧ b ≤ 10000) (hc : Good c) (hF : rdL S F = some (fs.map .int)) (nF : F ∉ lB.own) (hfz : fs.length ≤ 40000) :
    ∃ lB' S', f_l_device_call [.ref lB.d, .ref lB.t, .int kd, .int b, c, .ref F] S = .ok (.bl true) S' ∧ Wd S' ns C DV PV n0 n1 lA lB' (j + 1) := by
  obtain ⟨l', S', q1, q2, q3, q4, q5, q6⟩ := h.B.call hj (kd := kd) hb hc hF nF hfz
  have o0 := h.ot 0 (by simp)
  have oC := h.ot C (by simp)
  have oD := h.ot DV (by simp)
  have oP := h.ot PV (by simp)
  have b1 := rdL_lt h.hn
  have b2 := at_lt h.c
  have b3 := at_lt h.d
  have b4 := at_lt h.t
  refine ⟨l', S', q1, q3.rd h.hn o0.2, q3.get h.c oC.2, by rw [q5]; exact q3.get h.d oD.2, by rw [q6]; exact q3.get h.t oP.2, (h.A.fr q3 fun i hi z => h.dj i hi z).up (by omega), q2, fun i hi z => ?_, fun i hi => ⟨(h.ot i hi).1, fun z => ?_⟩⟩
  · rcases q4 i z with hz | hz
    · exact h.dj i hi hz
    · exact absurd (h.A.lt i hi) (by omega)
  · rcases q4 i z with hz | hz
    · exact (h.ot i hi).2 hz
    · simp at hi
      rcases hi with rfl | rfl | rfl | rfl <;> omega
end
end

section
open Mi
theorem num_ok {S : Sto} {l0 : Nat} {ns : List Int} {a k sz : Int} (h : rdL S l0 = some (ns.map .int)) (hl : ns.length ≤ 63) (ok : NumOk a k sz) : Ok (fNumber [.ref l0, .int a, .int k, .int sz] S) fun v S' => S' = S ∧ ∃ q : Int, v = .int q ∧ 0 ≤ q ∧ q < sz := by
  refine Ok.of ⟨.int (lawNum ns a k sz), S, fNumber_eq h hl ok, rfl, _, rfl, lawNum_nn _ _ _ _ ?_, lawNum_lt _ _ _ _ ?_⟩ <;> (unfold NumOk at ok; omega)
/-- the turn of the law's second loop, for the side w -/
theorem turn2 {S : Sto} {ns : List Int} {C DV PV n0 n1 j : Nat} {i : Int} {lA lB : Pl} {e5 : Int} (h : Wd S ns C DV PV n0 n1 lA lB j) (hl : ns.length ≤ 63) (hj : j ≤ 80) (he : 0 ≤ e5 ∧ e5 ≤ 100) (hi : i = 0 ∨ i = 1) {o4 o6 o8 o9 o10 o11 o12 : Option D} {Q : RS → Prop} :
    wps (K := ⟨fun e S' => ∃ o12' lA' lB', e = [some (.ref 0), some (.ref C), some (.ref DV), some (.ref PV), o4, some (.int e5), o6, some (.int i), o8, o9, o10, o11, o12'] ∧ Wd S' ns C DV PV n0 n1 lA' lB' (j + 1), Q⟩) (f_law_b2 [some (.ref 0), some (.ref C), some (.ref DV), some (.ref PV), o4, some (.int e5), o6, some (.int i), o8, o9, o10, o11, o12] S) := by
  have nm := num_ok (a := e5 + 1 + i) (k := 6) (sz := 1000) h.hn hl (by unfold NumOk; omega)
  unfold f_law_b2
  rcases hi with rfl | rfl
  · simp (decide := true) [wpe_ret, wpe_exc, wpe_bind, wps_nx, wps_ret, wps_bk, wps_ct, wps_exc, wps_bindS, wps_seq, wps_xSeq, wps_toS, wpe_nox, defQ_ret, defQ_exc, wps_if, cn_k, cn_x, cx_n, cx_q, wpe_lst, wpe_dnew, wps_xSetF, wps_xAugF, wps_xDPut, gSub_eq, wpe_xMake, wps_xFor, wps_xForE, wpe_xLc, loopQ_ct, loopQ_bk, loopQ_ret, loopQ_exc, wpe_iteBad, wps_iteBad, oIC_wp, bList_wp, bListT_wp, oSlL_wp, oCat_wp, bListD_wp, mkRg_wp, bSet_wp, CDiv, CMul, RngOk, RgOk, -bList_tup, xLRg1, xLRg2, xErrF, xIsE, xRaise, RS.unset, RS.noexc, xNext, xAsg, gNameX, gConsX, gNilX, gTupX, xVar, xC, xOp, xUn, oI_int, oNeg_int, xB, asB_bl, xRet, xRetN, xDrop, xBreak, xCont, xCons, xNil, xTup, xCB, xCall, xCallX, xAnd, xOr, xNot, xAndV, xOrV, xNotV, xIf, xYes, xTru, truD, xIsN, xNotN, nonD, xFld, xMeth, xMethX, xBM, xDGet, xDIn, xPart, xNoPart, xSl, nox_ok, toS_ok, finX, iR1, iR2, iL, iT, iE, iZ, xAug, xAssert, str_beq, insX, putFX, putX, valX, keyD_int, keyD_str, List.lookup, oInSet, xDisp, xPCons, xPNil, keysX, mergeX, rdL_app_ge, rdL_app_self, rdL_zero, rdL_succ, at_app_ge, at_app_self, at_zero, at_succ]
    refine wpe_k (by simpa using nm) ?_
    rintro _ S ⟨rfl, q, rfl, q0, q1⟩
    obtain ⟨a, ws, w1, w2, w3⟩ := h.A.wait
    simp (decide := true) [wpe_ret, wpe_exc, wpe_bind, wps_nx, wps_ret, wps_bk, wps_ct, wps_exc, wps_bindS, wps_seq, wps_xSeq, wps_toS, wpe_nox, defQ_ret, defQ_exc, wps_if, cn_k, cn_x, cx_n, cx_q, wpe_lst, wpe_dnew, wps_xSetF, wps_xAugF, wps_xDPut, gSub_eq, wpe_xMake, wps_xFor, wps_xForE, wpe_xLc, loopQ_ct, loopQ_bk, loopQ_ret, loopQ_exc, wpe_iteBad, wps_iteBad, oIC_wp, bList_wp, bListT_wp, oSlL_wp, oCat_wp, bListD_wp, mkRg_wp, bSet_wp, CDiv, CMul, RngOk, RgOk, -bList_tup, xLRg1, xLRg2, xErrF, xIsE, xRaise, RS.unset, RS.noexc, xNext, xAsg, gNameX, gConsX, gNilX, gTupX, xVar, xC, xOp, xUn, oI_int, oNeg_int, xB, asB_bl, xRet, xRetN, xDrop, xBreak, xCont, xCons, xNil, xTup, xCB, xCall, xCallX, xAnd, xOr, xNot, xAndV, xOrV, xNotV, xIf, xYes, xTru, truD, xIsN, xNotN, nonD, xFld, xMeth, xMethX, xBM, xDGet, xDIn, xPart, xNoPart, xSl, nox_ok, toS_ok, finX, iR1, iR2, iL, iT, iE, iZ, xAug, xAssert, str_beq, insX, putFX, putX, valX, keyD_int, keyD_str, List.lookup, oInSet, xDisp, xPCons, xPNil, keysX, mergeX, rdL_app_ge, rdL_app_self, rdL_zero, rdL_succ, at_app_ge, at_app_self, at_zero, at_succ, oIxL, rdL_lst h.d, rdL_lst h.t, atI, ixN, w1, bLen, itemsOf, w2]
    obtain ⟨fs, F, S1, f1, f2, f3, f4, f5⟩ := fates_ok (S := S) (m := q) (k := (ws.length : Int)) ⟨q0, q1⟩ (by omega)
    have nF : F ∉ lA.own := fun z => absurd (h.A.lt F z) (by omega)
    replace h := h.fr f2
    simp (decide := true) [wpe_ret, wpe_exc, wpe_bind, wps_nx, wps_ret, wps_bk, wps_ct, wps_exc, wps_bindS, wps_seq, wps_xSeq, wps_toS, wpe_nox, defQ_ret, defQ_exc, wps_if, cn_k, cn_x, cx_n, cx_q, wpe_lst, wpe_dnew, wps_xSetF, wps_xAugF, wps_xDPut, gSub_eq, wpe_xMake, wps_xFor, wps_xForE, wpe_xLc, loopQ_ct, loopQ_bk, loopQ_ret, loopQ_exc, wpe_iteBad, wps_iteBad, oIC_wp, bList_wp, bListT_wp, oSlL_wp, oCat_wp, bListD_wp, mkRg_wp, bSet_wp, CDiv, CMul, RngOk, RgOk, -bList_tup, xLRg1, xLRg2, xErrF, xIsE, xRaise, RS.unset, RS.noexc, xNext, xAsg, gNameX, gConsX, gNilX, gTupX, xVar, xC, xOp, xUn, oI_int, oNeg_int, xB, asB_bl, xRet, xRetN, xDrop, xBreak, xCont, xCons, xNil, xTup, xCB, xCall, xCallX, xAnd, xOr, xNot, xAndV, xOrV, xNotV, xIf, xYes, xTru, truD, xIsN, xNotN, nonD, xFld, xMeth, xMethX, xBM, xDGet, xDIn, xPart, xNoPart, xSl, nox_ok, toS_ok, finX, iR1, iR2, iL, iT, iE, iZ, xAug, xAssert, str_beq, insX, putFX, putX, valX, keyD_int, keyD_str, List.lookup, oInSet, xDisp, xPCons, xPNil, keysX, mergeX, rdL_app_ge, rdL_app_self, rdL_zero, rdL_succ, at_app_ge, at_app_self, at_zero, at_succ, f1, oIxL, rdL_lst h.d, rdL_lst h.t, atI, ixN]
    obtain ⟨S2, g1, g2⟩ := h.B.holds
    replace h := h.fr g2
    obtain ⟨lA', S3, k1, k2⟩ := h.callA hj (kd := 11) (b := 0) (c := .tup []) (F := F) (fs := fs) (by omega) (goodN_good (goodN_tup (m := 0) (by simp) (by simp)) (by decide)) (g2.rd f4 (by simp)) nF (by omega)
    simp (decide := true) [wpe_ret, wpe_exc, wpe_bind, wps_nx, wps_ret, wps_bk, wps_ct, wps_exc, wps_bindS, wps_seq, wps_xSeq, wps_toS, wpe_nox, defQ_ret, defQ_exc, wps_if, cn_k, cn_x, cx_n, cx_q, wpe_lst, wpe_dnew, wps_xSetF, wps_xAugF, wps_xDPut, gSub_eq, wpe_xMake, wps_xFor, wps_xForE, wpe_xLc, loopQ_ct, loopQ_bk, loopQ_ret, loopQ_exc, wpe_iteBad, wps_iteBad, oIC_wp, bList_wp, bListT_wp, oSlL_wp, oCat_wp, bListD_wp, mkRg_wp, bSet_wp, CDiv, CMul, RngOk, RgOk, -bList_tup, xLRg1, xLRg2, xErrF, xIsE, xRaise, RS.unset, RS.noexc, xNext, xAsg, gNameX, gConsX, gNilX, gTupX, xVar, xC, xOp, xUn, oI_int, oNeg_int, xB, asB_bl, xRet, xRetN, xDrop, xBreak, xCont, xCons, xNil, xTup, xCB, xCall, xCallX, xAnd, xOr, xNot, xAndV, xOrV, xNotV, xIf, xYes, xTru, truD, xIsN, xNotN, nonD, xFld, xMeth, xMethX, xBM, xDGet, xDIn, xPart, xNoPart, xSl, nox_ok, toS_ok, finX, iR1, iR2, iL, iT, iE, iZ, xAug, xAssert, str_beq, insX, putFX, putX, valX, keyD_int, keyD_str, List.lookup, oInSet, xDisp, xPCons, xPNil, keysX, mergeX, rdL_app_ge, rdL_app_self, rdL_zero, rdL_succ, at_app_ge, at_app_self, at_zero, at_succ, g1, oIxL, rdL_lst h.d, rdL_lst h.t, atI, ixN, k1]
    exact ⟨lA', lB, k2⟩
  · simp (decide := true) [wpe_ret, wpe_exc, wpe_bind, wps_nx, wps_ret, wps_bk, wps_ct, wps_exc, wps_bindS, wps_seq, wps_xSeq, wps_toS, wpe_nox, defQ_ret, defQ_exc, wps_if, cn_k, cn_x, cx_n, cx_q, wpe_lst, wpe_dnew, wps_xSetF, wps_xAugF, wps_xDPut, gSub_eq, wpe_xMake, wps_xFor, wps_xForE, wpe_xLc, loopQ_ct, loopQ_bk, loopQ_ret, loopQ_exc, wpe_iteBad, wps_iteBad, oIC_wp, bList_wp, bListT_wp, oSlL_wp, oCat_wp, bListD_wp, mkRg_wp, bSet_wp, CDiv, CMul, RngOk, RgOk, -bList_tup, xLRg1, xLRg2, xErrF, xIsE, xRaise, RS.unset, RS.noexc, xNext, xAsg, gNameX, gConsX, gNilX, gTupX, xVar, xC, xOp, xUn, oI_int, oNeg_int, xB, asB_bl, xRet, xRetN, xDrop, xBreak, xCont, xCons, xNil, xTup, xCB, xCall, xCallX, xAnd, xOr, xNot, xAndV, xOrV, xNotV, xIf, xYes, xTru, truD, xIsN, xNotN, nonD, xFld, xMeth, xMethX, xBM, xDGet, xDIn, xPart, xNoPart, xSl, nox_ok, toS_ok, finX, iR1, iR2, iL, iT, iE, iZ, xAug, xAssert, str_beq, insX, putFX, putX, valX, keyD_int, keyD_str, List.lookup, oInSet, xDisp, xPCons, xPNil, keysX, mergeX, rdL_app_ge, rdL_app_self, rdL_zero, rdL_succ, at_app_ge, at_app_self, at_zero, at_succ]
    refine wpe_k (by simpa using nm) ?_
    rintro _ S ⟨rfl, q, rfl, q0, q1⟩
    obtain ⟨a, ws, w1, w2, w3⟩ := h.B.wait
    simp (decide := true) [wpe_ret, wpe_exc, wpe_bind, wps_nx, wps_ret, wps_bk, wps_ct, wps_exc, wps_bindS, wps_seq, wps_xSeq, wps_toS, wpe_nox, defQ_ret, defQ_exc, wps_if, cn_k, cn_x, cx_n, cx_q, wpe_lst, wpe_dnew, wps_xSetF, wps_xAugF, wps_xDPut, gSub_eq, wpe_xMake, wps_xFor, wps_xForE, wpe_xLc, loopQ_ct, loopQ_bk, loopQ_ret, loopQ_exc, wpe_iteBad, wps_iteBad, oIC_wp, bList_wp, bListT_wp, oSlL_wp, oCat_wp, bListD_wp, mkRg_wp, bSet_wp, CDiv, CMul, RngOk, RgOk, -bList_tup, xLRg1, xLRg2, xErrF, xIsE, xRaise, RS.unset, RS.noexc, xNext, xAsg, gNameX, gConsX, gNilX, gTupX, xVar, xC, xOp, xUn, oI_int, oNeg_int, xB, asB_bl, xRet, xRetN, xDrop, xBreak, xCont, xCons, xNil, xTup, xCB, xCall, xCallX, xAnd, xOr, xNot, xAndV, xOrV, xNotV, xIf, xYes, xTru, truD, xIsN, xNotN, nonD, xFld, xMeth, xMethX, xBM, xDGet, xDIn, xPart, xNoPart, xSl, nox_ok, toS_ok, finX, iR1, iR2, iL, iT, iE, iZ, xAug, xAssert, str_beq, insX, putFX, putX, valX, keyD_int, keyD_str, List.lookup, oInSet, xDisp, xPCons, xPNil, keysX, mergeX, rdL_app_ge, rdL_app_self, rdL_zero, rdL_succ, at_app_ge, at_app_self, at_zero, at_succ, oIxL, rdL_lst h.d, rdL_lst h.t, atI, ixN, w1, bLen, itemsOf, w2]
    obtain ⟨fs, F, S1, f1, f2, f3, f4, f5⟩ := fates_ok (S := S) (m := q) (k := (ws.length : Int)) ⟨q0, q1⟩ (by omega)
    have nF : F ∉ lB.own := fun z => absurd (h.B.lt F z) (by omega)
    replace h := h.fr f2
    simp (decide := true) [wpe_ret, wpe_exc, wpe_bind, wps_nx, wps_ret, wps_bk, wps_ct, wps_exc, wps_bindS, wps_seq, wps_xSeq, wps_toS, wpe_nox, defQ_ret, defQ_exc, wps_if, cn_k, cn_x, cx_n, cx_q, wpe_lst, wpe_dnew, wps_xSetF, wps_xAugF, wps_xDPut, gSub_eq, wpe_xMake, wps_xFor, wps_xForE, wpe_xLc, loopQ_ct, loopQ_bk, loopQ_ret, loopQ_exc, wpe_iteBad, wps_iteBad, oIC_wp, bList_wp, bListT_wp, oSlL_wp, oCat_wp, bListD_wp, mkRg_wp, bSet_wp, CDiv, CMul, RngOk, RgOk, -bList_tup, xLRg1, xLRg2, xErrF, xIsE, xRaise, RS.unset, RS.noexc, xNext, xAsg, gNameX, gConsX, gNilX, gTupX, xVar, xC, xOp, xUn, oI_int, oNeg_int, xB, asB_bl, xRet, xRetN, xDrop, xBreak, xCont, xCons, xNil, xTup, xCB, xCall, xCallX, xAnd, xOr, xNot, xAndV, xOrV, xNotV, xIf, xYes, xTru, truD, xIsN, xNotN, nonD, xFld, xMeth, xMethX, xBM, xDGet, xDIn, xPart, xNoPart, xSl, nox_ok, toS_ok, finX, iR1, iR2, iL, iT, iE, iZ, xAug, xAssert, str_beq, insX, putFX, putX, valX, keyD_int, keyD_str, List.lookup, oInSet, xDisp, xPCons, xPNil, keysX, mergeX, rdL_app_ge, rdL_app_self, rdL_zero, rdL_succ, at_app_ge, at_app_self, at_zero, at_succ, f1, oIxL, rdL_lst h.d, rdL_lst h.t, atI, ixN]
    obtain ⟨S2, g1, g2⟩ := h.A.holds
    replace h := h.fr g2
    obtain ⟨lB', S3, k1, k2⟩ := h.callB hj (kd := 11) (b := 0) (c := .tup []) (F := F) (fs := fs) (by omega) (goodN_good (goodN_tup (m := 0) (by simp) (by simp)) (by decide)) (g2.rd f4 (by simp)) nF (by omega)
    simp (decide := true) [wpe_ret, wpe_exc, wpe_bind, wps_nx, wps_ret, wps_bk, wps_ct, wps_exc, wps_bindS, wps_seq, wps_xSeq, wps_toS, wpe_nox, defQ_ret, defQ_exc, wps_if, cn_k, cn_x, cx_n, cx_q, wpe_lst, wpe_dnew, wps_xSetF, wps_xAugF, wps_xDPut, gSub_eq, wpe_xMake, wps_xFor, wps_xForE, wpe_xLc, loopQ_ct, loopQ_bk, loopQ_ret, loopQ_exc, wpe_iteBad, wps_iteBad, oIC_wp, bList_wp, bListT_wp, oSlL_wp, oCat_wp, bListD_wp, mkRg_wp, bSet_wp, CDiv, CMul, RngOk, RgOk, -bList_tup, xLRg1, xLRg2, xErrF, xIsE, xRaise, RS.unset, RS.noexc, xNext, xAsg, gNameX, gConsX, gNilX, gTupX, xVar, xC, xOp, xUn, oI_int, oNeg_int, xB, asB_bl, xRet, xRetN, xDrop, xBreak, xCont, xCons, xNil, xTup, xCB, xCall, xCallX, xAnd, xOr, xNot, xAndV, xOrV, xNotV, xIf, xYes, xTru, truD, xIsN, xNotN, nonD, xFld, xMeth, xMethX, xBM, xDGet, xDIn, xPart, xNoPart, xSl, nox_ok, toS_ok, finX, iR1, iR2, iL, iT, iE, iZ, xAug, xAssert, str_beq, insX, putFX, putX, valX, keyD_int, keyD_str, List.lookup, oInSet, xDisp, xPCons, xPNil, keysX, mergeX, rdL_app_ge, rdL_app_self, rdL_zero, rdL_succ, at_app_ge, at_app_self, at_zero, at_succ, g1, oIxL, rdL_lst h.d, rdL_lst h.t, atI, ixN, k1]
    exact ⟨lA, lB', k2⟩
end

section
open Mi
theorem atN {n0 n1 : Nat} {i : Int} (hi : i = 0 ∨ i = 1) : L2.atI [D.int n0, D.int n1] i = some (.int (if i = 0 then (n0 : Int) else n1)) := by rcases hi with rfl | rfl <;> rfl
theorem at5 {N q : Int} (hq : 0 ≤ q ∧ q < 5) (hN : 2 ≤ N ∧ N ≤ 600) : ∃ b : Int, L2.atI [D.int (-1), D.int N, D.int (N + 1), D.int (-N), D.int (N + 1000)] q = some (.int b) ∧ -10000 ≤ b ∧ b ≤ 10000 := by
  have : q = 0 ∨ q = 1 ∨ q = 2 ∨ q = 3 ∨ q = 4 := by omega
  rcases this with rfl | rfl | rfl | rfl | rfl
  · exact ⟨_, rfl, by omega, by omega⟩
  · exact ⟨_, rfl, by omega, by omega⟩
  · exact ⟨_, rfl, by omega, by omega⟩
  · exact ⟨_, rfl, by omega, by omega⟩
  · exact ⟨_, rfl, by omega, by omega⟩
/-- the turn of the law's first loop -/
theorem turn1 {S : Sto} {ns : List Int} {C DV PV n0 n1 j : Nat} {a : Int} {lA lB : Pl} {e5 : Int} (h : Wd S ns C DV PV n0 n1 lA lB j) (hl : ns.length ≤ 63) (hj : j ≤ 80) (ha : 1 ≤ a ∧ a ≤ 100) (hz : 2 ≤ n0 ∧ n0 ≤ 600 ∧ 2 ≤ n1 ∧ n1 ≤ 600) {o4 o7 o8 o9 o10 o11 o12 : Option D} {Q : RS → Prop} :
    wps (K := ⟨fun e S' => ∃ o7 o8 o9 o10 o11 o12 lA' lB', e = [some (.ref 0), some (.ref C), some (.ref DV), some (.ref PV), o4, some (.int e5), some (.int a), o7, o8, o9, o10, o11, o12] ∧ Wd S' ns C DV PV n0 n1 lA' lB' (j + 1), Q⟩) (f_law_b1 [some (.ref 0), some (.ref C), some (.ref DV), some (.ref PV), o4, some (.int e5), some (.int a), o7, o8, o9, o10, o11, o12] S) := by
  unfold f_law_b1
  simp (decide := true) [wpe_ret, wpe_exc, wpe_bind, wps_nx, wps_ret, wps_bk, wps_ct, wps_exc, wps_bindS, wps_seq, wps_xSeq, wps_toS, wpe_nox, defQ_ret, defQ_exc, wps_if, cn_k, cn_x, cx_n, cx_q, wpe_lst, wpe_dnew, wps_xSetF, wps_xAugF, wps_xDPut, gSub_eq, wpe_xMake, wps_xFor, wps_xForE, wpe_xLc, loopQ_ct, loopQ_bk, loopQ_ret, loopQ_exc, wpe_iteBad, wps_iteBad, oIC_wp, bList_wp, bListT_wp, oSlL_wp, oCat_wp, bListD_wp, mkRg_wp, bSet_wp, CDiv, CMul, RngOk, RgOk, -bList_tup, xLRg1, xLRg2, xErrF, xIsE, xRaise, RS.unset, RS.noexc, xNext, xAsg, gNameX, gConsX, gNilX, gTupX, xVar, xC, xOp, xUn, oI_int, oNeg_int, xB, asB_bl, xRet, xRetN, xDrop, xBreak, xCont, xCons, xNil, xTup, xCB, xCall, xCallX, xAnd, xOr, xNot, xAndV, xOrV, xNotV, xIf, xYes, xTru, truD, xIsN, xNotN, nonD, xFld, xMeth, xMethX, xBM, xDGet, xDIn, xPart, xNoPart, xSl, nox_ok, toS_ok, finX, iR1, iR2, iL, iT, iE, iZ, xAug, xAssert, str_beq, insX, putFX, putX, valX, keyD_int, keyD_str, List.lookup, oInSet, xDisp, xPCons, xPNil, keysX, mergeX, rdL_app_ge, rdL_app_self, rdL_zero, rdL_succ, at_app_ge, at_app_self, at_zero, at_succ]
  refine wpe_k (num_ok h.hn hl (by unfold NumOk; omega)) ?_
  rintro _ S ⟨rfl, w, rfl, w0, w1⟩
  have hw : w = 0 ∨ w = 1 := by omega
  simp (decide := true) [wpe_ret, wpe_exc, wpe_bind, wps_nx, wps_ret, wps_bk, wps_ct, wps_exc, wps_bindS, wps_seq, wps_xSeq, wps_toS, wpe_nox, defQ_ret, defQ_exc, wps_if, cn_k, cn_x, cx_n, cx_q, wpe_lst, wpe_dnew, wps_xSetF, wps_xAugF, wps_xDPut, gSub_eq, wpe_xMake, wps_xFor, wps_xForE, wpe_xLc, loopQ_ct, loopQ_bk, loopQ_ret, loopQ_exc, wpe_iteBad, wps_iteBad, oIC_wp, bList_wp, bListT_wp, oSlL_wp, oCat_wp, bListD_wp, mkRg_wp, bSet_wp, CDiv, CMul, RngOk, RgOk, -bList_tup, xLRg1, xLRg2, xErrF, xIsE, xRaise, RS.unset, RS.noexc, xNext, xAsg, gNameX, gConsX, gNilX, gTupX, xVar, xC, xOp, xUn, oI_int, oNeg_int, xB, asB_bl, xRet, xRetN, xDrop, xBreak, xCont, xCons, xNil, xTup, xCB, xCall, xCallX, xAnd, xOr, xNot, xAndV, xOrV, xNotV, xIf, xYes, xTru, truD, xIsN, xNotN, nonD, xFld, xMeth, xMethX, xBM, xDGet, xDIn, xPart, xNoPart, xSl, nox_ok, toS_ok, finX, iR1, iR2, iL, iT, iE, iZ, xAug, xAssert, str_beq, insX, putFX, putX, valX, keyD_int, keyD_str, List.lookup, oInSet, xDisp, xPCons, xPNil, keysX, mergeX, rdL_app_ge, rdL_app_self, rdL_zero, rdL_succ, at_app_ge, at_app_self, at_zero, at_succ, oIxL, rdL_lst h.c, atN hw]
  generalize hN : (if w = 0 then (n0 : Int) else n1) = N
  have hN' : 2 ≤ N ∧ N ≤ 600 := by split at hN <;> omega
  refine wpe_k (num_ok h.hn hl (by unfold NumOk; omega)) ?_
  rintro _ S ⟨rfl, m, rfl, m0, m1⟩
  simp (decide := true) [wpe_ret, wpe_exc, wpe_bind, wps_nx, wps_ret, wps_bk, wps_ct, wps_exc, wps_bindS, wps_seq, wps_xSeq, wps_toS, wpe_nox, defQ_ret, defQ_exc, wps_if, cn_k, cn_x, cx_n, cx_q, wpe_lst, wpe_dnew, wps_xSetF, wps_xAugF, wps_xDPut, gSub_eq, wpe_xMake, wps_xFor, wps_xForE, wpe_xLc, loopQ_ct, loopQ_bk, loopQ_ret, loopQ_exc, wpe_iteBad, wps_iteBad, oIC_wp, bList_wp, bListT_wp, oSlL_wp, oCat_wp, bListD_wp, mkRg_wp, bSet_wp, CDiv, CMul, RngOk, RgOk, -bList_tup, xLRg1, xLRg2, xErrF, xIsE, xRaise, RS.unset, RS.noexc, xNext, xAsg, gNameX, gConsX, gNilX, gTupX, xVar, xC, xOp, xUn, oI_int, oNeg_int, xB, asB_bl, xRet, xRetN, xDrop, xBreak, xCont, xCons, xNil, xTup, xCB, xCall, xCallX, xAnd, xOr, xNot, xAndV, xOrV, xNotV, xIf, xYes, xTru, truD, xIsN, xNotN, nonD, xFld, xMeth, xMethX, xBM, xDGet, xDIn, xPart, xNoPart, xSl, nox_ok, toS_ok, finX, iR1, iR2, iL, iT, iE, iZ, xAug, xAssert, str_beq, insX, putFX, putX, valX, keyD_int, keyD_str, List.lookup, oInSet, xDisp, xPCons, xPNil, keysX, mergeX, rdL_app_ge, rdL_app_self, rdL_zero, rdL_succ, at_app_ge, at_app_self, at_zero, at_succ, show 0 < N by omega]
  refine wps_k (N := fun e S' => ∃ b : Int, e = [some (.ref 0), some (.ref C), some (.ref DV), some (.ref PV), o4, some (.int e5), some (.int a), some (.int w), some (.int N), some (.int m), some (.int b), o11, o12] ∧ -10000 ≤ b ∧ b ≤ 10000 ∧ Wd S' ns C DV PV n0 n1 lA lB j) (Q := fun _ => False) ?_ ?_ (fun _ z => z.elim)
  · refine wps_ite (fun _ => ?_) (fun _ => ?_)
    · obtain ⟨b, hb, b0, b1⟩ := at5 (N := N) (q := m / 9 % 5) (by omega) hN'
      simp (decide := true) [wpe_ret, wpe_exc, wpe_bind, wps_nx, wps_ret, wps_bk, wps_ct, wps_exc, wps_bindS, wps_seq, wps_xSeq, wps_toS, wpe_nox, defQ_ret, defQ_exc, wps_if, cn_k, cn_x, cx_n, cx_q, wpe_lst, wpe_dnew, wps_xSetF, wps_xAugF, wps_xDPut, gSub_eq, wpe_xMake, wps_xFor, wps_xForE, wpe_xLc, loopQ_ct, loopQ_bk, loopQ_ret, loopQ_exc, wpe_iteBad, wps_iteBad, oIC_wp, bList_wp, bListT_wp, oSlL_wp, oCat_wp, bListD_wp, mkRg_wp, bSet_wp, CDiv, CMul, RngOk, RgOk, -bList_tup, xLRg1, xLRg2, xErrF, xIsE, xRaise, RS.unset, RS.noexc, xNext, xAsg, gNameX, gConsX, gNilX, gTupX, xVar, xC, xOp, xUn, oI_int, oNeg_int, xB, asB_bl, xRet, xRetN, xDrop, xBreak, xCont, xCons, xNil, xTup, xCB, xCall, xCallX, xAnd, xOr, xNot, xAndV, xOrV, xNotV, xIf, xYes, xTru, truD, xIsN, xNotN, nonD, xFld, xMeth, xMethX, xBM, xDGet, xDIn, xPart, xNoPart, xSl, nox_ok, toS_ok, finX, iR1, iR2, iL, iT, iE, iZ, xAug, xAssert, str_beq, insX, putFX, putX, valX, keyD_int, keyD_str, List.lookup, oInSet, xDisp, xPCons, xPNil, keysX, mergeX, rdL_app_ge, rdL_app_self, rdL_zero, rdL_succ, at_app_ge, at_app_self, at_zero, at_succ, allo, oIxL, rdL_app_self, rdL_zero, hb]
      exact ⟨b0, b1, h.fr FrO.app⟩
    · have := Int.emod_lt_of_pos (m / 9 * 7 + a) (show 0 < N by omega)
      have := Int.emod_nonneg (m / 9 * 7 + a) (show N ≠ 0 by omega)
      exact ⟨_, rfl, by omega, by omega, h⟩
  rintro _ S ⟨b, rfl, b0, b1, h⟩
  simp (decide := true) [wpe_ret, wpe_exc, wpe_bind, wps_nx, wps_ret, wps_bk, wps_ct, wps_exc, wps_bindS, wps_seq, wps_xSeq, wps_toS, wpe_nox, defQ_ret, defQ_exc, wps_if, cn_k, cn_x, cx_n, cx_q, wpe_lst, wpe_dnew, wps_xSetF, wps_xAugF, wps_xDPut, gSub_eq, wpe_xMake, wps_xFor, wps_xForE, wpe_xLc, loopQ_ct, loopQ_bk, loopQ_ret, loopQ_exc, wpe_iteBad, wps_iteBad, oIC_wp, bList_wp, bListT_wp, oSlL_wp, oCat_wp, bListD_wp, mkRg_wp, bSet_wp, CDiv, CMul, RngOk, RgOk, -bList_tup, xLRg1, xLRg2, xErrF, xIsE, xRaise, RS.unset, RS.noexc, xNext, xAsg, gNameX, gConsX, gNilX, gTupX, xVar, xC, xOp, xUn, oI_int, oNeg_int, xB, asB_bl, xRet, xRetN, xDrop, xBreak, xCont, xCons, xNil, xTup, xCB, xCall, xCallX, xAnd, xOr, xNot, xAndV, xOrV, xNotV, xIf, xYes, xTru, truD, xIsN, xNotN, nonD, xFld, xMeth, xMethX, xBM, xDGet, xDIn, xPart, xNoPart, xSl, nox_ok, toS_ok, finX, iR1, iR2, iL, iT, iE, iZ, xAug, xAssert, str_beq, insX, putFX, putX, valX, keyD_int, keyD_str, List.lookup, oInSet, xDisp, xPCons, xPNil, keysX, mergeX, rdL_app_ge, rdL_app_self, rdL_zero, rdL_succ, at_app_ge, at_app_self, at_zero, at_succ]
  refine wpe_k (P := fun (_ : Bool) S' => S' = S) ?_ ?_
  · unfold Ok f_law_t1
    simp (decide := true) [wpe_ret, wpe_exc, wpe_bind, wps_nx, wps_ret, wps_bk, wps_ct, wps_exc, wps_bindS, wps_seq, wps_xSeq, wps_toS, wpe_nox, defQ_ret, defQ_exc, wps_if, cn_k, cn_x, cx_n, cx_q, wpe_lst, wpe_dnew, wps_xSetF, wps_xAugF, wps_xDPut, gSub_eq, wpe_xMake, wps_xFor, wps_xForE, wpe_xLc, loopQ_ct, loopQ_bk, loopQ_ret, loopQ_exc, wpe_iteBad, wps_iteBad, oIC_wp, bList_wp, bListT_wp, oSlL_wp, oCat_wp, bListD_wp, mkRg_wp, bSet_wp, CDiv, CMul, RngOk, RgOk, -bList_tup, xLRg1, xLRg2, xErrF, xIsE, xRaise, RS.unset, RS.noexc, xNext, xAsg, gNameX, gConsX, gNilX, gTupX, xVar, xC, xOp, xUn, oI_int, oNeg_int, xB, asB_bl, xRet, xRetN, xDrop, xBreak, xCont, xCons, xNil, xTup, xCB, xCall, xCallX, xAnd, xOr, xNot, xAndV, xOrV, xNotV, xIf, xYes, xTru, truD, xIsN, xNotN, nonD, xFld, xMeth, xMethX, xBM, xDGet, xDIn, xPart, xNoPart, xSl, nox_ok, toS_ok, finX, iR1, iR2, iL, iT, iE, iZ, xAug, xAssert, str_beq, insX, putFX, putX, valX, keyD_int, keyD_str, List.lookup, oInSet, xDisp, xPCons, xPNil, keysX, mergeX, rdL_app_ge, rdL_app_self, rdL_zero, rdL_succ, at_app_ge, at_app_self, at_zero, at_succ]
    exact wpe_ite (fun _ => rfl) (fun _ => rfl)
  rintro t S rfl
  simp only [cn_k]
  refine wps_k (N := fun e S' => ∃ b : Int, e = [some (.ref 0), some (.ref C), some (.ref DV), some (.ref PV), o4, some (.int e5), some (.int a), some (.int w), some (.int N), some (.int m), some (.int b), o11, o12] ∧ -10000 ≤ b ∧ b ≤ 10000 ∧ Wd S' ns C DV PV n0 n1 lA lB j) (Q := fun _ => False) ?_ ?_ (fun _ z => z.elim)
  · refine wps_ite (fun _ => ?_) (fun _ => ⟨b, rfl, b0, b1, h⟩)
    have : 0 < (if N < 3 then N else 3) := by split <;> omega
    have h1 := Int.emod_lt_of_pos (m / 9) this
    have h2 := Int.emod_nonneg (m / 9) (show (if N < 3 then N else 3) ≠ 0 by omega)
    simp (decide := true) [wpe_ret, wpe_exc, wpe_bind, wps_nx, wps_ret, wps_bk, wps_ct, wps_exc, wps_bindS, wps_seq, wps_xSeq, wps_toS, wpe_nox, defQ_ret, defQ_exc, wps_if, cn_k, cn_x, cx_n, cx_q, wpe_lst, wpe_dnew, wps_xSetF, wps_xAugF, wps_xDPut, gSub_eq, wpe_xMake, wps_xFor, wps_xForE, wpe_xLc, loopQ_ct, loopQ_bk, loopQ_ret, loopQ_exc, wpe_iteBad, wps_iteBad, oIC_wp, bList_wp, bListT_wp, oSlL_wp, oCat_wp, bListD_wp, mkRg_wp, bSet_wp, CDiv, CMul, RngOk, RgOk, -bList_tup, xLRg1, xLRg2, xErrF, xIsE, xRaise, RS.unset, RS.noexc, xNext, xAsg, gNameX, gConsX, gNilX, gTupX, xVar, xC, xOp, xUn, oI_int, oNeg_int, xB, asB_bl, xRet, xRetN, xDrop, xBreak, xCont, xCons, xNil, xTup, xCB, xCall, xCallX, xAnd, xOr, xNot, xAndV, xOrV, xNotV, xIf, xYes, xTru, truD, xIsN, xNotN, nonD, xFld, xMeth, xMethX, xBM, xDGet, xDIn, xPart, xNoPart, xSl, nox_ok, toS_ok, finX, iR1, iR2, iL, iT, iE, iZ, xAug, xAssert, str_beq, insX, putFX, putX, valX, keyD_int, keyD_str, List.lookup, oInSet, xDisp, xPCons, xPNil, keysX, mergeX, rdL_app_ge, rdL_app_self, rdL_zero, rdL_succ, at_app_ge, at_app_self, at_zero, at_succ]
    exact ⟨this, by omega, by omega, h⟩
  rintro _ S ⟨b, rfl, b0, b1, h⟩
  simp (decide := true) [wpe_ret, wpe_exc, wpe_bind, wps_nx, wps_ret, wps_bk, wps_ct, wps_exc, wps_bindS, wps_seq, wps_xSeq, wps_toS, wpe_nox, defQ_ret, defQ_exc, wps_if, cn_k, cn_x, cx_n, cx_q, wpe_lst, wpe_dnew, wps_xSetF, wps_xAugF, wps_xDPut, gSub_eq, wpe_xMake, wps_xFor, wps_xForE, wpe_xLc, loopQ_ct, loopQ_bk, loopQ_ret, loopQ_exc, wpe_iteBad, wps_iteBad, oIC_wp, bList_wp, bListT_wp, oSlL_wp, oCat_wp, bListD_wp, mkRg_wp, bSet_wp, CDiv, CMul, RngOk, RgOk, -bList_tup, xLRg1, xLRg2, xErrF, xIsE, xRaise, RS.unset, RS.noexc, xNext, xAsg, gNameX, gConsX, gNilX, gTupX, xVar, xC, xOp, xUn, oI_int, oNeg_int, xB, asB_bl, xRet, xRetN, xDrop, xBreak, xCont, xCons, xNil, xTup, xCB, xCall, xCallX, xAnd, xOr, xNot, xAndV, xOrV, xNotV, xIf, xYes, xTru, truD, xIsN, xNotN, nonD, xFld, xMeth, xMethX, xBM, xDGet, xDIn, xPart, xNoPart, xSl, nox_ok, toS_ok, finX, iR1, iR2, iL, iT, iE, iZ, xAug, xAssert, str_beq, insX, putFX, putX, valX, keyD_int, keyD_str, List.lookup, oInSet, xDisp, xPCons, xPNil, keysX, mergeX, rdL_app_ge, rdL_app_self, rdL_zero, rdL_succ, at_app_ge, at_app_self, at_zero, at_succ]
  refine wpe_k (num_ok h.hn hl (by unfold NumOk; omega)) ?_
  rintro _ S ⟨rfl, c1, rfl, c10, c11⟩
  simp (decide := true) [wpe_ret, wpe_exc, wpe_bind, wps_nx, wps_ret, wps_bk, wps_ct, wps_exc, wps_bindS, wps_seq, wps_xSeq, wps_toS, wpe_nox, defQ_ret, defQ_exc, wps_if, cn_k, cn_x, cx_n, cx_q, wpe_lst, wpe_dnew, wps_xSetF, wps_xAugF, wps_xDPut, gSub_eq, wpe_xMake, wps_xFor, wps_xForE, wpe_xLc, loopQ_ct, loopQ_bk, loopQ_ret, loopQ_exc, wpe_iteBad, wps_iteBad, oIC_wp, bList_wp, bListT_wp, oSlL_wp, oCat_wp, bListD_wp, mkRg_wp, bSet_wp, CDiv, CMul, RngOk, RgOk, -bList_tup, xLRg1, xLRg2, xErrF, xIsE, xRaise, RS.unset, RS.noexc, xNext, xAsg, gNameX, gConsX, gNilX, gTupX, xVar, xC, xOp, xUn, oI_int, oNeg_int, xB, asB_bl, xRet, xRetN, xDrop, xBreak, xCont, xCons, xNil, xTup, xCB, xCall, xCallX, xAnd, xOr, xNot, xAndV, xOrV, xNotV, xIf, xYes, xTru, truD, xIsN, xNotN, nonD, xFld, xMeth, xMethX, xBM, xDGet, xDIn, xPart, xNoPart, xSl, nox_ok, toS_ok, finX, iR1, iR2, iL, iT, iE, iZ, xAug, xAssert, str_beq, insX, putFX, putX, valX, keyD_int, keyD_str, List.lookup, oInSet, xDisp, xPCons, xPNil, keysX, mergeX, rdL_app_ge, rdL_app_self, rdL_zero, rdL_succ, at_app_ge, at_app_self, at_zero, at_succ]
  refine wpe_k (num_ok h.hn hl (by unfold NumOk; omega)) ?_
  rintro _ S ⟨rfl, c2, rfl, c20, c21⟩
  obtain ⟨c, S1, k1, k2, k3⟩ := content_ok (S := S) ⟨c10, c11⟩ ⟨c20, c21⟩
  replace h := h.fr k2
  simp (decide := true) [wpe_ret, wpe_exc, wpe_bind, wps_nx, wps_ret, wps_bk, wps_ct, wps_exc, wps_bindS, wps_seq, wps_xSeq, wps_toS, wpe_nox, defQ_ret, defQ_exc, wps_if, cn_k, cn_x, cx_n, cx_q, wpe_lst, wpe_dnew, wps_xSetF, wps_xAugF, wps_xDPut, gSub_eq, wpe_xMake, wps_xFor, wps_xForE, wpe_xLc, loopQ_ct, loopQ_bk, loopQ_ret, loopQ_exc, wpe_iteBad, wps_iteBad, oIC_wp, bList_wp, bListT_wp, oSlL_wp, oCat_wp, bListD_wp, mkRg_wp, bSet_wp, CDiv, CMul, RngOk, RgOk, -bList_tup, xLRg1, xLRg2, xErrF, xIsE, xRaise, RS.unset, RS.noexc, xNext, xAsg, gNameX, gConsX, gNilX, gTupX, xVar, xC, xOp, xUn, oI_int, oNeg_int, xB, asB_bl, xRet, xRetN, xDrop, xBreak, xCont, xCons, xNil, xTup, xCB, xCall, xCallX, xAnd, xOr, xNot, xAndV, xOrV, xNotV, xIf, xYes, xTru, truD, xIsN, xNotN, nonD, xFld, xMeth, xMethX, xBM, xDGet, xDIn, xPart, xNoPart, xSl, nox_ok, toS_ok, finX, iR1, iR2, iL, iT, iE, iZ, xAug, xAssert, str_beq, insX, putFX, putX, valX, keyD_int, keyD_str, List.lookup, oInSet, xDisp, xPCons, xPNil, keysX, mergeX, rdL_app_ge, rdL_app_self, rdL_zero, rdL_succ, at_app_ge, at_app_self, at_zero, at_succ, k1]
  refine wpe_k (num_ok h.hn hl (by unfold NumOk; omega)) ?_
  rintro _ S ⟨rfl, q, rfl, q0, q1⟩
  rcases hw with rfl | rfl
  · obtain ⟨a, ws, w1, w2, w3⟩ := h.A.wait
    simp (decide := true) [wpe_ret, wpe_exc, wpe_bind, wps_nx, wps_ret, wps_bk, wps_ct, wps_exc, wps_bindS, wps_seq, wps_xSeq, wps_toS, wpe_nox, defQ_ret, defQ_exc, wps_if, cn_k, cn_x, cx_n, cx_q, wpe_lst, wpe_dnew, wps_xSetF, wps_xAugF, wps_xDPut, gSub_eq, wpe_xMake, wps_xFor, wps_xForE, wpe_xLc, loopQ_ct, loopQ_bk, loopQ_ret, loopQ_exc, wpe_iteBad, wps_iteBad, oIC_wp, bList_wp, bListT_wp, oSlL_wp, oCat_wp, bListD_wp, mkRg_wp, bSet_wp, CDiv, CMul, RngOk, RgOk, -bList_tup, xLRg1, xLRg2, xErrF, xIsE, xRaise, RS.unset, RS.noexc, xNext, xAsg, gNameX, gConsX, gNilX, gTupX, xVar, xC, xOp, xUn, oI_int, oNeg_int, xB, asB_bl, xRet, xRetN, xDrop, xBreak, xCont, xCons, xNil, xTup, xCB, xCall, xCallX, xAnd, xOr, xNot, xAndV, xOrV, xNotV, xIf, xYes, xTru, truD, xIsN, xNotN, nonD, xFld, xMeth, xMethX, xBM, xDGet, xDIn, xPart, xNoPart, xSl, nox_ok, toS_ok, finX, iR1, iR2, iL, iT, iE, iZ, xAug, xAssert, str_beq, insX, putFX, putX, valX, keyD_int, keyD_str, List.lookup, oInSet, xDisp, xPCons, xPNil, keysX, mergeX, rdL_app_ge, rdL_app_self, rdL_zero, rdL_succ, at_app_ge, at_app_self, at_zero, at_succ, oIxL, rdL_lst h.d, rdL_lst h.t, atI, ixN, w1, bLen, itemsOf, w2]
    obtain ⟨fs, F, S1, f1, f2, f3, f4, f5⟩ := fates_ok (S := S) (m := q) (k := (ws.length : Int)) ⟨q0, q1⟩ (by omega)
    have nF : F ∉ lA.own := fun z => absurd (h.A.lt F z) (by omega)
    replace h := h.fr f2
    simp (decide := true) [wpe_ret, wpe_exc, wpe_bind, wps_nx, wps_ret, wps_bk, wps_ct, wps_exc, wps_bindS, wps_seq, wps_xSeq, wps_toS, wpe_nox, defQ_ret, defQ_exc, wps_if, cn_k, cn_x, cx_n, cx_q, wpe_lst, wpe_dnew, wps_xSetF, wps_xAugF, wps_xDPut, gSub_eq, wpe_xMake, wps_xFor, wps_xForE, wpe_xLc, loopQ_ct, loopQ_bk, loopQ_ret, loopQ_exc, wpe_iteBad, wps_iteBad, oIC_wp, bList_wp, bListT_wp, oSlL_wp, oCat_wp, bListD_wp, mkRg_wp, bSet_wp, CDiv, CMul, RngOk, RgOk, -bList_tup, xLRg1, xLRg2, xErrF, xIsE, xRaise, RS.unset, RS.noexc, xNext, xAsg, gNameX, gConsX, gNilX, gTupX, xVar, xC, xOp, xUn, oI_int, oNeg_int, xB, asB_bl, xRet, xRetN, xDrop, xBreak, xCont, xCons, xNil, xTup, xCB, xCall, xCallX, xAnd, xOr, xNot, xAndV, xOrV, xNotV, xIf, xYes, xTru, truD, xIsN, xNotN, nonD, xFld, xMeth, xMethX, xBM, xDGet, xDIn, xPart, xNoPart, xSl, nox_ok, toS_ok, finX, iR1, iR2, iL, iT, iE, iZ, xAug, xAssert, str_beq, insX, putFX, putX, valX, keyD_int, keyD_str, List.lookup, oInSet, xDisp, xPCons, xPNil, keysX, mergeX, rdL_app_ge, rdL_app_self, rdL_zero, rdL_succ, at_app_ge, at_app_self, at_zero, at_succ, f1, oIxL, rdL_lst h.d, rdL_lst h.t, atI, ixN]
    refine wpe_k (num_ok h.hn hl (by unfold NumOk; omega)) ?_
    rintro _ S ⟨rfl, kd, rfl, kd0, kd1⟩
    obtain ⟨lA', S3, k1, k2⟩ := h.callA hj (kd := kd) (b := b) (c := c) (F := F) (fs := fs) ⟨b0, b1⟩ k3 f4 nF (by omega)
    replace h := k2
    simp (decide := true) [wpe_ret, wpe_exc, wpe_bind, wps_nx, wps_ret, wps_bk, wps_ct, wps_exc, wps_bindS, wps_seq, wps_xSeq, wps_toS, wpe_nox, defQ_ret, defQ_exc, wps_if, cn_k, cn_x, cx_n, cx_q, wpe_lst, wpe_dnew, wps_xSetF, wps_xAugF, wps_xDPut, gSub_eq, wpe_xMake, wps_xFor, wps_xForE, wpe_xLc, loopQ_ct, loopQ_bk, loopQ_ret, loopQ_exc, wpe_iteBad, wps_iteBad, oIC_wp, bList_wp, bListT_wp, oSlL_wp, oCat_wp, bListD_wp, mkRg_wp, bSet_wp, CDiv, CMul, RngOk, RgOk, -bList_tup, xLRg1, xLRg2, xErrF, xIsE, xRaise, RS.unset, RS.noexc, xNext, xAsg, gNameX, gConsX, gNilX, gTupX, xVar, xC, xOp, xUn, oI_int, oNeg_int, xB, asB_bl, xRet, xRetN, xDrop, xBreak, xCont, xCons, xNil, xTup, xCB, xCall, xCallX, xAnd, xOr, xNot, xAndV, xOrV, xNotV, xIf, xYes, xTru, truD, xIsN, xNotN, nonD, xFld, xMeth, xMethX, xBM, xDGet, xDIn, xPart, xNoPart, xSl, nox_ok, toS_ok, finX, iR1, iR2, iL, iT, iE, iZ, xAug, xAssert, str_beq, insX, putFX, putX, valX, keyD_int, keyD_str, List.lookup, oInSet, xDisp, xPCons, xPNil, keysX, mergeX, rdL_app_ge, rdL_app_self, rdL_zero, rdL_succ, at_app_ge, at_app_self, at_zero, at_succ, k1, oIxL, rdL_lst h.d, rdL_lst h.t, atI, ixN]
    obtain ⟨S2, g1, g2⟩ := h.A.holds
    simp (decide := true) [wpe_ret, wpe_exc, wpe_bind, wps_nx, wps_ret, wps_bk, wps_ct, wps_exc, wps_bindS, wps_seq, wps_xSeq, wps_toS, wpe_nox, defQ_ret, defQ_exc, wps_if, cn_k, cn_x, cx_n, cx_q, wpe_lst, wpe_dnew, wps_xSetF, wps_xAugF, wps_xDPut, gSub_eq, wpe_xMake, wps_xFor, wps_xForE, wpe_xLc, loopQ_ct, loopQ_bk, loopQ_ret, loopQ_exc, wpe_iteBad, wps_iteBad, oIC_wp, bList_wp, bListT_wp, oSlL_wp, oCat_wp, bListD_wp, mkRg_wp, bSet_wp, CDiv, CMul, RngOk, RgOk, -bList_tup, xLRg1, xLRg2, xErrF, xIsE, xRaise, RS.unset, RS.noexc, xNext, xAsg, gNameX, gConsX, gNilX, gTupX, xVar, xC, xOp, xUn, oI_int, oNeg_int, xB, asB_bl, xRet, xRetN, xDrop, xBreak, xCont, xCons, xNil, xTup, xCB, xCall, xCallX, xAnd, xOr, xNot, xAndV, xOrV, xNotV, xIf, xYes, xTru, truD, xIsN, xNotN, nonD, xFld, xMeth, xMethX, xBM, xDGet, xDIn, xPart, xNoPart, xSl, nox_ok, toS_ok, finX, iR1, iR2, iL, iT, iE, iZ, xAug, xAssert, str_beq, insX, putFX, putX, valX, keyD_int, keyD_str, List.lookup, oInSet, xDisp, xPCons, xPNil, keysX, mergeX, rdL_app_ge, rdL_app_self, rdL_zero, rdL_succ, at_app_ge, at_app_self, at_zero, at_succ, g1]
    exact ⟨lA', lB, h.fr g2⟩
  · obtain ⟨a, ws, w1, w2, w3⟩ := h.B.wait
    simp (decide := true) [wpe_ret, wpe_exc, wpe_bind, wps_nx, wps_ret, wps_bk, wps_ct, wps_exc, wps_bindS, wps_seq, wps_xSeq, wps_toS, wpe_nox, defQ_ret, defQ_exc, wps_if, cn_k, cn_x, cx_n, cx_q, wpe_lst, wpe_dnew, wps_xSetF, wps_xAugF, wps_xDPut, gSub_eq, wpe_xMake, wps_xFor, wps_xForE, wpe_xLc, loopQ_ct, loopQ_bk, loopQ_ret, loopQ_exc, wpe_iteBad, wps_iteBad, oIC_wp, bList_wp, bListT_wp, oSlL_wp, oCat_wp, bListD_wp, mkRg_wp, bSet_wp, CDiv, CMul, RngOk, RgOk, -bList_tup, xLRg1, xLRg2, xErrF, xIsE, xRaise, RS.unset, RS.noexc, xNext, xAsg, gNameX, gConsX, gNilX, gTupX, xVar, xC, xOp, xUn, oI_int, oNeg_int, xB, asB_bl, xRet, xRetN, xDrop, xBreak, xCont, xCons, xNil, xTup, xCB, xCall, xCallX, xAnd, xOr, xNot, xAndV, xOrV, xNotV, xIf, xYes, xTru, truD, xIsN, xNotN, nonD, xFld, xMeth, xMethX, xBM, xDGet, xDIn, xPart, xNoPart, xSl, nox_ok, toS_ok, finX, iR1, iR2, iL, iT, iE, iZ, xAug, xAssert, str_beq, insX, putFX, putX, valX, keyD_int, keyD_str, List.lookup, oInSet, xDisp, xPCons, xPNil, keysX, mergeX, rdL_app_ge, rdL_app_self, rdL_zero, rdL_succ, at_app_ge, at_app_self, at_zero, at_succ, oIxL, rdL_lst h.d, rdL_lst h.t, atI, ixN, w1, bLen, itemsOf, w2]
    obtain ⟨fs, F, S1, f1, f2, f3, f4, f5⟩ := fates_ok (S := S) (m := q) (k := (ws.length : Int)) ⟨q0, q1⟩ (by omega)
    have nF : F ∉ lB.own := fun z => absurd (h.B.lt F z) (by omega)
    replace h := h.fr f2
    simp (decide := true) [wpe_ret, wpe_exc, wpe_bind, wps_nx, wps_ret, wps_bk, wps_ct, wps_exc, wps_bindS, wps_seq, wps_xSeq, wps_toS, wpe_nox, defQ_ret, defQ_exc, wps_if, cn_k, cn_x, cx_n, cx_q, wpe_lst, wpe_dnew, wps_xSetF, wps_xAugF, wps_xDPut, gSub_eq, wpe_xMake, wps_xFor, wps_xForE, wpe_xLc, loopQ_ct, loopQ_bk, loopQ_ret, loopQ_exc, wpe_iteBad, wps_iteBad, oIC_wp, bList_wp, bListT_wp, oSlL_wp, oCat_wp, bListD_wp, mkRg_wp, bSet_wp, CDiv, CMul, RngOk, RgOk, -bList_tup, xLRg1, xLRg2, xErrF, xIsE, xRaise, RS.unset, RS.noexc, xNext, xAsg, gNameX, gConsX, gNilX, gTupX, xVar, xC, xOp, xUn, oI_int, oNeg_int, xB, asB_bl, xRet, xRetN, xDrop, xBreak, xCont, xCons, xNil, xTup, xCB, xCall, xCallX, xAnd, xOr, xNot, xAndV, xOrV, xNotV, xIf, xYes, xTru, truD, xIsN, xNotN, nonD, xFld, xMeth, xMethX, xBM, xDGet, xDIn, xPart, xNoPart, xSl, nox_ok, toS_ok, finX, iR1, iR2, iL, iT, iE, iZ, xAug, xAssert, str_beq, insX, putFX, putX, valX, keyD_int, keyD_str, List.lookup, oInSet, xDisp, xPCons, xPNil, keysX, mergeX, rdL_app_ge, rdL_app_self, rdL_zero, rdL_succ, at_app_ge, at_app_self, at_zero, at_succ, f1, oIxL, rdL_lst h.d, rdL_lst h.t, atI, ixN]
    refine wpe_k (num_ok h.hn hl (by unfold NumOk; omega)) ?_
    rintro _ S ⟨rfl, kd, rfl, kd0, kd1⟩
    obtain ⟨lB', S3, k1, k2⟩ := h.callB hj (kd := kd) (b := b) (c := c) (F := F) (fs := fs) ⟨b0, b1⟩ k3 f4 nF (by omega)
    replace h := k2
    simp (decide := true) [wpe_ret, wpe_exc, wpe_bind, wps_nx, wps_ret, wps_bk, wps_ct, wps_exc, wps_bindS, wps_seq, wps_xSeq, wps_toS, wpe_nox, defQ_ret, defQ_exc, wps_if, cn_k, cn_x, cx_n, cx_q, wpe_lst, wpe_dnew, wps_xSetF, wps_xAugF, wps_xDPut, gSub_eq, wpe_xMake, wps_xFor, wps_xForE, wpe_xLc, loopQ_ct, loopQ_bk, loopQ_ret, loopQ_exc, wpe_iteBad, wps_iteBad, oIC_wp, bList_wp, bListT_wp, oSlL_wp, oCat_wp, bListD_wp, mkRg_wp, bSet_wp, CDiv, CMul, RngOk, RgOk, -bList_tup, xLRg1, xLRg2, xErrF, xIsE, xRaise, RS.unset, RS.noexc, xNext, xAsg, gNameX, gConsX, gNilX, gTupX, xVar, xC, xOp, xUn, oI_int, oNeg_int, xB, asB_bl, xRet, xRetN, xDrop, xBreak, xCont, xCons, xNil, xTup, xCB, xCall, xCallX, xAnd, xOr, xNot, xAndV, xOrV, xNotV, xIf, xYes, xTru, truD, xIsN, xNotN, nonD, xFld, xMeth, xMethX, xBM, xDGet, xDIn, xPart, xNoPart, xSl, nox_ok, toS_ok, finX, iR1, iR2, iL, iT, iE, iZ, xAug, xAssert, str_beq, insX, putFX, putX, valX, keyD_int, keyD_str, List.lookup, oInSet, xDisp, xPCons, xPNil, keysX, mergeX, rdL_app_ge, rdL_app_self, rdL_zero, rdL_succ, at_app_ge, at_app_self, at_zero, at_succ, k1, oIxL, rdL_lst h.d, rdL_lst h.t, atI, ixN]
    obtain ⟨S2, g1, g2⟩ := h.B.holds
    simp (decide := true) [wpe_ret, wpe_exc, wpe_bind, wps_nx, wps_ret, wps_bk, wps_ct, wps_exc, wps_bindS, wps_seq, wps_xSeq, wps_toS, wpe_nox, defQ_ret, defQ_exc, wps_if, cn_k, cn_x, cx_n, cx_q, wpe_lst, wpe_dnew, wps_xSetF, wps_xAugF, wps_xDPut, gSub_eq, wpe_xMake, wps_xFor, wps_xForE, wpe_xLc, loopQ_ct, loopQ_bk, loopQ_ret, loopQ_exc, wpe_iteBad, wps_iteBad, oIC_wp, bList_wp, bListT_wp, oSlL_wp, oCat_wp, bListD_wp, mkRg_wp, bSet_wp, CDiv, CMul, RngOk, RgOk, -bList_tup, xLRg1, xLRg2, xErrF, xIsE, xRaise, RS.unset, RS.noexc, xNext, xAsg, gNameX, gConsX, gNilX, gTupX, xVar, xC, xOp, xUn, oI_int, oNeg_int, xB, asB_bl, xRet, xRetN, xDrop, xBreak, xCont, xCons, xNil, xTup, xCB, xCall, xCallX, xAnd, xOr, xNot, xAndV, xOrV, xNotV, xIf, xYes, xTru, truD, xIsN, xNotN, nonD, xFld, xMeth, xMethX, xBM, xDGet, xDIn, xPart, xNoPart, xSl, nox_ok, toS_ok, finX, iR1, iR2, iL, iT, iE, iZ, xAug, xAssert, str_beq, insX, putFX, putX, valX, keyD_int, keyD_str, List.lookup, oInSet, xDisp, xPCons, xPNil, keysX, mergeX, rdL_app_ge, rdL_app_self, rdL_zero, rdL_succ, at_app_ge, at_app_self, at_zero, at_succ, g1]
    exact ⟨lA, lB', h.fr g2⟩
end

section
open Mi
theorem plains_ok {S : Sto} {C n0 n1 : Nat} {o0 o2 o3 o4 o5 o6 o7 o8 o9 o10 o11 o12 : Option D} (hC : at_ S C = some (.lst [.int n0, .int n1])) :
    f_law_c1 [o0, some (.ref C), o2, o3, o4, o5, o6, o7, o8, o9, o10, o11, o12] S = .ok (.ref S.length) (S ++ [.lst [.ref (S.length + 1), .ref (S.length + 4)], plO n0 (S.length + 2) (S.length + 3), .dK [], .lst [], plO n1 (S.length + 5) (S.length + 6), .dK [], .lst []]) := by
  have rg : rngD 0 2 = [.int 0, .int 1] := rfl
  have r2 : RngOk 2 := rngOk (by decide)
  have hr : ∀ T : Sto, rdL (S ++ T) C = some [.int n0, .int n1] := fun T => rdL_app (rdL_lst hC)
  simp (decide := true) [xTryAs0, xTryOnly0, xLRg1, xLRg2, xTryAs, xTryOnly, xErrF, xIsE, xRaise, RS.unset, RS.noexc, defX, xSeq, xNext, xAsg, gNameX, gConsX, gNilX, gTupX, gSubX, xVar, xC, xOp, xUn, oI_int, oNeg_int, xB, asB_bl, xIfS, xRet, xRetN, xDrop, xBreak, xCont, xCons, xNil, xTup, xLst, xCB, xCall, xCallX, xAnd, xOr, xNot, xAndV, xOrV, xNotV, xIf, xYes, xTru, truD, xIsN, xNotN, nonD, xFld, xSetF, xAugF, xMeth, xMethX, xMake, xBM, xDGet, xDPut, xDIn, xDNew, xPart, xNoPart, xSl, nox_ok, toS_ok, finX, R.bind, R.bindS, RS.seq, RS.turn, R.bindE, xFor, xForE, iR1, iR2, iL, iT, iE, iZ, xLc, xAug, xAssert, str_beq, at_set, insX, setFX, putFX, setLX, putDX, getDX, oDGet, oDIn, putX, valX, keyD_int, keyD_str, List.lookup, oInSet, xDisp, xPCons, xPNil, keysX, mergeX, rdL_app_ge, rdL_app_self, rdL_zero, rdL_succ, at_app_ge, at_app_self, at_zero, at_succ, f_law_c1, rg, r2, compX, oIxL, hr, atI, ixN, plO, wipeE]
theorem eight {q : Int} (hq : 0 ≤ q ∧ q < 8) : ∃ b : Nat, L2.atI [D.int 2, D.int 3, D.int 5, D.int 9, D.int 600, D.int 7, D.int 4, D.int 600] q = some (.int b) ∧ 2 ≤ b ∧ b ≤ 600 := by
  have : q = 0 ∨ q = 1 ∨ q = 2 ∨ q = 3 ∨ q = 4 ∨ q = 5 ∨ q = 6 ∨ q = 7 := by omega
  rcases this with rfl | rfl | rfl | rfl | rfl | rfl | rfl | rfl
  · exact ⟨2, rfl, by omega, by omega⟩
  · exact ⟨3, rfl, by omega, by omega⟩
  · exact ⟨5, rfl, by omega, by omega⟩
  · exact ⟨9, rfl, by omega, by omega⟩
  · exact ⟨600, rfl, by omega, by omega⟩
  · exact ⟨7, rfl, by omega, by omega⟩
  · exact ⟨4, rfl, by omega, by omega⟩
  · exact ⟨600, rfl, by omega, by omega⟩
/-- one side at the start -/
theorem Sd.start {S : Sto} {n : Nat} {l : Pl} (d : at_ S l.d = some (devO n l.p l.q l.w)) (p : at_ S l.p = some (.lst (List.replicate n .non))) (q : at_ S l.q = some (.lst (List.replicate n .non))) (w : at_ S l.w = some (.lst [])) (t : at_ S l.t = some (plO n l.k l.a)) (k : at_ S l.k = some (.dK [])) (a : at_ S l.a = some (.lst [])) (nd : l.own.Nodup) (hn : 2 ≤ n ∧ n ≤ 600) : Sd S n l 0 := by
  refine ⟨List.replicate n .non, [], [], ⟨d, p, q, w, t, k, a, nd, hn.1, hn.2, by simp, by simp, by simp, fun b h0 h1 => ⟨?_, good_non⟩, by simp, by simp⟩, by simp, by simp⟩
  rw [List.getElem?_replicate]
  simp [kv0, valX]
  omega
theorem law_sp : ∀ (o : O) (ns : List Int), (o = .lst (ns.map .int) ∨ o = .rol (ns.map .int)) → ns.length ≤ 63 → ∃ S', f_law [.ref 0] [o] = .ok (.bl true) S' := by
  intro o ns ho hl
  have hn : rdL [o] 0 = some (ns.map .int) := by rcases ho with rfl | rfl <;> rfl
  have z0 : 0 < [o].length := by simp
  generalize [o] = S at hn z0
  suffices Ok (f_law [.ref 0] S) (fun v _ => v = .bl true) by
    obtain ⟨v, S', e, rfl⟩ := this.ex
    exact ⟨S', e⟩
  rw [f_law_eq]
  refine Ok.def rfl ?_
  simp (decide := true) [wpe_ret, wpe_exc, wpe_bind, wps_nx, wps_ret, wps_bk, wps_ct, wps_exc, wps_bindS, wps_seq, wps_xSeq, wps_toS, wpe_nox, defQ_ret, defQ_exc, wps_if, cn_k, cn_x, cx_n, cx_q, wpe_lst, wpe_dnew, wps_xSetF, wps_xAugF, wps_xDPut, gSub_eq, wpe_xMake, wps_xFor, wps_xForE, wpe_xLc, loopQ_ct, loopQ_bk, loopQ_ret, loopQ_exc, wpe_iteBad, wps_iteBad, oIC_wp, bList_wp, bListT_wp, oSlL_wp, oCat_wp, bListD_wp, mkRg_wp, bSet_wp, CDiv, CMul, RngOk, RgOk, -bList_tup, xLRg1, xLRg2, xErrF, xIsE, xRaise, RS.unset, RS.noexc, xNext, xAsg, gNameX, gConsX, gNilX, gTupX, xVar, xC, xOp, xUn, oI_int, oNeg_int, xB, asB_bl, xRet, xRetN, xDrop, xBreak, xCont, xCons, xNil, xTup, xCB, xCall, xCallX, xAnd, xOr, xNot, xAndV, xOrV, xNotV, xIf, xYes, xTru, truD, xIsN, xNotN, nonD, xFld, xMeth, xMethX, xBM, xDGet, xDIn, xPart, xNoPart, xSl, nox_ok, toS_ok, finX, iR1, iR2, iL, iT, iE, iZ, xAug, xAssert, str_beq, insX, putFX, putX, valX, keyD_int, keyD_str, List.lookup, oInSet, xDisp, xPCons, xPNil, keysX, mergeX, rdL_app_ge, rdL_app_self, rdL_zero, rdL_succ, at_app_ge, at_app_self, at_zero, at_succ]
  refine wpe_k (num_ok hn hl (by unfold NumOk; omega)) ?_
  rintro _ S ⟨rfl, q, rfl, q0, q1⟩
  simp (decide := true) [wpe_ret, wpe_exc, wpe_bind, wps_nx, wps_ret, wps_bk, wps_ct, wps_exc, wps_bindS, wps_seq, wps_xSeq, wps_toS, wpe_nox, defQ_ret, defQ_exc, wps_if, cn_k, cn_x, cx_n, cx_q, wpe_lst, wpe_dnew, wps_xSetF, wps_xAugF, wps_xDPut, gSub_eq, wpe_xMake, wps_xFor, wps_xForE, wpe_xLc, loopQ_ct, loopQ_bk, loopQ_ret, loopQ_exc, wpe_iteBad, wps_iteBad, oIC_wp, bList_wp, bListT_wp, oSlL_wp, oCat_wp, bListD_wp, mkRg_wp, bSet_wp, CDiv, CMul, RngOk, RgOk, -bList_tup, xLRg1, xLRg2, xErrF, xIsE, xRaise, RS.unset, RS.noexc, xNext, xAsg, gNameX, gConsX, gNilX, gTupX, xVar, xC, xOp, xUn, oI_int, oNeg_int, xB, asB_bl, xRet, xRetN, xDrop, xBreak, xCont, xCons, xNil, xTup, xCB, xCall, xCallX, xAnd, xOr, xNot, xAndV, xOrV, xNotV, xIf, xYes, xTru, truD, xIsN, xNotN, nonD, xFld, xMeth, xMethX, xBM, xDGet, xDIn, xPart, xNoPart, xSl, nox_ok, toS_ok, finX, iR1, iR2, iL, iT, iE, iZ, xAug, xAssert, str_beq, insX, putFX, putX, valX, keyD_int, keyD_str, List.lookup, oInSet, xDisp, xPCons, xPNil, keysX, mergeX, rdL_app_ge, rdL_app_self, rdL_zero, rdL_succ, at_app_ge, at_app_self, at_zero, at_succ, allo]
  refine wpe_k (num_ok (rdL_app hn) hl (by unfold NumOk; omega)) ?_
  rintro _ S1 ⟨rfl, r, rfl, r0, r1⟩
  obtain ⟨n1, hb, b0, b1⟩ := eight ⟨r0, r1⟩
  obtain ⟨n0, rfl⟩ : ∃ n0 : Nat, q = (n0 : Int) - 2 := ⟨(q + 2).toNat, by omega⟩
  simp (decide := true) [wpe_ret, wpe_exc, wpe_bind, wps_nx, wps_ret, wps_bk, wps_ct, wps_exc, wps_bindS, wps_seq, wps_xSeq, wps_toS, wpe_nox, defQ_ret, defQ_exc, wps_if, cn_k, cn_x, cx_n, cx_q, wpe_lst, wpe_dnew, wps_xSetF, wps_xAugF, wps_xDPut, gSub_eq, wpe_xMake, wps_xFor, wps_xForE, wpe_xLc, loopQ_ct, loopQ_bk, loopQ_ret, loopQ_exc, wpe_iteBad, wps_iteBad, oIC_wp, bList_wp, bListT_wp, oSlL_wp, oCat_wp, bListD_wp, mkRg_wp, bSet_wp, CDiv, CMul, RngOk, RgOk, -bList_tup, xLRg1, xLRg2, xErrF, xIsE, xRaise, RS.unset, RS.noexc, xNext, xAsg, gNameX, gConsX, gNilX, gTupX, xVar, xC, xOp, xUn, oI_int, oNeg_int, xB, asB_bl, xRet, xRetN, xDrop, xBreak, xCont, xCons, xNil, xTup, xCB, xCall, xCallX, xAnd, xOr, xNot, xAndV, xOrV, xNotV, xIf, xYes, xTru, truD, xIsN, xNotN, nonD, xFld, xMeth, xMethX, xBM, xDGet, xDIn, xPart, xNoPart, xSl, nox_ok, toS_ok, finX, iR1, iR2, iL, iT, iE, iZ, xAug, xAssert, str_beq, insX, putFX, putX, valX, keyD_int, keyD_str, List.lookup, oInSet, xDisp, xPCons, xPNil, keysX, mergeX, rdL_app_ge, rdL_app_self, rdL_zero, rdL_succ, at_app_ge, at_app_self, at_zero, at_succ, allo, oIxL, rdL_app_self, rdL_zero, hb, show (2 : Int) + ((n0 : Int) - 2) = (n0 : Int) by omega]
  generalize hS2 : S ++ [O.lst [D.int 2, D.int 3, D.int 5, D.int 9, D.int 600, D.int 7, D.int 4, D.int 600], O.lst [D.int n0, D.int n1]] = S2
  have hn2 : rdL S2 0 = some (ns.map .int) := by rw [← hS2]; exact rdL_app hn
  have hC : at_ S2 (S.length + 1) = some (.lst [.int n0, .int n1]) := by rw [← hS2, at_app_ge]; rfl
  have lS2 : S2.length = S.length + 2 := by rw [← hS2]; simp
  generalize hCn : S.length + 1 = C at hC
  have c0 : C < S2.length := by omega
  have c1 : 0 < C := by omega
  clear hS2
  have rC := rdL_lst hC
  have z1 : (S2 ++ [O.ins "Device" []]).length = S2.length + 1 := by simp
  obtain ⟨T1, i1, i2, i3, i4, i5, i6⟩ := init_ok (S := S2 ++ [.ins "Device" []]) (d := S2.length) (n := n0) at_new (by omega)
  rw [z1] at i3 i4 i5 i6
  simp (decide := true) [wpe_ret, wpe_exc, wpe_bind, wps_nx, wps_ret, wps_bk, wps_ct, wps_exc, wps_bindS, wps_seq, wps_xSeq, wps_toS, wpe_nox, defQ_ret, defQ_exc, wps_if, cn_k, cn_x, cx_n, cx_q, wpe_lst, wpe_dnew, wps_xSetF, wps_xAugF, wps_xDPut, gSub_eq, wpe_xMake, wps_xFor, wps_xForE, wpe_xLc, loopQ_ct, loopQ_bk, loopQ_ret, loopQ_exc, wpe_iteBad, wps_iteBad, oIC_wp, bList_wp, bListT_wp, oSlL_wp, oCat_wp, bListD_wp, mkRg_wp, bSet_wp, CDiv, CMul, RngOk, RgOk, -bList_tup, xLRg1, xLRg2, xErrF, xIsE, xRaise, RS.unset, RS.noexc, xNext, xAsg, gNameX, gConsX, gNilX, gTupX, xVar, xC, xOp, xUn, oI_int, oNeg_int, xB, asB_bl, xRet, xRetN, xDrop, xBreak, xCont, xCons, xNil, xTup, xCB, xCall, xCallX, xAnd, xOr, xNot, xAndV, xOrV, xNotV, xIf, xYes, xTru, truD, xIsN, xNotN, nonD, xFld, xMeth, xMethX, xBM, xDGet, xDIn, xPart, xNoPart, xSl, nox_ok, toS_ok, finX, iR1, iR2, iL, iT, iE, iZ, xAug, xAssert, str_beq, insX, putFX, putX, valX, keyD_int, keyD_str, List.lookup, oInSet, xDisp, xPCons, xPNil, keysX, mergeX, rdL_app_ge, rdL_app_self, rdL_zero, rdL_succ, at_app_ge, at_app_self, at_zero, at_succ, hCn, oIxL, rC, atI, ixN, mkEnd, i1]
  replace hn := i2.rd (rdL_app hn2) (by simp; omega)
  replace hC := i2.get (at_app hC) (by simp; omega)
  replace rC := rdL_lst hC
  have lT1 := at_lt i6
  generalize hd0 : S2.length = d0 at i3 i4 i5 i6 lT1 c0
  clear i1 i2 z1
  have z1 : (T1 ++ [O.ins "Device" []]).length = T1.length + 1 := by simp
  obtain ⟨T2, j1, j2, j3, j4, j5, j6⟩ := init_ok (S := T1 ++ [.ins "Device" []]) (d := T1.length) (n := n1) at_new (by omega)
  rw [z1] at j3 j4 j5 j6
  simp (decide := true) [wpe_ret, wpe_exc, wpe_bind, wps_nx, wps_ret, wps_bk, wps_ct, wps_exc, wps_bindS, wps_seq, wps_xSeq, wps_toS, wpe_nox, defQ_ret, defQ_exc, wps_if, cn_k, cn_x, cx_n, cx_q, wpe_lst, wpe_dnew, wps_xSetF, wps_xAugF, wps_xDPut, gSub_eq, wpe_xMake, wps_xFor, wps_xForE, wpe_xLc, loopQ_ct, loopQ_bk, loopQ_ret, loopQ_exc, wpe_iteBad, wps_iteBad, oIC_wp, bList_wp, bListT_wp, oSlL_wp, oCat_wp, bListD_wp, mkRg_wp, bSet_wp, CDiv, CMul, RngOk, RgOk, -bList_tup, xLRg1, xLRg2, xErrF, xIsE, xRaise, RS.unset, RS.noexc, xNext, xAsg, gNameX, gConsX, gNilX, gTupX, xVar, xC, xOp, xUn, oI_int, oNeg_int, xB, asB_bl, xRet, xRetN, xDrop, xBreak, xCont, xCons, xNil, xTup, xCB, xCall, xCallX, xAnd, xOr, xNot, xAndV, xOrV, xNotV, xIf, xYes, xTru, truD, xIsN, xNotN, nonD, xFld, xMeth, xMethX, xBM, xDGet, xDIn, xPart, xNoPart, xSl, nox_ok, toS_ok, finX, iR1, iR2, iL, iT, iE, iZ, xAug, xAssert, str_beq, insX, putFX, putX, valX, keyD_int, keyD_str, List.lookup, oInSet, xDisp, xPCons, xPNil, keysX, mergeX, rdL_app_ge, rdL_app_self, rdL_zero, rdL_succ, at_app_ge, at_app_self, at_zero, at_succ, hd0, oIxL, rC, atI, ixN, mkEnd, j1, allo]
  replace hn := j2.rd (rdL_app hn) (by simp; omega)
  replace hC := j2.get (at_app hC) (by simp; omega)
  replace i3 := j2.get (at_app i3) (by simp; omega)
  replace i4 := j2.get (at_app i4) (by simp; omega)
  replace i5 := j2.get (at_app i5) (by simp; omega)
  replace i6 := j2.get (at_app i6) (by simp; omega)
  have lT2 := at_lt j6
  generalize hd1 : T1.length = d1 at j3 j4 j5 j6 lT1 lT2
  clear j1 j2 z1
  simp (decide := true) [plains_ok (at_app hC), wpe_ret, wpe_exc, wpe_bind, wps_nx, wps_ret, wps_bk, wps_ct, wps_exc, wps_bindS, wps_seq, wps_xSeq, wps_toS, wpe_nox, defQ_ret, defQ_exc, wps_if, cn_k, cn_x, cx_n, cx_q, wpe_lst, wpe_dnew, wps_xSetF, wps_xAugF, wps_xDPut, gSub_eq, wpe_xMake, wps_xFor, wps_xForE, wpe_xLc, loopQ_ct, loopQ_bk, loopQ_ret, loopQ_exc, wpe_iteBad, wps_iteBad, oIC_wp, bList_wp, bListT_wp, oSlL_wp, oCat_wp, bListD_wp, mkRg_wp, bSet_wp, CDiv, CMul, RngOk, RgOk, -bList_tup, xLRg1, xLRg2, xErrF, xIsE, xRaise, RS.unset, RS.noexc, xNext, xAsg, gNameX, gConsX, gNilX, gTupX, xVar, xC, xOp, xUn, oI_int, oNeg_int, xB, asB_bl, xRet, xRetN, xDrop, xBreak, xCont, xCons, xNil, xTup, xCB, xCall, xCallX, xAnd, xOr, xNot, xAndV, xOrV, xNotV, xIf, xYes, xTru, truD, xIsN, xNotN, nonD, xFld, xMeth, xMethX, xBM, xDGet, xDIn, xPart, xNoPart, xSl, nox_ok, toS_ok, finX, iR1, iR2, iL, iT, iE, iZ, xAug, xAssert, str_beq, insX, putFX, putX, valX, keyD_int, keyD_str, List.lookup, oInSet, xDisp, xPCons, xPNil, keysX, mergeX, rdL_app_ge, rdL_app_self, rdL_zero, rdL_succ, at_app_ge, at_app_self, at_zero, at_succ]
  generalize hS3 : T2 ++ [O.lst [D.ref d0, D.ref d1], O.lst [D.ref (T2.length + 1 + 1), D.ref (T2.length + 1 + 4)], plO n0 (T2.length + 1 + 2) (T2.length + 1 + 3), O.dK [], O.lst [], plO n1 (T2.length + 1 + 5) (T2.length + 1 + 6), O.dK [], O.lst []] = S3
  have W0 : Wd S3 ns C T2.length (T2.length + 1) n0 n1 ⟨d0, d0 + 1, d0 + 1 + 1, d0 + 1 + 2, T2.length + 1 + 1, T2.length + 1 + 2, T2.length + 1 + 3⟩ ⟨d1, d1 + 1, d1 + 1 + 1, d1 + 1 + 2, T2.length + 1 + 4, T2.length + 1 + 5, T2.length + 1 + 6⟩ 0 := by
    subst hS3
    refine ⟨rdL_app hn, at_app hC, by rw [at_app_self]; rfl, by rw [at_app_ge]; rfl, Sd.start (at_app i3) (at_app i4) (at_app i5) (at_app i6) ?_ ?_ ?_ ?_ (by omega), Sd.start (at_app j3) (at_app j4) (at_app j5) (at_app j6) ?_ ?_ ?_ ?_ (by omega), ?_, ?_⟩
    · exact (at_app_ge (S := T2) (k := 2)).trans rfl
    · exact (at_app_ge (S := T2) (k := 3)).trans rfl
    · exact (at_app_ge (S := T2) (k := 4)).trans rfl
    · simp [Pl.own]; omega
    · exact (at_app_ge (S := T2) (k := 5)).trans rfl
    · exact (at_app_ge (S := T2) (k := 6)).trans rfl
    · exact (at_app_ge (S := T2) (k := 7)).trans rfl
    · simp [Pl.own]; omega
    · intro i h1 h2
      simp [Pl.own] at h1 h2
      omega
    · intro i hi
      simp [Pl.own] at hi ⊢
      omega
  generalize T2.length = DV at W0 ⊢
  clear hS3 hn hC i3 i4 i5 i6 j3 j4 j5 j6 lT1 lT2
  refine wpe_k (num_ok W0.hn hl (by unfold NumOk; omega)) ?_
  rintro _ S ⟨rfl, e, rfl, e0, e1⟩
  simp (decide := true) [wpe_ret, wpe_exc, wpe_bind, wps_nx, wps_ret, wps_bk, wps_ct, wps_exc, wps_bindS, wps_seq, wps_xSeq, wps_toS, wpe_nox, defQ_ret, defQ_exc, wps_if, cn_k, cn_x, cx_n, cx_q, wpe_lst, wpe_dnew, wps_xSetF, wps_xAugF, wps_xDPut, gSub_eq, wpe_xMake, wps_xFor, wps_xForE, wpe_xLc, loopQ_ct, loopQ_bk, loopQ_ret, loopQ_exc, wpe_iteBad, wps_iteBad, oIC_wp, bList_wp, bListT_wp, oSlL_wp, oCat_wp, bListD_wp, mkRg_wp, bSet_wp, CDiv, CMul, RngOk, RgOk, -bList_tup, xLRg1, xLRg2, xErrF, xIsE, xRaise, RS.unset, RS.noexc, xNext, xAsg, gNameX, gConsX, gNilX, gTupX, xVar, xC, xOp, xUn, oI_int, oNeg_int, xB, asB_bl, xRet, xRetN, xDrop, xBreak, xCont, xCons, xNil, xTup, xCB, xCall, xCallX, xAnd, xOr, xNot, xAndV, xOrV, xNotV, xIf, xYes, xTru, truD, xIsN, xNotN, nonD, xFld, xMeth, xMethX, xBM, xDGet, xDIn, xPart, xNoPart, xSl, nox_ok, toS_ok, finX, iR1, iR2, iL, iT, iE, iZ, xAug, xAssert, str_beq, insX, putFX, putX, valX, keyD_int, keyD_str, List.lookup, oInSet, xDisp, xPCons, xPNil, keysX, mergeX, rdL_app_ge, rdL_app_self, rdL_zero, rdL_succ, at_app_ge, at_app_self, at_zero, at_succ, f_law_l1]
  refine ⟨by omega, ?_⟩
  refine wps_loop (fun i env S => ∃ o6 o7 o8 o9 o10 o11 o12 lA lB, env = [some (.ref 0), some (.ref C), some (.ref DV), some (.ref (DV + 1)), none, some (.int (1 + e)), o6, o7, o8, o9, o10, o11, o12] ∧ Wd S ns C DV (DV + 1) n0 n1 lA lB i) ⟨_, _, _, _, _, _, _, _, _, rfl, W0⟩ (fun _ _ _ _ => trivial) ?_ ?_
  · rintro i x env S hx ⟨o6, o7, o8, o9, o10, o11, o12, lA, lB, rfl, h⟩
    obtain ⟨hi, rfl⟩ := rngD_get hx
    simp (decide := true) [wpe_ret, wpe_exc, wpe_bind, wps_nx, wps_ret, wps_bk, wps_ct, wps_exc, wps_bindS, wps_seq, wps_xSeq, wps_toS, wpe_nox, defQ_ret, defQ_exc, wps_if, cn_k, cn_x, cx_n, cx_q, wpe_lst, wpe_dnew, wps_xSetF, wps_xAugF, wps_xDPut, gSub_eq, wpe_xMake, wps_xFor, wps_xForE, wpe_xLc, loopQ_ct, loopQ_bk, loopQ_ret, loopQ_exc, wpe_iteBad, wps_iteBad, oIC_wp, bList_wp, bListT_wp, oSlL_wp, oCat_wp, bListD_wp, mkRg_wp, bSet_wp, CDiv, CMul, RngOk, RgOk, -bList_tup, xLRg1, xLRg2, xErrF, xIsE, xRaise, RS.unset, RS.noexc, xNext, xAsg, gNameX, gConsX, gNilX, gTupX, xVar, xC, xOp, xUn, oI_int, oNeg_int, xB, asB_bl, xRet, xRetN, xDrop, xBreak, xCont, xCons, xNil, xTup, xCB, xCall, xCallX, xAnd, xOr, xNot, xAndV, xOrV, xNotV, xIf, xYes, xTru, truD, xIsN, xNotN, nonD, xFld, xMeth, xMethX, xBM, xDGet, xDIn, xPart, xNoPart, xSl, nox_ok, toS_ok, finX, iR1, iR2, iL, iT, iE, iZ, xAug, xAssert, str_beq, insX, putFX, putX, valX, keyD_int, keyD_str, List.lookup, oInSet, xDisp, xPCons, xPNil, keysX, mergeX, rdL_app_ge, rdL_app_self, rdL_zero, rdL_succ, at_app_ge, at_app_self, at_zero, at_succ]
    refine wps_k (Q := fun _ => False) (turn1 (a := 1 + (i : Int)) h hl (by omega) (by omega) (by omega)) ?_ (fun _ z => z.elim)
    rintro _ S ⟨o7, o8, o9, o10, o11, o12, lA, lB, rfl, h⟩
    exact ⟨_, _, _, _, _, _, _, _, _, rfl, h⟩
  rintro _ S ⟨o6, o7, o8, o9, o10, o11, o12, lA, lB, rfl, h⟩
  simp (decide := true) [wpe_ret, wpe_exc, wpe_bind, wps_nx, wps_ret, wps_bk, wps_ct, wps_exc, wps_bindS, wps_seq, wps_xSeq, wps_toS, wpe_nox, defQ_ret, defQ_exc, wps_if, cn_k, cn_x, cx_n, cx_q, wpe_lst, wpe_dnew, wps_xSetF, wps_xAugF, wps_xDPut, gSub_eq, wpe_xMake, wps_xFor, wps_xForE, wpe_xLc, loopQ_ct, loopQ_bk, loopQ_ret, loopQ_exc, wpe_iteBad, wps_iteBad, oIC_wp, bList_wp, bListT_wp, oSlL_wp, oCat_wp, bListD_wp, mkRg_wp, bSet_wp, CDiv, CMul, RngOk, RgOk, -bList_tup, xLRg1, xLRg2, xErrF, xIsE, xRaise, RS.unset, RS.noexc, xNext, xAsg, gNameX, gConsX, gNilX, gTupX, xVar, xC, xOp, xUn, oI_int, oNeg_int, xB, asB_bl, xRet, xRetN, xDrop, xBreak, xCont, xCons, xNil, xTup, xCB, xCall, xCallX, xAnd, xOr, xNot, xAndV, xOrV, xNotV, xIf, xYes, xTru, truD, xIsN, xNotN, nonD, xFld, xMeth, xMethX, xBM, xDGet, xDIn, xPart, xNoPart, xSl, nox_ok, toS_ok, finX, iR1, iR2, iL, iT, iE, iZ, xAug, xAssert, str_beq, insX, putFX, putX, valX, keyD_int, keyD_str, List.lookup, oInSet, xDisp, xPCons, xPNil, keysX, mergeX, rdL_app_ge, rdL_app_self, rdL_zero, rdL_succ, at_app_ge, at_app_self, at_zero, at_succ, f_law_l2]
  refine wps_loop (fun i env S => ∃ o7 o12 lA lB j, env = [some (.ref 0), some (.ref C), some (.ref DV), some (.ref (DV + 1)), none, some (.int (1 + e)), o6, o7, o8, o9, o10, o11, o12] ∧ Wd S ns C DV (DV + 1) n0 n1 lA lB j ∧ j ≤ 60 + i) ⟨_, _, _, _, _, rfl, h, by rw [rngD_len]; omega⟩ (fun _ _ _ _ => trivial) ?_ ?_
  · rintro i x env S hx ⟨o7, o12, lA, lB, j, rfl, h, hj⟩
    obtain ⟨hi, rfl⟩ := rngD_get hx
    simp (decide := true) [wpe_ret, wpe_exc, wpe_bind, wps_nx, wps_ret, wps_bk, wps_ct, wps_exc, wps_bindS, wps_seq, wps_xSeq, wps_toS, wpe_nox, defQ_ret, defQ_exc, wps_if, cn_k, cn_x, cx_n, cx_q, wpe_lst, wpe_dnew, wps_xSetF, wps_xAugF, wps_xDPut, gSub_eq, wpe_xMake, wps_xFor, wps_xForE, wpe_xLc, loopQ_ct, loopQ_bk, loopQ_ret, loopQ_exc, wpe_iteBad, wps_iteBad, oIC_wp, bList_wp, bListT_wp, oSlL_wp, oCat_wp, bListD_wp, mkRg_wp, bSet_wp, CDiv, CMul, RngOk, RgOk, -bList_tup, xLRg1, xLRg2, xErrF, xIsE, xRaise, RS.unset, RS.noexc, xNext, xAsg, gNameX, gConsX, gNilX, gTupX, xVar, xC, xOp, xUn, oI_int, oNeg_int, xB, asB_bl, xRet, xRetN, xDrop, xBreak, xCont, xCons, xNil, xTup, xCB, xCall, xCallX, xAnd, xOr, xNot, xAndV, xOrV, xNotV, xIf, xYes, xTru, truD, xIsN, xNotN, nonD, xFld, xMeth, xMethX, xBM, xDGet, xDIn, xPart, xNoPart, xSl, nox_ok, toS_ok, finX, iR1, iR2, iL, iT, iE, iZ, xAug, xAssert, str_beq, insX, putFX, putX, valX, keyD_int, keyD_str, List.lookup, oInSet, xDisp, xPCons, xPNil, keysX, mergeX, rdL_app_ge, rdL_app_self, rdL_zero, rdL_succ, at_app_ge, at_app_self, at_zero, at_succ]
    refine wps_k (Q := fun _ => False) (turn2 (i := (i : Int)) h hl (by omega) (by omega) (by omega)) ?_ (fun _ z => z.elim)
    rintro _ S ⟨o12, lA, lB, rfl, h⟩
    exact ⟨_, _, _, _, _, rfl, h, by omega⟩
  rintro _ S ⟨o7, o12, lA, lB, j, rfl, h, hj⟩
  obtain ⟨S1, g1, g2⟩ := h.A.holds
  have h1 := h.fr g2
  obtain ⟨S2, k1, k2⟩ := h1.B.holds
  simp (decide := true) [wpe_ret, wpe_exc, wpe_bind, wps_nx, wps_ret, wps_bk, wps_ct, wps_exc, wps_bindS, wps_seq, wps_xSeq, wps_toS, wpe_nox, defQ_ret, defQ_exc, wps_if, cn_k, cn_x, cx_n, cx_q, wpe_lst, wpe_dnew, wps_xSetF, wps_xAugF, wps_xDPut, gSub_eq, wpe_xMake, wps_xFor, wps_xForE, wpe_xLc, loopQ_ct, loopQ_bk, loopQ_ret, loopQ_exc, wpe_iteBad, wps_iteBad, oIC_wp, bList_wp, bListT_wp, oSlL_wp, oCat_wp, bListD_wp, mkRg_wp, bSet_wp, CDiv, CMul, RngOk, RgOk, -bList_tup, xLRg1, xLRg2, xErrF, xIsE, xRaise, RS.unset, RS.noexc, xNext, xAsg, gNameX, gConsX, gNilX, gTupX, xVar, xC, xOp, xUn, oI_int, oNeg_int, xB, asB_bl, xRet, xRetN, xDrop, xBreak, xCont, xCons, xNil, xTup, xCB, xCall, xCallX, xAnd, xOr, xNot, xAndV, xOrV, xNotV, xIf, xYes, xTru, truD, xIsN, xNotN, nonD, xFld, xMeth, xMethX, xBM, xDGet, xDIn, xPart, xNoPart, xSl, nox_ok, toS_ok, finX, iR1, iR2, iL, iT, iE, iZ, xAug, xAssert, str_beq, insX, putFX, putX, valX, keyD_int, keyD_str, List.lookup, oInSet, xDisp, xPCons, xPNil, keysX, mergeX, rdL_app_ge, rdL_app_self, rdL_zero, rdL_succ, at_app_ge, at_app_self, at_zero, at_succ, oIxL, rdL_lst h.d, rdL_lst h.t, rdL_lst h1.d, rdL_lst h1.t, atI, ixN, g1, k1]
end

theorem fn_lawS {P : Program} {w : World} {K : PySem.W.Frag} {mg : Str → Option Value} {base : Heap} (T : TX K mg) : ∃ fd, FunD K "law" "law" (defArgs s_law) (defBody s_law) (defScope s_law) [] [] (He.ga K "law") fd ∧ FnOk P w K mg base CX0 (13) (He.ga K "law") fd ["_law_script"] (My.spLaw K) := by
  obtain ⟨fd, F, h⟩ := fn_law (P := P) (w := w) (base := base) T
  exact ⟨fd, F, h.imp (Mi.law_in law_sp)⟩
/-! ### the head -/
def loose : List PySem.Str := (["PagesError", "AccessError", "LimitError", "MissingError", "FileError", "CodeError", "BadRange", "Unmapped", "Denied", "BeyondFile", "check_range", "Device", "_law_number", "_law_is_whole", "_law_same", "_law_device_content", "_law_device_fates", "_law_device_failure", "_law_device_due", "_law_device_holds", "_law_device_refuses", "_law_device_call"] : List PySem.Str)
abbrev R : PySem.W.OpenRow := PySem.W.OpenLaw.row PySem.Challenge.rw_lentpages_k29_device
abbrev hk : PySem.W.Hook := My.hookE 5 fas fns fxs
def ob (s : PySem.W.SharedT) : Bool × He.AlD := My.lookE 5 fas fns fxs (HandSHeadRun.getT s)
theorem ob_eq (s : PySem.W.SharedT) : ob s = hk.obs s.abs := My.lookE_eq (HandSHeadRun.getT_eq s)
theorem run (w : World) : HandSHeadRun.RunEq R (PySem.W.view R.prog [26]) hk ob 100000 loose w := by
  intro os
  kernel_rfl
end Law
open PySem PySem.W PySem.Calls PyProof.Rows
theorem PySem.Challenge.cw_lentpages_k29_device_holds : PySem.Challenge.rw_lentpages_k29_device.Holds := by
  w_on; o_law
  refine HandSHeadRun.head_any (r := OpenLaw.row PySem.Challenge.rw_lentpages_k29_device) (q := view (OpenLaw.row PySem.Challenge.rw_lentpages_k29_device).prog [26]) (H := Law.hk) (ob := Law.ob) (M := 100000) (loose := Law.loose) (d := HandSHeadRun.topDef (OpenLaw.row PySem.Challenge.rw_lentpages_k29_device).prog 26) (kwd := []) Law.ob_eq
    (by kernel_rfl) (fun s => by kernel_rfl) Law.run (by kernel_rfl) (by kernel_rfl) (by kernel_rfl) (by rfl) (by first | assumption | decide +kernel) (by decide +kernel) ⟨rfl, rfl, rfl, rfl, rfl, by decide +kernel⟩ ?hw ?hc
  case hw => w_witness2
  case hc =>
    refine L2.walk_ofE (l := PySem.Challenge.rw_lentpages_k29_device) (n := 63) (k := 13) (x := "_law_script") (CX := L2.CX0) rfl (by decide) (by kernel_rfl) ⟨rfl, by decide, by decide⟩ ?F (fun _ _ _ _ z => z)
    intro w mg fa h Y G hmg0
    obtain ⟨K, KX, c⟩ := Y
    have hmg : mg ("law" : PySem.Str) = some (.ref fa) := by
      have e : (HandSHeadRun.topDef (OpenLaw.row PySem.Challenge.rw_lentpages_k29_device).prog 26).name = ("law" : PySem.Str) := by kernel_rfl
      rw [← e]
      exact hmg0
    have T : Law.TX K mg := My.TxE.of KX G c
    have e := hmg.symm.trans (Law.gl_law T)
    cases e
    obtain ⟨fd, F, _⟩ := Law.fn_lawS (P := (PySem.Challenge.rw_lentpages_k29_device).prog) (w := w) (base := h) T
    exact ⟨K, fd, My.spLaw K, KX, fun s v => L2.FunD.bindsA (ps := ["_law_script"]) F (fun _ _ _ _ _ _ us hl => match us, hl with | [_], _ => rfl) s [v] rfl, fun H a ns hl _ hS => ⟨a, ns, rfl, hS, hl, fun _ => rfl⟩, fun base _ _ => by
      obtain ⟨fd2, F2, h2⟩ := Law.fn_lawS (P := (PySem.Challenge.rw_lentpages_k29_device).prog) (w := w) (base := base) T
      have ef := My.FunD.same F F2
      subst ef
      exact h2⟩
#print axioms PySem.Challenge.cw_lentpages_k29_device_holds
