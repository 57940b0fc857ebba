import PyProof.Rows.All
import Wide.All
import OpenK.AllK
import Wide.FinOn
import PyProof.EqAt
import PyProof.EqKinds
import PyProof.TupleCall
import KE.KStateDown
import Lean
import HandS.ForMost
import HandS.Evl
import HandS.Steps
import HandS.Wide
import HandS.IsInst
import HandS.Defaults
import HandS.Flow
import HandS.HeadEnd
import HandS.HeadHook1
import HandS.HeadHook2
import HandS.Head0
import HandS.Head1
import HandS.Head2
import HandS.Exc
import HandS.ExcOwn
import HandS.ExcInit
import HandS.ExcField
import HandS.ExcIs
import HandS.FStr
import HandS.TryMany
import HandS.TryOnly
import HandS.HeadHook3
import HandS.HeadHook4
import KE.KExcIs
import OpenK.KCls
import HandS.Rev
import HandS.Zip
import HandS.DictComp
import HandS.SortRule
import KE.GoesEnumKw
import PySem.Challenge.RW_lentpages_k54_whole_bags_and_lies
set_option Elab.async false
set_option linter.all false
set_option maxRecDepth 100000
set_option maxHeartbeats 4000000
namespace My
open PySem PySem.Spec PyProof.Rows L2 Evl
/-! ### a def by its name -/
structure DefOk (P : Program) (w : World) (K : PySem.W.Frag) (mg : Str → Option Value) (base : Heap) (k : Nat) (x : Str) (ps : List Str) (dvs : List V) (sp : Sp) : Prop where
  ex : ∃ (f : Addr) (fd : FuncData) (ds : List Value), mg x = some (.ref f) ∧ PySem.W.keepIn K (.ref f) = true ∧ Binds K fd ps ds ∧ Vals dvs ds ∧ FnOk P w K mg base CX0 k f fd ps sp
section
variable {X : Cx} {k j : Nat} {x : Str} {ps : List Str} {dvs : List V} {sp : Sp} {p pos : Pos} {e : Expr} {es : List Expr} {t : TA}
theorem pe_callN (D : DefOk X.prog X.w X.K X.mg X.base k x ps dvs sp) (hr : Room j X.A)
    (ha : PA X (e :: es) t) (hk : k ≤ j := by decide) (hg : Gl X x := by rfl) (hdb : (x == ("__debug__" : Str)) = false := by decide) (he : starEach (e :: es) X.env = (false, eval e X.env) :: starEach es X.env := by rfl) (hpl : (backTo pos (starEach es X.env)).any (·.1) = false := by rfl) :
    PE X (.Call (.Name x p) (e :: es) [] pos) (tCall sp dvs E0 t) := by
  obtain ⟨f, fd, ds, h1, h2, h3, h4, h5⟩ := D.ex
  exact pe_call h5 (hr.mono hk) hg h1 h2 h3 h4 pass0 ha hdb he hpl
theorem pe_callN0 (D : DefOk X.prog X.w X.K X.mg X.base k x ps dvs sp) (hr : Room j X.A)
    (hk : k ≤ j := by decide) (hg : Gl X x := by rfl) (hdb : (x == ("__debug__" : Str)) = false := by decide) :
    PE X (.Call (.Name x p) [] [] pos) (tCall sp dvs E0 tNil) := by
  obtain ⟨f, fd, ds, h1, h2, h3, h4, h5⟩ := D.ex
  exact pe_call0 h5 (hr.mono hk) hg h1 h2 h3 h4 pass0 hdb
end
theorem DefOk.of {P : Program} {w : World} {K : PySem.W.Frag} {mg : Str → Option Value} {base : Heap} {k : Nat} {x : Str} {ps : List Str} {sp : Sp} {st : Stmt} {fd : FuncData} {f : Addr} (F : FunD K x x (defArgs st) (defBody st) (defScope st) [] [] f fd)
    (g : mg x = some (.ref f)) (b : Binds K fd ps []) (h : FnOk P w K mg base CX0 k f fd ps sp) : DefOk P w K mg base k x ps [] sp := ⟨f, fd, [], g, F.kp, b, .nil, h⟩
theorem FunD.ok0 {P : Program} {w : World} {K : PySem.W.Frag} {mg : Str → Option Value} {base : Heap} {x qual : Str} {params : Arguments} {body : List Stmt} {scope : Scope} {dvs : List V} {kws : List (Str × V)} {f : Addr} {fd : FuncData}
    {N ps : List Str} {k : Nat} {sp : Sp} (F : FunD K x qual params body scope dvs kws f fd) (S : FnScope N ps scope) (len : ∀ vs H Q E, sp vs H Q E → vs.length = ps.length)
    (hbody : ∀ (cdv : Value) (A : Around) (outer : List Env) (s : Shared) (H : Hp) (vs : List V) (Q : VK) (E : XK), Room k (A.deeper (envOfC qual scope s.heap.objs.size f cdv)) → sp vs H Q E →
      ∃ t, PSs (cxOf CX0 P w K mg base N qual scope f cdv A outer s H E).nox body t ∧ t { nx := fun _ H' => Q .non H', rt := Q } (start N vs) H) : FnOk P w K mg base CX0 (k + 1) f fd ps sp :=
  F.ok S len fun cdv A outer s H vs Q E hr h => by
    obtain ⟨t, h1, h2⟩ := hbody cdv A outer s H vs Q E hr h
    exact ⟨t, h1.nox, h2⟩
/-! ### the facts of a top by names -/
structure Tx (fa : List He.Fa) (fn : List He.DefD) (K : PySem.W.Frag) (mg : Str → Option Value) : Prop where
  says : He.SaysD fa fn K
  glo : ∀ x, (He.Fa.glo x).ok K = true → mg x = some (.ref (He.ga K x))
  fre : ∀ x, (He.Fa.free x).ok K = true → mg x = none
theorem Tx.mk' {fa : List He.Fa} {fn : List He.DefD} {K : PySem.W.Frag} {h : Heap} {mg : Str → Option Value} (X : K.In h) (G : h.Ns mainGlobals mg) (c : He.SaysD fa fn K) : Tx fa fn K mg :=
  ⟨c, fun _ h => He.glo_ok X G h, fun _ h => He.free_ok X G h⟩
/-! ### rules with their fragment named (within a block X.K is not seen as K) -/
def rLenQ (K : PySem.W.Frag) : List V → Hp → VK → Prop := fun xs H Q => ∃ p ys, xs = [.ref p] ∧ (SqL K H p ys ∨ SqT K H p ys) ∧ Q (.int ys.length) H
def rListQ (K : PySem.W.Frag) : List V → Hp → VK → Prop := fun xs H Q => ∃ p ys, xs = [.ref p] ∧ (SqL K H p ys ∨ SqT K H p ys) ∧ ∀ l, H l = none → Q (.ref l) (upd H l (.lst ys))
def rTupQ (K : PySem.W.Frag) : List V → Hp → VK → Prop := fun xs H Q => ∃ p ys, xs = [.ref p] ∧ ((SqL K H p ys ∧ ∀ l, H l = none → Q (.ref l) (upd H l (.tup ys))) ∨ (SqT K H p ys ∧ Q (.ref p) H))
section
variable {X : Cx} {K : PySem.W.Frag}
theorem ixL (K : PySem.W.Frag) (h : X.K = K := by rfl) : IxR X (rIxL K) := h ▸ ix_list
theorem ixT (K : PySem.W.Frag) (h : X.K = K := by rfl) : IxR X (rIxT K) := h ▸ ix_tup
theorem ixQ (K : PySem.W.Frag) (h : X.K = K := by rfl) : IxR X (rIx K) := h ▸ ix_seq
theorem inQ (K : PySem.W.Frag) (h : X.K = K := by rfl) : OpR X (compareOp .In) (rIn K false) := h ▸ op_in_seq
theorem niQ (K : PySem.W.Frag) (h : X.K = K := by rfl) : OpR X (compareOp .NotIn) (rIn K true) := h ▸ op_notIn_seq
theorem eqD (K : PySem.W.Frag) (hu : X.A.units + 64 < cLine) (h : X.K = K := by rfl) : OpR X (compareOp .Eq) (rEqD K) := h ▸ op_eqD hu
theorem neD (K : PySem.W.Frag) (hu : X.A.units + 64 < cLine) (h : X.K = K := by rfl) : OpR X (compareOp .NotEq) (rNeD K) := h ▸ op_neD hu
theorem catT (K : PySem.W.Frag) (h : X.K = K := by rfl) : OpR X (binaryOp .Add) (rCatT K) := h ▸ op_catT
theorem lenQ (K : PySem.W.Frag) (h : X.K = K := by rfl) : CallR X (.builtin "len") (rLenQ K) := h ▸ call_len_seq
theorem listQ (K : PySem.W.Frag) (h : X.K = K := by rfl) : CallR X (.type "list") (rListQ K) := h ▸ call_list_of
theorem tupQ (K : PySem.W.Frag) (h : X.K = K := by rfl) : CallR X (.type "tuple") (rTupQ K) := h ▸ call_tuple_of
theorem isiK (K : PySem.W.Frag) (h : X.K = K := by rfl) : CallR X (.builtin "isinstance") (rIsi K) := h ▸ call_isi
theorem isiTK (K : PySem.W.Frag) (h : X.K = K := by rfl) : CallR X (.builtin "isinstance") (rIsiT K) := h ▸ call_isiT
theorem sumK (K : PySem.W.Frag) (hc : X.calm = true) (h : X.K = K := by rfl) : CallR X (.builtin "sum") (rSum K) := h ▸ cr_sum hc
theorem maxK (K : PySem.W.Frag) (hc : X.calm = true) (h : X.K = K := by rfl) : CallR X (.builtin "max") (rMax K) := h ▸ cr_max hc
theorem minK (K : PySem.W.Frag) (hc : X.calm = true) (h : X.K = K := by rfl) : CallR X (.builtin "min") (rMin K) := h ▸ cr_min hc
theorem slL (K : PySem.W.Frag) (h : X.K = K := by rfl) : SlR X (rSlL K) := h ▸ sl_list
theorem slT (K : PySem.W.Frag) (h : X.K = K := by rfl) : SlR X (rSlT K) := h ▸ sl_tup
theorem pe_fldK (K : PySem.W.Frag) {e : Expr} {ta : TE} {f : Str} {pos : Pos} (he : PE X e ta) (hb : attributeBase e f X.env (eval e X.env) = eval e X.env) (h : X.K = K := by rfl) : PE X (.Attribute e f pos) (tFld K ta f) := h ▸ pe_fld he hb
theorem pt_truthK (K : PySem.W.Frag) {a : Expr} {ta : TE} (ha : PE X a ta) (he : ∀ whole, isTrue a X.env whole = (do let v ← whole; standAt a.pos; holding [v] (truthy v))) (h : X.K = K := by rfl) : PT X a (tTru K ta) := h ▸ pt_truth ha he
theorem pg_tupK (K : PySem.W.Frag) {es : List Expr} {k : Nat} {t : TGs} {n : Nat} {pos : Pos} (hc : X.calm = true) (hl : PGs X es t) (hn : (assignEach es X.env).length = n := by rfl) (hst : (assignEach es X.env).findIdx? (·.1) = none := by rfl) (h : X.K = K := by rfl) : PG X (.Tuple es k pos) (gTup K n t) := by
  subst h
  exact pg_tup hc hl hn hst
end
/-! ### further values -/
section
variable {K : PySem.W.Frag} {σ : L2.St} {H H' : Hp} {ta tb te tx : TE} {t u : TT} {x y z v : V} {r : R2}
theorem rv_pow {i j : Int} (h : CPow i j) : RV (rI CPow fun i j => .int (i ^ j.toNat)) (.int i) (.int j) H (.int (i ^ j.toNat)) := rv_I h
theorem rv_str {i j : Str} (h : i.length + j.length ≤ sizeLine) : RV (fun x y H Q => ∃ i j, x = .str i ∧ y = .str j ∧ i.length + j.length ≤ sizeLine ∧ Q (.str (i ++ j)) H) (.str i) (.str j) H (.str (i ++ j)) := fun H1 _ _ q => ⟨i, j, rfl, rfl, h, q H1 (Ex.refl H1)⟩
theorem rc_abs {i : Int} : RC (fun xs H Q => ∃ i, xs = [.int i] ∧ Q (.int (if i < 0 then -i else i)) H) [.int i] H (.int (if i < 0 then -i else i)) := fun H1 _ _ q => ⟨i, rfl, q H1 (Ex.refl H1)⟩
theorem rc_int {i : Int} : RC (fun xs H Q => (∃ i, xs = [.int i] ∧ Q (.int i) H) ∨ ∃ k, xs = [.bl k] ∧ Q (.int (if k then 1 else 0)) H) [.int i] H (.int i) := fun H1 _ _ q => .inl ⟨i, rfl, q H1 (Ex.refl H1)⟩
theorem rc_intb {k : Bool} : RC (fun xs H Q => (∃ i, xs = [.int i] ∧ Q (.int i) H) ∨ ∃ k, xs = [.bl k] ∧ Q (.int (if k then 1 else 0)) H) [.bl k] H (.int (if k then 1 else 0)) := fun H1 _ _ q => .inr ⟨k, rfl, q H1 (Ex.refl H1)⟩
theorem rc_max2 {i j : Int} : RC (fun xs H Q => ∃ i j, xs = [.int i, .int j] ∧ Q (.int (if j > i then j else i)) H) [.int i, .int j] H (.int (if j > i then j else i)) := fun H1 _ _ q => ⟨i, j, rfl, q H1 (Ex.refl H1)⟩
theorem rc_min2 {i j : Int} : RC (fun xs H Q => ∃ i j, xs = [.int i, .int j] ∧ Q (.int (if j < i then j else i)) H) [.int i, .int j] H (.int (if j < i then j else i)) := fun H1 _ _ q => ⟨i, j, rfl, q H1 (Ex.refl H1)⟩
theorem rc_lenL {p : Addr} {ys : List V} (h : SqL K H p ys) : RC (rLenQ K) [.ref p] H (.int ys.length) := fun H1 e _ q => ⟨p, ys, rfl, .inl (ex_l e h), q H1 (Ex.refl H1)⟩
theorem rc_lenT {p : Addr} {ys : List V} (h : SqT K H p ys) : RC (rLenQ K) [.ref p] H (.int ys.length) := fun H1 e _ q => ⟨p, ys, rfl, .inr (ex_t e h), q H1 (Ex.refl H1)⟩
theorem rc_isi {x c : V} {t u : Value} {b : Bool} (hc : ClsV c u) (ht : ∀ H1, Ex H H1 → TyX K H1 x t) (hk : PySem.W.kitOne K t u = some b) : RC (rIsi K) [x, c] H (.bl b) := fun H1 e _ q => ⟨x, c, t, u, b, rfl, hc, ht H1 e, hk, q H1 (Ex.refl H1)⟩
end
end My

namespace My
open PySem PySem.Spec PyProof.Rows L2 Evl
/-! ### data -/
section
variable {K : PySem.W.Frag} {H H' : Hp}
mutual
theorem dp_ex (e : Ex H H') : ∀ {v : V} {d : PyData}, Dp K H v d → Dp K H' v d
  | _, _, .non => .non
  | _, _, .bl b => .bl b
  | _, _, .int i => .int i
  | _, _, .str x => .str x
  | _, _, .lst h t => .lst (ex_l e h) (dpa_ex e t)
  | _, _, .tup h t => .tup (ex_t e h) (dpa_ex e t)
theorem dpa_ex (e : Ex H H') : ∀ {vs : List V} {ds : List PyData}, DpAll K H vs ds → DpAll K H' vs ds
  | _, _, .nil => .nil
  | _, _, .cons h t => .cons (dp_ex e h) (dpa_ex e t)
end
theorem dpa_len : ∀ {vs : List V} {ds : List PyData}, DpAll K H vs ds → vs.length = ds.length
  | _, _, .nil => rfl
  | _, _, .cons _ t => congrArg Nat.succ (dpa_len t)
theorem dpa_at : ∀ {vs : List V} {ds : List PyData} {i : Nat}, DpAll K H vs ds → (h : i < ds.length) → ∃ v, vs[i]? = some v ∧ Dp K H v ds[i]
  | _, _, 0, .cons h _, _ => ⟨_, rfl, h⟩
  | _, _, i + 1, .cons _ t, l => by
    obtain ⟨v, e, q⟩ := dpa_at (i := i) t (Nat.lt_of_succ_lt_succ l)
    exact ⟨v, e, q⟩
theorem dpa_app : ∀ {vs ws : List V} {ds es : List PyData}, DpAll K H vs ds → DpAll K H ws es → DpAll K H (vs ++ ws) (ds ++ es)
  | _, _, _, _, .nil, h => h
  | _, _, _, _, .cons a t, h => .cons a (dpa_app t h)
theorem dpa_ints : ∀ ns : List Int, DpAll K H (ns.map V.int) (ns.map PyData.int)
  | [] => .nil
  | n :: r => .cons (.int n) (dpa_ints r)
/-- nested at most so deep, no dict, no list over 40,000 items -/
def Dn : Nat → PyData → Prop
  | _, .none => True
  | _, .bool _ => True
  | _, .int _ => True
  | _, .str _ => True
  | n + 1, .list ds => ds.length ≤ 40000 ∧ ∀ d ∈ ds, Dn n d
  | n + 1, .tuple ds => ds.length ≤ 40000 ∧ ∀ d ∈ ds, Dn n d
  | _, _ => False
theorem Dn.up : ∀ {n : Nat} {d : PyData}, Dn n d → Dn (n + 1) d
  | _, .none, _ => by simp [Dn]
  | _, .bool _, _ => by simp [Dn]
  | _, .int _, _ => by simp [Dn]
  | _, .str _, _ => by simp [Dn]
  | 0, .list _, h => by simp [Dn] at h
  | 0, .tuple _, h => by simp [Dn] at h
  | n + 1, .list ds, h => by
    simp only [Dn] at h ⊢
    exact ⟨h.1, fun d hd => Dn.up (h.2 d hd)⟩
  | n + 1, .tuple ds, h => by
    simp only [Dn] at h ⊢
    exact ⟨h.1, fun d hd => Dn.up (h.2 d hd)⟩
  | 0, .dict _, h => by simp [Dn] at h
  | n + 1, .dict _, h => by simp [Dn] at h
theorem Dn.le {n m : Nat} {d : PyData} (h : Dn n d) (l : n ≤ m) : Dn m d := by
  induction l with
  | refl => exact h
  | step _ ih => exact ih.up
theorem dn_ints {ns : List Int} (h : ns.length ≤ 40000) : Dn 1 (.list (ns.map PyData.int)) := by
  simp only [Dn, List.length_map]
  refine ⟨h, fun d hd => ?_⟩
  obtain ⟨n, _, rfl⟩ := List.mem_map.mp hd
  simp [Dn]
/-! ### types -/
def tyN : PyData → String
  | .none => "NoneType"
  | .bool _ => "bool"
  | .int _ => "int"
  | .str _ => "str"
  | .list _ => "list"
  | .tuple _ => "tuple"
  | .dict _ => "dict"
theorem ty_l {a : Addr} {xs : List V} (h : SqL K H a xs) : TyX K H (.ref a) (.type "list") := by
  rcases h with (h | ⟨o, h⟩) | ⟨o, its, n, h1, h2, _⟩
  · exact .base (.lst h)
  · exact .base (.frz h)
  · exact .kList h1 h2
theorem ty_t {a : Addr} {xs : List V} (h : SqT K H a xs) : TyX K H (.ref a) (.type "tuple") := by
  rcases h with (h | ⟨o, h⟩) | ⟨o, its, n, h1, h2, _⟩
  · exact .base (.tup h)
  · exact .fTuple h
  · exact .kTuple h1 h2
theorem dp_ty {v : V} {d : PyData} (h : Dp K H v d) : TyX K H v (.type (tyN d)) := by
  cases h with
  | non => exact .base .non
  | bl b => exact .base (.bl b)
  | int i => exact .base (.int i)
  | str x => exact .base (.str x)
  | lst h _ => exact ty_l h
  | tup h _ => exact ty_t h
def isB (c t : String) : Bool := kitB t c == some true
/-- the classes that laws ask for -/
def askL : List String := ["int", "bool", "str", "list", "tuple"]
def askd (c : String) : Bool := askL.contains c
theorem kitB_all : ∀ t ∈ ["NoneType", "bool", "int", "str", "list", "tuple"], ∀ c ∈ askL, kitB t c = some (isB c t) := by decide +kernel
theorem kit_all {d : PyData} {v : V} (h : Dp K H v d) {c : String} (hc : askd c = true) : PySem.W.kitOne K (.type (tyN d)) (.type c) = some (isB c (tyN d)) := by
  have hm : c ∈ askL := by
    have h2 : askL.contains c = true := hc
    simpa using h2
  have ht : tyN d ∈ ["NoneType", "bool", "int", "str", "list", "tuple"] := by cases h <;> simp [tyN]
  exact kitB_all _ ht c hm
end
section
variable {K : PySem.W.Frag} {σ : L2.St} {H H' : Hp} {ta tb te tx : TE} {t u : TT} {x y z v : V} {d d2 : PyData}
theorem ev_isiD {c : String} (hx : Ev tx σ H v) (h : Dp K H v d) (hc : askd c = true) : Ev (tCB (rIsi K) (tCons tx (tCons (tC (.ty c)) tNil))) σ H (.bl (isB c (tyN d))) := fun H1 e Q q =>
  hx H1 e _ fun H2 e2 => ⟨v, .ty c, _, _, _, rfl, .ty c, dp_ty (dp_ex (e.trans e2) h), kit_all h hc, q H2 e2⟩
theorem ev_isiD2 {c1 c2 : String} (hx : Ev tx σ H v) (h : Dp K H v d) (h1 : askd c1 = true) (h2 : askd c2 = true) :
    Ev (tCB (rIsiT K) (tCons tx (tCons (tTup (tCons (tC (.ty c1)) (tCons (tC (.ty c2)) tNil))) tNil))) σ H (.bl (isB c1 (tyN d) || isB c2 (tyN d))) := fun H1 e Q q =>
  hx H1 e _ fun H2 e2 => ⟨by show 2 ≤ sizeLine; decide, fun p hp =>
    ⟨v, p, [.ty c1, .ty c2], .type (tyN d), [.type c1, .type c2], _, rfl, upd_same, .cons (.ty c1) (.cons (.ty c2) .nil), dp_ty (dp_ex ((e.trans e2).trans (Ex.new hp)) h), by
      refine kitAny_cons (b := isB c1 (tyN d)) (kit_all h h1) (fun e1 => ?_) (fun e1 => by rw [e1] <;> rfl)
      refine kitAny_cons (b := isB c2 (tyN d)) (kit_all h h2) (fun e2 => ?_) (fun e2 => by rw [e1, e2] <;> rfl)
      rw [e1, e2]
      exact kitAny_nil, q _ (e2.trans (Ex.new hp))⟩⟩
end
end My
namespace My
open PySem PySem.Spec PyProof.Rows L2 Evl
theorem FunD.same {K : PySem.W.Frag} {x qual : Str} {params : Arguments} {body : List Stmt} {scope : Scope} {dvs : List V} {kws : List (Str × V)} {f : Addr} {fd fd2 : FuncData} (F : FunD K x qual params body scope dvs kws f fd) (F2 : FunD K x qual params body scope dvs kws f fd2) : fd = fd2 := by
  obtain ⟨_, _, _, _, _, _, _, _, _, _, _, l1, _⟩ := F.ex
  obtain ⟨_, _, _, _, _, _, _, _, _, _, _, l2, _⟩ := F2.ex
  have e := l1.symm.trans l2
  injection e with e
  injection e with _ _ e _
  injection e
def spLaw (K : PySem.W.Frag) : Sp := fun vs H Q _ => ∃ (a : Addr) (ns : List Int), vs = [.ref a] ∧ SqL K H a (ns.map V.int) ∧ ns.length ≤ 63 ∧ ∀ H', Q (.bl true) H'
end My

namespace My
open PySem PySem.Spec PyProof.Rows L2 Evl
section
variable {K : PySem.W.Frag} {σ : L2.St} {H H' : Hp} {ta tb te tx : TE} {t u : TT} {x y z v : V} {D : Ends} {tu tw tz : TS} {g : TG}
/-- for over range(n), any n; a word B for a break -/
theorem q_forR1' {ta : TA} {j : Nat} {n : Int} (h : EvA ta σ H [.int n]) (hn : -(2 ^ 62) ≤ n ∧ n < 2 ^ 62) (Pv : Nat → L2.St → Hp → Prop) (B : L2.St → Hp → Prop) (h0 : ∀ H1, Ex H H1 → Pv 0 σ H1)
    (hs : ∀ (i : Nat) σ' H', (i : Int) < n → Pv i σ' H' → tu { D with nx := Pv (i + 1), ct := Pv (i + 1), bk := B } (σ'.set j (some (.int (i : Int)))) H') (hd : ∀ σ' H', Pv n.toNat σ' H' → B σ' H')
    (hb : ∀ σ' H', B σ' H' → tz D σ' H') : tCut (tFor (iRng1 ta) (gName j) tu) tz D σ H :=
  ⟨B, h H (Ex.refl H) _ fun H1 e => ⟨n, rfl, hn.1, hn.2, for_range (lo := 0) (n := n.toNat) Pv (h0 H1 e) (fun i σ' H' hi p => by
    have e0 : (0 : Int) + (i : Int) = (i : Int) := Int.zero_add _
    show tu { D with nx := Pv (i + 1), ct := Pv (i + 1), bk := B } (σ'.set j (some (.int ((0 : Int) + (i : Int))))) H'
    rw [e0]
    exact hs i σ' H' (by omega) p) hd⟩, hb⟩
theorem q_forR2' {ta : TA} {j : Nat} {lo n : Int} (h : EvA ta σ H [.int lo, .int n]) (hn : -(2 ^ 62) ≤ lo ∧ lo < 2 ^ 62 ∧ -(2 ^ 62) ≤ n ∧ n < 2 ^ 62) (Pv : Nat → L2.St → Hp → Prop) (B : L2.St → Hp → Prop) (h0 : ∀ H1, Ex H H1 → Pv 0 σ H1)
    (hs : ∀ (i : Nat) σ' H', lo + (i : Int) < n → Pv i σ' H' → tu { D with nx := Pv (i + 1), ct := Pv (i + 1), bk := B } (σ'.set j (some (.int (lo + (i : Int))))) H') (hd : ∀ σ' H', Pv (n - lo).toNat σ' H' → B σ' H')
    (hb : ∀ σ' H', B σ' H' → tz D σ' H') : tCut (tFor (iRng2 ta) (gName j) tu) tz D σ H :=
  ⟨B, h H (Ex.refl H) _ fun H1 e => ⟨lo, n, rfl, hn, for_range (lo := lo) (n := (n - lo).toNat) Pv (h0 H1 e) (fun i σ' H' hi p => hs i σ' H' (by omega) p) hd⟩, hb⟩
end
end My

namespace My
open PySem PySem.Spec PyProof.Rows L2 Evl
theorem isB_tab : isB "int" "NoneType" = false ∧ isB "bool" "NoneType" = false ∧ isB "str" "NoneType" = false ∧ isB "list" "NoneType" = false ∧ isB "tuple" "NoneType" = false ∧ isB "int" "bool" = true ∧ isB "bool" "bool" = true ∧ isB "str" "bool" = false ∧ isB "list" "bool" = false ∧ isB "tuple" "bool" = false ∧ isB "int" "int" = true ∧ isB "bool" "int" = false ∧ isB "str" "int" = false ∧ isB "list" "int" = false ∧ isB "tuple" "int" = false ∧ isB "int" "str" = false ∧ isB "bool" "str" = false ∧ isB "str" "str" = true ∧ isB "list" "str" = false ∧ isB "tuple" "str" = false ∧ isB "int" "list" = false ∧ isB "bool" "list" = false ∧ isB "str" "list" = false ∧ isB "list" "list" = true ∧ isB "tuple" "list" = false ∧ isB "int" "tuple" = false ∧ isB "bool" "tuple" = false ∧ isB "str" "tuple" = false ∧ isB "list" "tuple" = false ∧ isB "tuple" "tuple" = true := by decide +kernel
section
variable {K : PySem.W.Frag} {σ : L2.St} {H H' : Hp} {ta tb te tx : TE} {t u : TT} {x y z v : V} {D : Ends} {tu tw tz : TS} {g : TG}
theorem ev_isN (h : Ev ta σ H x) : Ev (tIsN ta) σ H (.bl (decide (x = .non))) := fun H1 e Q q => h H1 e _ fun H2 e2 => q H2 e2
theorem ev_notN (h : Ev ta σ H x) : Ev (tNotN ta) σ H (.bl (!decide (x = .non))) := fun H1 e Q q => h H1 e _ fun H2 e2 => q H2 e2
end
end My

namespace My
open PySem PySem.Spec PyProof.Rows L2 Evl
section
variable {K : PySem.W.Frag} {σ : L2.St} {H H' : Hp} {ta tb te tx : TE} {t u : TT} {x y z v : V} {D : Ends} {tu tw tz : TS} {g : TG}
theorem ev_lenN' {xs : List V} (ha : EvL ta σ H xs) : Ev (tCB (rLenQ K) (tCons ta tNil)) σ H (.int (xs.length : Int)) := fun H1 e Q q =>
  ha H1 e _ fun p H2 _ e2 h2 => ⟨p, xs, rfl, Or.inl (sq_of h2), q H2 e2⟩
theorem rv_ixQL {p : Addr} {xs : List V} {i : Int} (h : SqL K H p xs) (ha : atI xs i = some v) : RV (rIx K) (.ref p) (.int i) H v := fun H1 e _ q => .inl ⟨p, xs, i, v, rfl, rfl, ex_l e h, ha, q H1 (Ex.refl H1)⟩
theorem rv_ixQT {p : Addr} {xs : List V} {i : Int} (h : SqT K H p xs) (ha : atI xs i = some v) : RV (rIx K) (.ref p) (.int i) H v := fun H1 e _ q => .inr (.inl ⟨p, xs, i, v, rfl, rfl, ex_t e h, ha, q H1 (Ex.refl H1)⟩)
/-- a list or a tuple, by its kind -/
def SqB (K : PySem.W.Frag) (H : Hp) (b : Bool) (a : Addr) (xs : List V) : Prop := if b = true then SqL K H a xs else SqT K H a xs
theorem SqB.ex {b : Bool} {a : Addr} {xs : List V} (e : Ex H H') (h : SqB K H b a xs) : SqB K H' b a xs := by
  cases b with
  | true => exact ex_l e h
  | false => exact ex_t e h
theorem rv_ixB {b : Bool} {p : Addr} {xs : List V} {i : Int} (h : SqB K H b p xs) (ha : atI xs i = some v) : RV (rIx K) (.ref p) (.int i) H v := by
  cases b with
  | true => exact rv_ixQL h ha
  | false => exact rv_ixQT h ha
theorem rc_lenB {b : Bool} {p : Addr} {ys : List V} (h : SqB K H b p ys) : RC (rLenQ K) [.ref p] H (.int ys.length) := by
  cases b with
  | true => exact rc_lenL h
  | false => exact rc_lenT h
end
theorem given_none {n : Nat} {f : Nat → Bool} {v : Nat → V} : (given n f v).length = 0 ↔ ∀ i, i < n → f i = false := by
  unfold given
  rw [List.length_map, List.length_eq_zero_iff, List.filter_eq_nil_iff]
  constructor
  · intro h i hi
    have := h i (List.mem_range.mpr hi)
    simpa using this
  · intro h i hi
    rw [h i (List.mem_range.mp hi)]
    exact Bool.false_ne_true
/-- the sequences of one kind -/
def seqD (b : Bool) (ds : List PyData) : PyData := if b = true then .list ds else .tuple ds
theorem seqD_inj {b : Bool} {ds es : List PyData} : seqD b ds = seqD b es ↔ ds = es := by
  cases b <;> simp [seqD]
theorem dp_seq {K : PySem.W.Frag} {H : Hp} {b : Bool} {v : V} {ds : List PyData} (h : Dp K H v (seqD b ds)) : ∃ a xs, v = .ref a ∧ SqB K H b a xs ∧ DpAll K H xs ds := by
  cases b with
  | true =>
    cases h with
    | lst h t => exact ⟨_, _, rfl, h, t⟩
  | false =>
    cases h with
    | tup h t => exact ⟨_, _, rfl, h, t⟩
theorem dn_seq {n : Nat} {b : Bool} {ds : List PyData} (h : Dn n (seqD b ds)) : ∃ m, n = m + 1 ∧ ds.length ≤ 40000 ∧ ∀ d ∈ ds, Dn m d := by
  cases n with
  | zero => cases b <;> simp [Dn, seqD] at h
  | succ m => cases b <;> (simp [Dn, seqD] at h; exact ⟨m, rfl, h⟩)
end My

namespace My
open PySem PySem.Spec PyProof.Rows L2 Evl
/-! ### expressions whose values are data -/
section
variable {K : PySem.W.Frag}
def EvD (K : PySem.W.Frag) (te : TE) (σ : L2.St) (H : Hp) (d : PyData) : Prop := ∀ H1, Ex H H1 → ∀ Q : VK, (∀ v H2, Ex H1 H2 → Dp K H2 v d → Q v H2) → te σ H1 Q
def EvDs (K : PySem.W.Frag) (ta : TA) (σ : L2.St) (H : Hp) (ds : List PyData) : Prop := ∀ H1, Ex H H1 → ∀ Q : List V → Hp → Prop, (∀ vs H2, Ex H1 H2 → DpAll K H2 vs ds → Q vs H2) → ta σ H1 Q
/-- what a call hands back is data d, all else as it was -/
def RetD (K : PySem.W.Frag) (d : PyData) (H : Hp) (Q : VK) : Prop := ∀ v H2, Ex H H2 → Dp K H2 v d → Q v H2
/-- a call over data -/
def SpD (K : PySem.W.Frag) (sp : Sp) (ds : List PyData) (d : PyData) : Prop := ∀ vs H1, DpAll K H1 vs ds → ∀ Q : VK, RetD K d H1 Q → ∀ E : XK, sp vs H1 Q E
/-- a def that is a function of data -/
def spFn (K : PySem.W.Frag) (pre : List PyData → Prop) (f : List PyData → PyData) : Sp := fun vs H Q _ => ∃ ds, DpAll K H vs ds ∧ pre ds ∧ RetD K (f ds) H Q
/-- .. of which only a relation is told -/
def spRel (K : PySem.W.Frag) (pre : List PyData → Prop) (R : List PyData → PyData → Prop) : Sp := fun vs H Q _ => ∃ ds, DpAll K H vs ds ∧ pre ds ∧ ∀ d, R ds d → RetD K d H Q
theorem spFn_D {pre : List PyData → Prop} {f : List PyData → PyData} {ds : List PyData} (h : pre ds) : SpD K (spFn K pre f) ds (f ds) := fun vs H1 hv Q q E => ⟨ds, hv, h, q⟩
theorem RetD.go {d : PyData} {H H1 : Hp} {Q : VK} (k : RetD K d H Q) (e : Ex H H1) : RetD K d H1 Q := fun v H2 e2 h => k v H2 (e.trans e2) h
variable {σ : L2.St} {H H' : Hp} {ta tb te tx : TE} {t u : TT} {x y z v : V} {D : Ends} {tu tw tz : TS} {g : TG} {d e : PyData} {ds es : List PyData} {i j : Int} {b : Bool}
theorem EvD.mono (e : Ex H H') (h : EvD K te σ H d) : EvD K te σ H' d := fun H1 a Q q => h H1 (e.trans a) Q q
theorem dp_int (h : Dp K H v (.int i)) : v = .int i := by cases h; rfl
theorem dp_str {s : Str} (h : Dp K H v (.str s)) : v = .str s := by cases h; rfl
theorem dp_bool (h : Dp K H v (.bool b)) : v = .bl b := by cases h; rfl
theorem dp_none (h : Dp K H v .none) : v = .non := by cases h; rfl
theorem dp_list (h : Dp K H v (.list ds)) : ∃ a xs, v = .ref a ∧ SqL K H a xs ∧ DpAll K H xs ds := by
  cases h with
  | lst h t => exact ⟨_, _, rfl, h, t⟩
theorem dp_tup (h : Dp K H v (.tuple ds)) : ∃ a xs, v = .ref a ∧ SqT K H a xs ∧ DpAll K H xs ds := by
  cases h with
  | tup h t => exact ⟨_, _, rfl, h, t⟩
/-- a value that is data at H stays so -/
theorem evd_of (h : Ev te σ H v) (hd : Dp K H v d) : EvD K te σ H d := fun H1 e Q q => h H1 e Q fun H2 e2 => q v H2 e2 (dp_ex (e.trans e2) hd)
theorem evd_i (h : Ev te σ H (.int i)) : EvD K te σ H (.int i) := evd_of h (.int i)
theorem evd_b (h : Ev te σ H (.bl b)) : EvD K te σ H (.bool b) := evd_of h (.bl b)
theorem evd_s {s : Str} (h : Ev te σ H (.str s)) : EvD K te σ H (.str s) := evd_of h (.str s)
theorem evd_n (h : Ev te σ H .non) : EvD K te σ H .none := evd_of h .non
theorem EvD.toI (h : EvD K te σ H (.int i)) : Ev te σ H (.int i) := fun H1 e Q q => h H1 e Q fun v H2 e2 hd => dp_int hd ▸ q H2 e2
theorem EvD.toB (h : EvD K te σ H (.bool b)) : Ev te σ H (.bl b) := fun H1 e Q q => h H1 e Q fun v H2 e2 hd => dp_bool hd ▸ q H2 e2
theorem EvD.toS {s : Str} (h : EvD K te σ H (.str s)) : Ev te σ H (.str s) := fun H1 e Q q => h H1 e Q fun v H2 e2 hd => dp_str hd ▸ q H2 e2
theorem evd_var {n : Nat} (h : σ[n]? = some (some v)) (hd : Dp K H v d) : EvD K (tVar n) σ H d := evd_of (ev_var h) hd
theorem evd_int : EvD K (tC (.int i)) σ H (.int i) := evd_i ev_c
theorem evd_str {s : Str} : EvD K (tC (.str s)) σ H (.str s) := evd_s ev_c
theorem evd_bl : EvD K (tC (.bl b)) σ H (.bool b) := evd_b ev_c
theorem evd_non : EvD K (tC .non) σ H .none := evd_n ev_c
theorem evds_nil : EvDs K tNil σ H [] := fun H1 _ Q q => q [] H1 (Ex.refl H1) .nil
theorem evds_cons {tr : TA} (h : EvD K te σ H d) (hr : EvDs K tr σ H ds) : EvDs K (tCons te tr) σ H (d :: ds) := fun H1 e Q q =>
  h H1 e _ fun v H2 e2 hv => hr H2 (e.trans e2) _ fun vs H3 e3 hvs => q _ H3 (e2.trans e3) (.cons (dp_ex e3 hv) hvs)
theorem evd_call {sp : Sp} {E : XK} {ta : TA} (h : EvDs K ta σ H ds) (hs : SpD K sp ds d) : EvD K (tCall sp [] E ta) σ H d := fun H1 e Q q =>
  h H1 e _ fun vs H2 e2 hv => by
    rw [List.append_nil]
    exact hs vs H2 hv Q (fun v H3 e3 h3 => q v H3 (e2.trans e3) h3) E
theorem evd_tup {ta : TA} (h : EvDs K ta σ H ds) (hl : ds.length ≤ 100000) : EvD K (tTup ta) σ H (.tuple ds) := fun H1 e Q q =>
  h H1 e _ fun vs H2 e2 hv => ⟨by rw [dpa_len hv]; exact sz_of hl, fun p hp => q _ _ (e2.trans (Ex.new hp)) (.tup (st_of upd_same) (dpa_ex (Ex.new hp) hv))⟩
theorem evd_lst {ta : TA} (h : EvDs K ta σ H ds) (hl : ds.length ≤ 100000) : EvD K (tLst ta) σ H (.list ds) := fun H1 e Q q =>
  h H1 e _ fun vs H2 e2 hv => ⟨by rw [dpa_len hv]; exact sz_of hl, fun p hp => q _ _ (e2.trans (Ex.new hp)) (.lst (sq_of upd_same) (dpa_ex (Ex.new hp) hv))⟩
/-- the item at an int place -/
theorem dpa_atI {vs : List V} (h : DpAll K H vs ds) (ha : atI ds i = some d) : ∃ v, atI vs i = some v ∧ Dp K H v d := by
  obtain ⟨n, hn, hd⟩ := Option.bind_eq_some_iff.mp (show (ixN ds.length i).bind (fun j => ds[j]?) = some d from ha)
  obtain ⟨hlt, he⟩ := List.getElem?_eq_some_iff.mp hd
  obtain ⟨v, hv, hp⟩ := dpa_at h hlt
  refine ⟨v, ?_, he ▸ hp⟩
  show (ixN vs.length i).bind (fun j => vs[j]?) = some v
  rw [dpa_len h, hn]
  exact hv
theorem evd_ixL (ha : EvD K ta σ H (.list ds)) (hb : Ev tb σ H (.int i)) (h : atI ds i = some d) : EvD K (tOp (rIxL K) ta tb) σ H d := fun H1 e Q q =>
  ha H1 e _ fun v H2 e2 hv => hb H2 (e.trans e2) _ fun H3 e3 => by
    obtain ⟨a, xs, rfl, hs, hx⟩ := dp_list hv
    obtain ⟨w, hw, hp⟩ := dpa_atI hx h
    exact ⟨a, xs, i, w, rfl, rfl, ex_l e3 hs, hw, q w H3 (e2.trans e3) (dp_ex e3 hp)⟩
theorem evd_ixT (ha : EvD K ta σ H (.tuple ds)) (hb : Ev tb σ H (.int i)) (h : atI ds i = some d) : EvD K (tOp (rIxT K) ta tb) σ H d := fun H1 e Q q =>
  ha H1 e _ fun v H2 e2 hv => hb H2 (e.trans e2) _ fun H3 e3 => by
    obtain ⟨a, xs, rfl, hs, hx⟩ := dp_tup hv
    obtain ⟨w, hw, hp⟩ := dpa_atI hx h
    exact ⟨a, xs, i, w, rfl, rfl, ex_t e3 hs, hw, q w H3 (e2.trans e3) (dp_ex e3 hp)⟩
theorem ev_lenD (ha : EvD K ta σ H (.list ds)) : Ev (tCB (rLenQ K) (tCons ta tNil)) σ H (.int (ds.length : Int)) := fun H1 e Q q =>
  ha H1 e _ fun v H2 e2 hv => by
    obtain ⟨a, xs, rfl, hs, hx⟩ := dp_list hv
    refine ⟨a, xs, rfl, .inl hs, ?_⟩
    rw [dpa_len hx]
    exact q H2 e2
theorem ev_lenDT (ha : EvD K ta σ H (.tuple ds)) : Ev (tCB (rLenQ K) (tCons ta tNil)) σ H (.int (ds.length : Int)) := fun H1 e Q q =>
  ha H1 e _ fun v H2 e2 hv => by
    obtain ⟨a, xs, rfl, hs, hx⟩ := dp_tup hv
    refine ⟨a, xs, rfl, .inr hs, ?_⟩
    rw [dpa_len hx]
    exact q H2 e2
theorem dpa_drop : ∀ {vs : List V} {ds : List PyData} (n : Nat), DpAll K H vs ds → DpAll K H (vs.drop n) (ds.drop n)
  | _, _, 0, h => h
  | _, _, _ + 1, .nil => .nil
  | _, _, n + 1, .cons _ t => dpa_drop n t
theorem dpa_take : ∀ {vs : List V} {ds : List PyData} (n : Nat), DpAll K H vs ds → DpAll K H (vs.take n) (ds.take n)
  | _, _, 0, _ => .nil
  | _, _, _ + 1, .nil => .nil
  | _, _, n + 1, .cons h t => .cons h (dpa_take n t)
def cutD (xs : List PyData) (lo hi : Option Int) : List PyData := (xs.drop (HT.sIx xs.length 0 lo)).take (HT.sIx xs.length xs.length hi - HT.sIx xs.length 0 lo)
theorem dpa_cut {vs : List V} {lo hi : Option Int} (h : DpAll K H vs ds) : DpAll K H (cutV vs lo hi) (cutD ds lo hi) := by
  unfold cutV cutD
  rw [dpa_len h]
  exact dpa_take _ (dpa_drop _ h)
theorem evd_slL {tl th : TO} {lo hi : Option Int} (h : EvD K te σ H (.list ds)) (h1 : EvO tl σ H lo) (h2 : EvO th σ H hi) : EvD K (tSl (rSlL K) te tl th) σ H (.list (cutD ds lo hi)) := fun H0 e Q q =>
  h H0 e _ fun v H1 e1 hv => h1 H1 (e.trans e1) _ fun H2 e2 => h2 H2 ((e.trans e1).trans e2) _ fun H3 e3 => by
    obtain ⟨a, xs, rfl, hs, hx⟩ := dp_list hv
    refine ⟨a, xs, rfl, ex_l (e2.trans e3) hs, fun p hp => q _ _ (((e1.trans e2).trans e3).trans (Ex.new hp)) (.lst (sq_of upd_same) ?_)⟩
    exact dpa_ex (Ex.new hp) (dpa_cut (dpa_ex (e2.trans e3) hx))
/-- ==, != of data -/
theorem ev_eqD (ha : EvD K ta σ H d) (hb : EvD K tb σ H e) (sd : SeqAt.shaped d = true) (se : SeqAt.shaped e = true) : Ev (tOp (rEqD K) ta tb) σ H (.bl (PyData.eqv d e)) := fun H1 x Q q =>
  ha H1 x _ fun v H2 e2 hv => hb H2 (x.trans e2) _ fun u H3 e3 hu => ⟨d, e, dp_ex e3 hv, hu, sd, se, q H3 (e2.trans e3)⟩
theorem ev_neD (ha : EvD K ta σ H d) (hb : EvD K tb σ H e) (sd : SeqAt.shaped d = true) (se : SeqAt.shaped e = true) : Ev (tOp (rNeD K) ta tb) σ H (.bl (!PyData.eqv d e)) := fun H1 x Q q =>
  ha H1 x _ fun v H2 e2 hv => hb H2 (x.trans e2) _ fun u H3 e3 hu => ⟨d, e, dp_ex e3 hv, hu, sd, se, q H3 (e2.trans e3)⟩
def isNone : PyData → Bool
  | .none => true
  | _ => false
theorem isNone_iff {d : PyData} : isNone d = true ↔ d = .none := by cases d <;> simp [isNone]
theorem ev_isND (ha : EvD K ta σ H d) : Ev (tIsN ta) σ H (.bl (isNone d)) := fun H1 x Q q =>
  ha H1 x _ fun v H2 e2 hv => by
    have : decide (v = .non) = isNone d := by cases hv <;> simp [isNone]
    rw [this]
    exact q H2 e2
theorem ev_notND (ha : EvD K ta σ H d) : Ev (tNotN ta) σ H (.bl (!isNone d)) := fun H1 x Q q =>
  ha H1 x _ fun v H2 e2 hv => by
    have : decide (v = .non) = isNone d := by cases hv <;> simp [isNone]
    rw [this]
    exact q H2 e2
/-- a new list of data -/
def EvLD (K : PySem.W.Frag) (te : TE) (σ : L2.St) (H : Hp) (ds : List PyData) : Prop := ∀ H1, Ex H H1 → ∀ Q : VK, (∀ p vs H2, H1 p = none → Ex H1 H2 → H2 p = some (.lst vs) → DpAll K H2 vs ds → Q (.ref p) H2) → te σ H1 Q
theorem EvLD.toD (h : EvLD K te σ H ds) : EvD K te σ H (.list ds) := fun H1 e Q q => h H1 e Q fun p vs H2 _ e2 h2 hd => q _ H2 e2 (.lst (sq_of h2) hd)
theorem eld_lst {ta : TA} (h : EvDs K ta σ H ds) (hl : ds.length ≤ 100000) : EvLD K (tLst ta) σ H ds := fun H1 e Q q =>
  h H1 e _ fun vs H2 e2 hv => ⟨by rw [dpa_len hv]; exact sz_of hl, fun p hp => q p vs _ (fresh_back e2 hp) (e2.trans (Ex.new hp)) upd_same (dpa_ex (Ex.new hp) hv)⟩
theorem eld_list (ha : EvD K ta σ H (.list ds)) : EvLD K (tCB (rListQ K) (tCons ta tNil)) σ H ds := fun H1 e Q q =>
  ha H1 e _ fun v H2 e2 hv => by
    obtain ⟨a, xs, rfl, hs, hx⟩ := dp_list hv
    exact ⟨a, xs, rfl, .inl hs, fun l hl => q l xs _ (fresh_back e2 hl) (e2.trans (Ex.new hl)) upd_same (dpa_ex (Ex.new hl) hx)⟩
theorem eld_listT (ha : EvD K ta σ H (.tuple ds)) : EvLD K (tCB (rListQ K) (tCons ta tNil)) σ H ds := fun H1 e Q q =>
  ha H1 e _ fun v H2 e2 hv => by
    obtain ⟨a, xs, rfl, hs, hx⟩ := dp_tup hv
    exact ⟨a, xs, rfl, .inr hs, fun l hl => q l xs _ (fresh_back e2 hl) (e2.trans (Ex.new hl)) upd_same (dpa_ex (Ex.new hl) hx)⟩
theorem eld_sl {tl th : TO} {lo hi : Option Int} (h : EvD K te σ H (.list ds)) (h1 : EvO tl σ H lo) (h2 : EvO th σ H hi) : EvLD K (tSl (rSlL K) te tl th) σ H (cutD ds lo hi) := fun H0 e Q q =>
  h H0 e _ fun v H1 e1 hv => h1 H1 (e.trans e1) _ fun H2 e2 => h2 H2 ((e.trans e1).trans e2) _ fun H3 e3 => by
    obtain ⟨a, xs, rfl, hs, hx⟩ := dp_list hv
    refine ⟨a, xs, rfl, ex_l (e2.trans e3) hs, fun p hp => q p _ _ (fresh_back ((e1.trans e2).trans e3) hp) (((e1.trans e2).trans e3).trans (Ex.new hp)) upd_same ?_⟩
    exact dpa_ex (Ex.new hp) (dpa_cut (dpa_ex (e2.trans e3) hx))
/-! ### statements -/
theorem sd_asg {i : Nat} (h : EvD K te σ H d) (k : ∀ v H1, Ex H H1 → Dp K H1 v d → D.nx (σ.set i (some v)) H1) : tAsg te (gName i) D σ H := h H (Ex.refl H) _ fun v H1 e hv => k v H1 e hv
theorem qd_asg {i : Nat} (h : EvD K te σ H d) (k : ∀ v H1, Ex H H1 → Dp K H1 v d → tz D (σ.set i (some v)) H1) : tSeq (tAsg te (gName i)) tz D σ H := h H (Ex.refl H) _ fun v H1 e hv => k v H1 e hv
theorem sd_ret (h : EvD K te σ H d) (k : RetD K d H D.rt) : tRet te D σ H := h H (Ex.refl H) _ k
theorem sl_asg {i : Nat} (h : EvLD K te σ H ds) (k : ∀ p vs H1, H p = none → Ex H H1 → H1 p = some (.lst vs) → DpAll K H1 vs ds → D.nx (σ.set i (some (.ref p))) H1) : tAsg te (gName i) D σ H := h H (Ex.refl H) _ fun p vs H1 hp e h1 hd => k p vs H1 hp e h1 hd
theorem ql_asg {i : Nat} (h : EvLD K te σ H ds) (k : ∀ p vs H1, H p = none → Ex H H1 → H1 p = some (.lst vs) → DpAll K H1 vs ds → tz D (σ.set i (some (.ref p))) H1) : tSeq (tAsg te (gName i)) tz D σ H := h H (Ex.refl H) _ fun p vs H1 hp e h1 hd => k p vs H1 hp e h1 hd
/-- l.append(e), the list l at H -/
theorem qd_app {l : Addr} {xs : List V} (hl : H l = some (.lst xs)) (ha : Ev ta σ H (.ref l)) (h : EvD K te σ H d) (hz : xs.length < 100000) (k : ∀ v H1, Ex H H1 → Dp K H1 v d → tz D σ (upd H1 l (.lst (xs ++ [v])))) :
    tSeq (tDrop (tBM K "list" rAppend ta (tCons te tNil))) tz D σ H := ha H (Ex.refl H) _ fun H1 e1 =>
  ⟨Or.inl ⟨rfl, xs, sq_of (e1 l _ hl)⟩, h H1 e1 _ fun v H2 e2 hv => ⟨l, xs, v, rfl, rfl, e2 l _ (e1 l _ hl), sz_lt hz, k v H2 (e1.trans e2) hv⟩⟩
theorem sd_app {l : Addr} {xs : List V} (hl : H l = some (.lst xs)) (ha : Ev ta σ H (.ref l)) (h : EvD K te σ H d) (hz : xs.length < 100000) (k : ∀ v H1, Ex H H1 → Dp K H1 v d → D.nx σ (upd H1 l (.lst (xs ++ [v])))) :
    tDrop (tBM K "list" rAppend ta (tCons te tNil)) D σ H := ha H (Ex.refl H) _ fun H1 e1 =>
  ⟨Or.inl ⟨rfl, xs, sq_of (e1 l _ hl)⟩, h H1 e1 _ fun v H2 e2 hv => ⟨l, xs, v, rfl, rfl, e2 l _ (e1 l _ hl), sz_lt hz, k v H2 (e1.trans e2) hv⟩⟩
end
/-- all but the objects at these places is as it was -/
def ExO (L : List Addr) (H H' : Hp) : Prop := ∀ a o, a ∉ L → H a = some o → H' a = some o
theorem ExO.refl (L : List Addr) (H : Hp) : ExO L H H := fun _ _ _ h => h
theorem ExO.trans {L : List Addr} {H H1 H2 : Hp} (a : ExO L H H1) (b : ExO L H1 H2) : ExO L H H2 := fun x o n h => b x o n (a x o n h)
theorem ExO.of {L : List Addr} {H H' : Hp} (e : Ex H H') : ExO L H H' := fun a o _ h => e a o h
theorem ExO.upd {L : List Addr} {H H' : Hp} {p : Addr} {o : HO} (e : ExO L H H') (hp : p ∈ L) : ExO L H (L2.upd H' p o) := fun a u n h => by
  rw [upd_ne (fun z => n (by rw [z]; exact hp))]
  exact e a u n h
/-- what was not there at all may change -/
theorem ExO.ex {L : List Addr} {H0 H H' : Hp} (e0 : Ex H0 H) (e : ExO L H H') (hn : ∀ p ∈ L, H0 p = none) : Ex H0 H' := fun a o h =>
  e a o (fun hm => by rw [hn a hm] at h; cases h) (e0 a o h)
end My

namespace My
open PySem PySem.Spec PyProof.Rows L2 Evl
section
variable {K : PySem.W.Frag} {σ : L2.St} {H H' : Hp} {ta tb te tx : TE} {t u : TT} {x y z v : V} {D : Ends} {tu tw tz : TS} {g : TG} {d e : PyData} {ds es : List PyData} {i j : Int} {b : Bool}
/-- a call whose first argument is a new list -/
theorem ev_callL {sp : Sp} {E : XK} {tr : TA} {xs vs : List V} (h : EvL te σ H xs) (hr : EvA tr σ H vs) (hs : ∀ p H1, Ex H H1 → H1 p = some (.lst xs) → SpV sp (.ref p :: vs) H1 z) : Ev (tCall sp [] E (tCons te tr)) σ H z := fun H1 e Q q =>
  h H1 e _ fun p H2 hp e2 h2 => hr H2 (e.trans e2) _ fun H3 e3 => by
    show sp ((V.ref p :: vs) ++ []) H3 Q E
    rw [List.append_nil]
    exact hs p H3 ((e.trans e2).trans e3) (e3 _ _ h2) H3 (Ex.refl H3) Q (fun H4 e4 => q H4 ((e2.trans e3).trans e4)) E
theorem dpa_strs : ∀ ws : List Str, DpAll K H (ws.map V.str) (ws.map PyData.str)
  | [] => .nil
  | n :: r => .cons (.str n) (dpa_strs r)
theorem dn_strs {ws : List Str} {n : Nat} (h : ws.length ≤ 40000) : Dn (n + 1) (.list (ws.map PyData.str)) := by
  simp only [Dn, List.length_map]
  refine ⟨h, fun d hd => ?_⟩
  obtain ⟨x, _, rfl⟩ := List.mem_map.mp hd
  simp [Dn]
theorem dp_strs {a : Addr} {ws : List Str} (h : SqL K H a (ws.map V.str)) : Dp K H (.ref a) (.list (ws.map PyData.str)) := .lst h (dpa_strs ws)
theorem dp_ints {a : Addr} {ns : List Int} (h : SqL K H a (ns.map V.int)) : Dp K H (.ref a) (.list (ns.map PyData.int)) := .lst h (dpa_ints ns)
theorem q_whenF (h : EvT t σ H false) (k : ∀ H1, Ex H H1 → tz D σ H1) : tSeq (tIfS t tu tNext) tz D σ H := q_when (b := false) h (fun z => nomatch z) fun _ H1 e => k H1 e
theorem s_whenF (h : EvT t σ H false) (k : ∀ H1, Ex H H1 → D.nx σ H1) : tIfS t tu tNext D σ H := s_when (b := false) h (fun z => nomatch z) fun _ H1 e => k H1 e
theorem et_notT (h : EvT t σ H true) : EvT (tNot t) σ H false := et_not h
/-- for over a list that stands, behind it a word B -/
theorem q_forL' {a : Addr} {xs : List V} {tl : TE} (h : Ev tl σ H (.ref a)) (hx : SqL K H a xs) (Pv : Nat → L2.St → Hp → Prop) (B : L2.St → Hp → Prop) (h0 : ∀ H1, Ex H H1 → Pv 0 σ H1) (hl : ∀ i σ' H', i ≤ xs.length → Pv i σ' H' → SqL K H' a xs)
    (hs : ∀ i x σ' H', xs[i]? = some x → Pv i σ' H' → g x σ' H' fun σ2 H2 => tu { D with nx := Pv (i + 1), ct := Pv (i + 1), bk := B } σ2 H2) (hd : ∀ σ' H', Pv xs.length σ' H' → B σ' H')
    (hb : ∀ σ' H', B σ' H' → tz D σ' H') : tCut (tFor (iList K tl) g tu) tz D σ H :=
  ⟨B, h H (Ex.refl H) _ fun H1 e => ⟨a, rfl, ⟨xs, ex_l e hx⟩, for_list Pv (h0 H1 e) hl hs hd⟩, hb⟩
/-- .. over what an expression gives -/
theorem q_forD' {tl : TE} (h : EvD K tl σ H (.list ds)) (Pv : Addr → List V → Nat → L2.St → Hp → Prop) (B : L2.St → Hp → Prop) (h0 : ∀ a vs H1, Ex H H1 → SqL K H1 a vs → DpAll K H1 vs ds → Pv a vs 0 σ H1) (hl : ∀ a vs i σ' H', i ≤ vs.length → Pv a vs i σ' H' → SqL K H' a vs)
    (hs : ∀ a vs i x σ' H', vs[i]? = some x → Pv a vs i σ' H' → g x σ' H' fun σ2 H2 => tu { D with nx := Pv a vs (i + 1), ct := Pv a vs (i + 1), bk := B } σ2 H2) (hd : ∀ a vs σ' H', Pv a vs vs.length σ' H' → B σ' H')
    (hb : ∀ σ' H', B σ' H' → tz D σ' H') : tCut (tFor (iList K tl) g tu) tz D σ H :=
  ⟨B, h H (Ex.refl H) _ fun v H1 e hv => by
    obtain ⟨a, vs, rfl, hs2, hx⟩ := dp_list hv
    exact ⟨a, rfl, ⟨vs, hs2⟩, for_list (Pv a vs) (h0 a vs H1 e hs2 hx) (hl a vs) (hs a vs) (hd a vs)⟩, hb⟩
end
end My
namespace My
open PySem PySem.Spec PyProof.Rows L2 Evl
section
variable {K : PySem.W.Frag} {σ : L2.St} {H H' : Hp} {ta tb te tx ti t1 t2 : TE} {t u : TT} {x y z v : V} {D : Ends} {tu tw tz : TS} {g : TG} {d e : PyData} {ds es : List PyData} {i j : Int} {b : Bool}
/-- one of two new lists, by a place -/
theorem el_two {xs x1 x2 : List V} (h1 : EvL t1 σ H x1) (h2 : EvL t2 σ H x2) (hi : Ev ti σ H (.int i)) (hc : (i = 0 ∧ xs = x1) ∨ (i = 1 ∧ xs = x2)) : EvL (tOp (rIxL K) (tLst (tCons t1 (tCons t2 tNil))) ti) σ H xs := fun H1 e Q q =>
  h1 H1 e _ fun p1 H2 n1 e2 l1 => h2 H2 (e.trans e2) _ fun p2 H3 n2 e3 l2 => ⟨by show 2 ≤ sizeLine; decide, fun p hp => by
    have E3 := (e2.trans e3).trans (Ex.new (o := .lst [.ref p1, .ref p2]) hp)
    refine hi _ (e.trans E3) _ fun H4 e4 => ?_
    have a1 : H4 p1 = some (.lst x1) := e4 _ _ ((Ex.new hp) _ _ (e3 _ _ l1))
    have a2 : H4 p2 = some (.lst x2) := e4 _ _ ((Ex.new hp) _ _ l2)
    rcases hc with ⟨rfl, rfl⟩ | ⟨rfl, rfl⟩
    · exact ⟨p, [.ref p1, .ref p2], 0, .ref p1, rfl, rfl, sq_of (e4 _ _ upd_same), rfl, q p1 H4 n1 (E3.trans e4) a1⟩
    · exact ⟨p, [.ref p1, .ref p2], 1, .ref p2, rfl, rfl, sq_of (e4 _ _ upd_same), rfl, q p2 H4 (fresh_back e2 n2) (E3.trans e4) a2⟩⟩
theorem q_forNL' {xs : List V} {tl : TE} (h : EvL tl σ H xs) (Pv : Addr → Nat → L2.St → Hp → Prop) (B : L2.St → Hp → Prop) (h0 : ∀ p H1, H p = none → Ex H H1 → H1 p = some (.lst xs) → Pv p 0 σ H1) (hl : ∀ p i σ' H', i ≤ xs.length → Pv p i σ' H' → SqL K H' p xs)
    (hs : ∀ p i x σ' H', xs[i]? = some x → Pv p i σ' H' → g x σ' H' fun σ2 H2 => tu { D with nx := Pv p (i + 1), ct := Pv p (i + 1), bk := B } σ2 H2) (hd : ∀ p σ' H', Pv p xs.length σ' H' → B σ' H')
    (hb : ∀ σ' H', B σ' H' → tz D σ' H') : tCut (tFor (iList K tl) g tu) tz D σ H :=
  ⟨B, h H (Ex.refl H) _ fun p H1 hp e h1 => ⟨p, rfl, ⟨xs, sq_of h1⟩, for_list (Pv p) (h0 p H1 hp e h1) (hl p) (hs p) (hd p)⟩, hb⟩
end
end My

namespace My
open PySem PySem.Spec PyProof.Rows L2 Evl
/-! ### classes by their names -/
structure MkOk (P : Program) (w : World) (K : PySem.W.Frag) (mg : Str → Option Value) (base : Heap) (k : Nat) (x : Str) (C : Addr) (ps : List Str) (dvs : List V) (sp : Sp) : Prop where
  ex : ∃ (f : Addr) (fd : FuncData) (ds : List Value), mg x = some (.ref C) ∧ Mk K C f ∧ Binds K fd ps ds ∧ Vals dvs ds ∧ FnOk P w K mg base CX0 k f fd ps sp
structure MethOk (P : Program) (w : World) (K : PySem.W.Frag) (mg : Str → Option Value) (base : Heap) (CX : CXT) (k : Nat) (C : Addr) (m : Str) (ps : List Str) (dvs : List V) (sp : Sp) : Prop where
  cls : Cls K C
  ex : ∃ (f : Addr) (fd : FuncData) (ds : List Value), Meth K C m f ∧ Binds K fd ps ds ∧ Vals dvs ds ∧ FnOk P w K mg base CX k f fd ps sp
structure DefOkX (P : Program) (w : World) (K : PySem.W.Frag) (mg : Str → Option Value) (base : Heap) (k : Nat) (x : Str) (ps : List Str) (sp : Sp) : Prop where
  ex : ∃ (f : Addr) (fd : FuncData), mg x = some (.ref f) ∧ PySem.W.keepIn K (.ref f) = true ∧ Binds K fd ps [] ∧ FnOk P w K mg base (L2.CX P w) k f fd ps sp
/-- o.m(..) that may raise: E at the slots -/
def tMethS (C : Addr) (m : Str) (sp : Sp) (E : L2.St → XK) (ta : TE) (t : TA) : TE := fun σ H Q => ta σ H fun x H1 => ∃ a dx fs, x = .ref a ∧ H1 a = some (.ins C dx fs) ∧ fs.lookup m = none ∧
  t σ H1 fun vs H2 => sp (x :: vs) H2 Q (E σ)
section
variable {X : Cx} {k j : Nat} {x m : Str} {C : Addr} {ps : List Str} {dvs : List V} {sp : Sp} {p pos apos : Pos} {e o : Expr} {es : List Expr} {ta : TE} {t : TA} {W : WX}
theorem pe_makeN (D : MkOk X.prog X.w X.K X.mg X.base k x C ps dvs sp) (hr : Room j X.A) (ha : PA X (e :: es) t) (hk : k + 1 ≤ j := by decide) (hg : Gl X x := by rfl) (hdb : (x == ("__debug__" : Str)) = false := by decide)
    (he : starEach (e :: es) X.env = (false, eval e X.env) :: starEach es X.env := by rfl) (hpl : (backTo pos (starEach es X.env)).any (·.1) = false := by rfl) : PE X (.Call (.Name x p) (e :: es) [] pos) (tMake C sp dvs E0 t) := by
  obtain ⟨f, fd, ds, h1, h2, h3, h4, h5⟩ := D.ex
  exact pe_make h2 h5 (hr.mono hk) hg h1 h3 h4 pass0 ha hdb he hpl
theorem pe_makeN0 (D : MkOk X.prog X.w X.K X.mg X.base k x C ps dvs sp) (hr : Room j X.A) (hk : k + 1 ≤ j := by decide) (hg : Gl X x := by rfl) (hdb : (x == ("__debug__" : Str)) = false := by decide) : PE X (.Call (.Name x p) [] [] pos) (tMake C sp dvs E0 tNil) := by
  obtain ⟨f, fd, ds, h1, h2, h3, h4, h5⟩ := D.ex
  exact pe_make0 h2 h5 (hr.mono hk) hg h1 h3 h4 pass0 hdb
theorem pe_methN {pl : Sem Bool} (D : MethOk X.prog X.w X.K X.mg X.base CX0 k C m ps dvs sp) (ho : PE X o ta) (hr : Room j X.A) (ha : PA X (e :: es) t) (hk : k ≤ j := by decide)
    (hst : starEach (e :: es) X.env = (false, eval e X.env) :: starEach es X.env := by rfl) (hpl : (backTo pos (starEach es X.env)).any (·.1) = false := by rfl)
    (ht : eval (.Call (.Attribute o m apos) (e :: es) [] pos) X.env = (do
      let ov ← eval o X.env
      standAt apos.atName
      let (f, first) ← holding [ov] (getMethod ov m pl)
      callWith pos f first (backTo pos (starEach (e :: es) X.env)) (backToKw pos (keywordEach [] X.env))) := by rfl) :
    PE X (.Call (.Attribute o m apos) (e :: es) [] pos) (tMeth C m sp dvs E0 ta t) := by
  obtain ⟨f, fd, ds, h1, h2, h3, h4⟩ := D.ex
  exact pe_meth ho D.cls h1 h4 (hr.mono hk) h2 h3 pass0 ha hst hpl ht
theorem pe_methN0 {pl : Sem Bool} (D : MethOk X.prog X.w X.K X.mg X.base CX0 k C m ps dvs sp) (ho : PE X o ta) (hr : Room j X.A) (hk : k ≤ j := by decide)
    (ht : eval (.Call (.Attribute o m apos) [] [] pos) X.env = (do
      let ov ← eval o X.env
      standAt apos.atName
      let (f, first) ← holding [ov] (getMethod ov m pl)
      callWith pos f first (backTo pos (starEach [] X.env)) (backToKw pos (keywordEach [] X.env))) := by rfl) :
    PE X (.Call (.Attribute o m apos) [] [] pos) (tMeth C m sp dvs E0 ta tNil) := by
  obtain ⟨f, fd, ds, h1, h2, h3, h4⟩ := D.ex
  exact pe_meth0 ho D.cls h1 h4 (hr.mono hk) h2 h3 pass0 ht
theorem pe_callNX (D : DefOkX X.prog X.w X.K X.mg X.base k x ps sp) (hr : Room j X.A) (tk : Takes X W)
    (ha : PA X (e :: es) t) (hk : k ≤ j := by decide) (hg : Gl X x := by rfl) (hdb : (x == ("__debug__" : Str)) = false := by decide) (he : starEach (e :: es) X.env = (false, eval e X.env) :: starEach es X.env := by rfl) (hpl : (backTo pos (starEach es X.env)).any (·.1) = false := by rfl) :
    PE X (.Call (.Name x p) (e :: es) [] pos) (tCallS sp (WE W) t) := by
  obtain ⟨f, fd, h1, h2, h3, h5⟩ := D.ex
  exact pe_callS h5 (hr.mono hk) hg h1 h2 h3 (fun σ => passAt tk σ) ha hdb he hpl
theorem pe_methNX {pl : Sem Bool} (D : MethOk X.prog X.w X.K X.mg X.base (L2.CX X.prog X.w) k C m ps [] sp) (ho : PE X o ta) (hr : Room j X.A) (tk : Takes X W) (ha : PA X (e :: es) t) (hk : k ≤ j := by decide)
    (hst : starEach (e :: es) X.env = (false, eval e X.env) :: starEach es X.env := by rfl) (hpl : (backTo pos (starEach es X.env)).any (·.1) = false := by rfl)
    (ht : eval (.Call (.Attribute o m apos) (e :: es) [] pos) X.env = (do
      let ov ← eval o X.env
      standAt apos.atName
      let (f, first) ← holding [ov] (getMethod ov m pl)
      callWith pos f first (backTo pos (starEach (e :: es) X.env)) (backToKw pos (keywordEach [] X.env))) := by rfl) :
    PE X (.Call (.Attribute o m apos) (e :: es) [] pos) (tMethS C m sp (WE W) ta t) := by
  obtain ⟨f, fd, ds, hm, hb, hd, F⟩ := D.ex
  cases hd
  refine ⟨fun pins s σ H Q I h => ?_⟩
  refine PySem.W.methodCall_KW (pl := pl) (thn (ho.run pins s σ H _ I h) fun u s1 ⟨x, H1, I1, rx, a, dx, fs, ex, ea, l, q⟩ => ?_) ht
  subst ex
  obtain rfl : u = Value.ref a := rx
  refine getmeth_ok I1 ea D.cls hm l ?_
  refine PySem.W.callWith_K (first := [.ref a]) (h₀ := X.base) I.ok.mod.kin hm.kp (thn (ha.run pos pins s1 σ H1 _ I1 q) fun us s2 ⟨vs, H2, I2, r, q2⟩ => ⟨I2.kIn, ?_⟩) hst hpl
  exact run_fnS (us := .ref a :: us) (vs := .ref a :: vs) (E := WE W) F (hr.mono hk) hb (passAt tk σ) I2 (.cons rfl r) q2
/-! ### own errors -/
/-- AccessError.__init__(self, ..), the base's own maker reached through a class of the program -/
theorem pe_baseinit (K : PySem.W.Frag) {B : Addr} {pl : Sem Bool} (hm : X.mg x = some (.ref B)) (rd : PySem.W.readsIn K B (.type "type") = true) (ga : PySem.W.specialIn K (.ref B) "__getattribute__" = some (some (.builtin "type.__getattribute__")))
    (vV : PySem.W.findCls K (.ref B) (.type "type") "__init__" = some (.val (.builtin "ValueError.__init__"))) (ha : PA X (e :: es) t) (hg : Gl X x := by rfl) (hdb : (x == ("__debug__" : Str)) = false := by decide) (hK : X.K = K := by rfl)
    (hc : eval (.Call (.Attribute (.Name x p) "__init__" apos) (e :: es) [] pos) X.env = (do
      let ov ← eval (.Name x p) X.env
      standAt apos.atName
      let (f, first) ← holding [ov] (getMethod ov "__init__" pl)
      callWith pos f first (backTo pos (starEach (e :: es) X.env)) (backToKw pos (keywordEach [] X.env))) := by rfl)
    (he : starEach (e :: es) X.env = (false, eval e X.env) :: starEach es X.env := by rfl) (hpl : (backTo pos (starEach es X.env)).any (·.1) = false := by rfl) :
    PE X (.Call (.Attribute (.Name x p) "__init__" apos) (e :: es) [] pos) (tVeI K t) := by
  subst hK
  refine ⟨fun pins s σ H Q I h => ?_⟩
  refine PySem.W.methodCall_KW (ld_glob I hg hm ?_ hdb) hc
  refine PySem.W.method_cls I.kIn ga (PySem.W.cls_value I.kIn rd vV (by decide +kernel) ?_)
  show wpAny _ _ (callWith pos (Value.builtin "ValueError.__init__") [] (backTo pos (starEach (e :: es) X.env)) []) _ _ _
  refine PyProof.Rows.callWith_method1 (thn (ha.run pos pins _ σ H _ (I.tok _) h) fun us s1 ⟨vs, H1, I1, r1, a, C, ws, ev, hl, T, ea, q⟩ => ?_) he hpl
  subst ev
  cases r1 with
  | @cons _ u0 _ ur ra rw' =>
    obtain rfl : u0 = Value.ref a := ra
    have hlen : ur.length ≤ sizeLine := by
      have := Paired.length rw'
      rw [sizeLine_eq]
      omega
    exact oinit_ok T I1 ea hlen fun s' J => ⟨.non, H1, J, rfl, q⟩
end
end My
namespace My
open PySem PySem.Spec PyProof.Rows L2 Evl
/-! ### facts of error classes, read off the top by a Bool -/
def eCls (K : PySem.W.Frag) (C : Addr) : Bool := match K.lookup C with
  | some o => (match o.cls, o.data with
    | .type ty, .cls cd => (match cd.mro, o.slots.toList with
      | .ref D :: bm, [_, _, _, _, some (.builtin n), _] => decide (ty = "type") && (decide (D = C) && (decide (n = "ValueError.__new__") && (!cd.hasDel && (cd.hasDict && PySem.HandSPX.refsVE bm))))
      | _, _ => false)
    | _, _ => false)
  | none => false
theorem eCls_ok {K : PySem.W.Frag} {C : Addr} (h : eCls K C = true) :
    ∃ nm q N bs bm sn sub ab col dd k0 k1 k2 k3 k5, K.lookup C = some (excClassObj nm q C N bs bm true sn sub ab col dd k0 k1 k2 k3 k5 "ValueError.__new__") ∧ PySem.HandSPX.refsVE bm = true := by
  unfold eCls at h
  split at h
  · rename_i o ho
    split at h
    · rename_i ty cd hc hd
      split at h
      · rename_i D bm k0 k1 k2 k3 n k5 hm hs
        simp only [Bool.and_eq_true, decide_eq_true_eq, Bool.not_eq_true'] at h
        obtain ⟨rfl, rfl, rfl, h4, h5, h6⟩ := h
        obtain ⟨oc, od, dt, sl⟩ := o
        obtain ⟨nm, bs, mro, N, q, hdct, sn, sub, ab, col, del⟩ := cd
        dsimp only at hc hd hm hs h4 h5
        subst hc hd hm h4 h5
        have e : sl = #[k0, k1, k2, k3, some (.builtin "ValueError.__new__"), k5] := by
          rw [← hs, Array.toArray_toList]
        subst e
        exact ⟨nm, q, N, bs, bm, sn, sub, ab, col, od, k0, k1, k2, k3, k5, ho, h6⟩
      · cases h
    · cases h
  · cases h
inductive Fx where
  | oex (x : Str)
  | base (x : Str)
  | xf (x : Str)
  | kit (x c : Str) (b : Bool)
  | kitT (x : Str) (n : String) (b : Bool)
def Fx.ok (K : PySem.W.Frag) : Fx → Bool
  | .oex x => eCls K (He.ga K x) && (decide (PySem.W.findIn K (.ref (He.ga K x)) "__setattr__" = some (some (.builtin "object.__setattr__"))) && (decide (PySem.W.subIn K (.ref (He.ga K x)) (.type "BaseException") = some true) &&
      (decide (PySem.W.typeIn K (.ref (He.ga K x)) = some (.type "type")) && (PySem.W.keepIn K (.ref (He.ga K x)) && (decide (PySem.W.findIn K (.ref (He.ga K x)) "__init__" = some (some (.ref (He.ma K (He.ga K x) "__init__")))) &&
      decide (PySem.W.typeIn K (.ref (He.ma K (He.ga K x) "__init__")) = some (.type "function")))))))
  | .base x => PySem.W.readsIn K (He.ga K x) (.type "type") && (decide (PySem.W.specialIn K (.ref (He.ga K x)) "__getattribute__" = some (some (.builtin "type.__getattribute__"))) && (match PySem.W.findCls K (.ref (He.ga K x)) (.type "type") "__init__" with
    | some (.val (.builtin n)) => decide (n = "ValueError.__init__")
    | _ => false))
  | .xf x => xfB K (He.ga K x) && (decide (PySem.W.findIn K (.ref (He.ga K x)) "__class__" = some (some (.builtin "object.__class__"))) && (decide (PySem.W.specialIn K (.builtin "object.__class__") "__get__" = some (some (.builtin "getset_descriptor.__get__"))) &&
      (decide (PySem.W.takesIn K (.builtin "object.__class__") = some true) && decide (PySem.W.mroIn K (He.ga K x) (.type "object") = some true))))
  | .kit x c b => decide (PySem.W.kitOne K (.ref (He.ga K x)) (.ref (He.ga K c)) = some b)
  | .kitT x n b => decide (PySem.W.kitOne K (.ref (He.ga K x)) (.type n) = some b)
section
variable {K : PySem.W.Frag}
theorem oex_ok {x : Str} (h : (Fx.oex x).ok K = true) : OexC K (He.ga K x) ∧ PySem.W.findIn K (.ref (He.ga K x)) "__init__" = some (some (.ref (He.ma K (He.ga K x) "__init__"))) ∧ PySem.W.typeIn K (.ref (He.ma K (He.ga K x) "__init__")) = some (.type "function") := by
  obtain ⟨h1, h⟩ := He.ba h
  obtain ⟨h2, h⟩ := He.ba h
  obtain ⟨h3, h⟩ := He.ba h
  obtain ⟨h4, h⟩ := He.ba h
  obtain ⟨h5, h⟩ := He.ba h
  obtain ⟨h6, h7⟩ := He.ba h
  exact ⟨⟨eCls_ok h1, of_decide_eq_true h2, of_decide_eq_true h3, of_decide_eq_true h4, h5⟩, of_decide_eq_true h6, of_decide_eq_true h7⟩
theorem base_ok {x : Str} (h : (Fx.base x).ok K = true) : PySem.W.readsIn K (He.ga K x) (.type "type") = true ∧ PySem.W.specialIn K (.ref (He.ga K x)) "__getattribute__" = some (some (.builtin "type.__getattribute__")) ∧
    PySem.W.findCls K (.ref (He.ga K x)) (.type "type") "__init__" = some (.val (.builtin "ValueError.__init__")) := by
  obtain ⟨h1, h⟩ := He.ba h
  obtain ⟨h2, h3⟩ := He.ba h
  refine ⟨h1, of_decide_eq_true h2, ?_⟩
  split at h3
  · rename_i n hn
    rw [hn, of_decide_eq_true h3]
  · cases h3
structure XcC (K : PySem.W.Frag) (C : Addr) : Prop where
  x : XfC K C
  c : PySem.W.findIn K (.ref C) "__class__" = some (some (.builtin "object.__class__"))
  n : PySem.W.specialIn K (.builtin "object.__class__") "__get__" = some (some (.builtin "getset_descriptor.__get__"))
  t : PySem.W.takesIn K (.builtin "object.__class__") = some true
  m : PySem.W.mroIn K C (.type "object") = some true
theorem xf_ok {x : Str} (h : (Fx.xf x).ok K = true) : XcC K (He.ga K x) := by
  obtain ⟨h1, h⟩ := He.ba h
  obtain ⟨h2, h⟩ := He.ba h
  obtain ⟨h3, h⟩ := He.ba h
  obtain ⟨h4, h5⟩ := He.ba h
  exact ⟨xfB_ok h1, of_decide_eq_true h2, of_decide_eq_true h3, of_decide_eq_true h4, of_decide_eq_true h5⟩
end
/-- isinstance(e, c), isinstance(e, (c, ..)) of the error that the suite holds -/
def rIsX (K : PySem.W.Frag) (D a : Addr) (cls : Value) (d : Option Addr) : List V → Hp → VK → Prop := fun xs H Q => cls = .ref D ∧ (∃ dd fs, d = some dd ∧ H dd = some (.xd fs)) ∧
  ((∃ (c : V) (cv : Value) (b : Bool), xs = [.ref a, c] ∧ ClsV c cv ∧ PySem.W.kitOne K (.ref D) cv = some b ∧ Q (.bl b) H) ∨
    ∃ (tp : Addr) (cs : List V) (us : List Value) (b : Bool), xs = [.ref a, .ref tp] ∧ H tp = some (.tup cs) ∧ Paired ClsV cs us ∧ PySem.W.kitAny K (.ref D) us = some b ∧ Q (.bl b) H)
theorem call_isX {X : Cx} (K : PySem.W.Frag) {a D : Addr} {oe : Obj} {cls : Value} {d : Option Addr} {pn : List (Addr × Obj)} (C : XcC K D) (hz : Zc cls d oe) (hf : ∃ vs, oe.data = .fields vs) (hK : X.K = K := by rfl) :
    CallR (X.suite a ((a, oe) :: pn)) (.builtin "isinstance") (rIsX K D a cls d) := by
  subst hK
  intro pins s σ H xs us Q I r h
  obtain ⟨ec, ⟨dd, fs, ed, hdd⟩, h⟩ := h
  subst ec
  subst ed
  obtain ⟨hget, _⟩ := I.pin (a, oe) (List.mem_append.mpr (.inl List.mem_cons_self))
  obtain ⟨vs, hv⟩ := hf
  have hx : ObjOk X.prog X.w H s.heap dd (.xd fs) := I.hok dd _ hdd
  obtain ⟨mA, hns, _⟩ := hx
  obtain ⟨od, ho, _⟩ := lookIn_ns hns
  have J : PySem.W.InstAt s.heap a oe D (some od) := ⟨hget, hz.1, by unfold PySem.W.notCls; rw [hv] <;> rfl, by rw [hz.2]; exact ho⟩
  have hcl : (PySem.W.clsIn X.K D).isSome = true := by
    obtain ⟨cd, hc, _⟩ := PySem.W.any_some C.x.hdC
    rw [hc]
    rfl
  have Z := PySem.W.kitx_exc (x := a) (ox := oe) (od := some od) hcl C.x.ga C.x.gg C.x.exC C.c C.n C.t C.m
  rcases h with ⟨c, cv, b, rfl, hc, e, q⟩ | ⟨tp, cs, ws, b, rfl, hT, hc, e, q⟩
  · cases r with
    | cons rx rr =>
      cases rr with
      | cons rt rr =>
        cases rr
        cases rx
        have ec := hc.eq rt
        subst ec
        exact PySem.W.kia_one Z I.kIn J e (fun z => nomatch z) fun tk => ⟨.bl b, H, I.tok tk, rfl, q⟩
  · obtain ⟨u1, u2, rfl, r1, r2⟩ := vals2 r
    cases r1
    cases r2
    obtain ⟨_, its, rv, o, h1, h2, n, h3⟩ := (show ObjOk X.prog X.w H s.heap tp (.tup cs) from I.hok tp _ hT)
    have e3 := ClsV.all hc rv
    subst e3
    obtain ⟨oc, od2, dt, sl⟩ := o
    simp only at h2 h3
    subst h2 h3
    exact PySem.W.kia_tup Z I.kIn J h1 e (fun z => nomatch z) fun tk => ⟨.bl b, H, I.tok tk, rfl, q⟩
/-- e.f of the error that the suite holds -/
theorem pe_xfK {X : Cx} (K : PySem.W.Frag) {a C : Addr} {oe : Obj} {cls : Value} {d : Option Addr} {pn : List (Addr × Obj)} {e : Expr} {te : TE} {pos : Pos} {n : Str} (T : XcC K C) (hno : PySem.W.findIn K (.ref C) n = some none)
    (hz : Zc cls d oe) (hf : ∃ vs, oe.data = .fields vs) (he : PE (X.suite a ((a, oe) :: pn)) e te) (hK : X.K = K := by rfl) (hb : attributeBase e n X.env (eval e X.env) = eval e X.env := by rfl) :
    PE (X.suite a ((a, oe) :: pn)) (.Attribute e n pos) (tXf a cls d C n te) := by
  subst hK
  exact pe_xf T.x hno hz hf he hb
/-! ### an error with two, one fields: __init__, raise -/
/-- what a def wishes of an error of the class C with these fields -/
def RaiseR (C : Addr) (fs : List (Str × V)) (H : Hp) (E : XK) : Prop := ∀ d H', H d = none → Ex H H' → H' d = some (.xd fs) → E (.ref C) (some d) H'
theorem RaiseR.go {C : Addr} {fs : List (Str × V)} {H H1 : Hp} {E : XK} (k : RaiseR C fs H E) (e : Ex H H1) : RaiseR C fs H1 E := fun d H' hd e2 h => k d H' (fresh_back e hd) (e.trans e2) h
/-- __init__ of an error of the class C: its arguments' values are vs, its fields afterwards fs -/
def spXinit (K : PySem.W.Frag) (C : Addr) (ok : List V → Prop) (fs : List V → List (Str × V)) : Sp := fun vs H Q _ => ∃ (a : Addr) (ws : List V), vs = .ref a :: ws ∧ ok ws ∧ H a = some (exo a C none) ∧
  ∀ (d : Addr) (H' : Hp), H d = none → d ≠ a → H' a = some (exo a C (some d)) → H' d = some (exd d (fs ws)) → (∀ b o, b ≠ a → H b = some o → H' b = some o) → Q .non H'
structure XMkOk (P : Program) (w : World) (K : PySem.W.Frag) (mg : Str → Option Value) (base : Heap) (k : Nat) (x : Str) (C : Addr) (ps : List Str) (sp : Sp) : Prop where
  ex : ∃ (f : Addr) (fd : FuncData), mg x = some (.ref C) ∧ OexC K C ∧ PySem.W.findIn K (.ref C) "__init__" = some (some (.ref f)) ∧ PySem.W.typeIn K (.ref f) = some (.type "function") ∧ Binds K fd ps [] ∧ FnOk P w K mg base CX0 k f fd ps sp
theorem ps_raiseX {X : Cx} {W : WX} {e : Expr} {es : List Expr} {t : TA} {k j : Nat} {x : Str} {C : Addr} {ps : List Str} {sp : Sp} {p pos pos2 : Pos} (D : XMkOk X.prog X.w X.K X.mg X.base k x C ps sp) (hr : Room j X.A) (hc : X.calm = true) (tk : Takes X W) (ha : PA X (e :: es) t)
    (hk : k + 1 ≤ j := by decide) (hg : Gl X x := by rfl) (hdb : (x == ("__debug__" : Str)) = false := by decide) (he : starEach (e :: es) X.env = (false, eval e X.env) :: starEach es X.env := by rfl) (hpl : (backTo pos (starEach es X.env)).any (·.1) = false := by rfl) :
    PS X (.Raise (some (.Call (.Name x p) (e :: es) [] pos)) none pos2) (fun _ σ H => tMkO C sp [] t σ H fun cls d H' => W cls d σ H') := by
  obtain ⟨f, fd, h1, h2, h3, h4, h5, h6⟩ := D.ex
  exact ps_raise hc tk (pmk_oex h2 h3 h4 h6 (hr.mono hk) h5 .nil (fun _ _ _ _ _ _ _ h => h.elim) hg h1 ha hdb he hpl)
/-- what raising asks -/
theorem raise_ask {K : PySem.W.Frag} {C : Addr} {ok : List V → Prop} {fs : List V → List (Str × V)} {ta : TA} {σ : L2.St} {H : Hp} {Q : XK} {vs : List V} (ha : EvA ta σ H vs) (h0 : ok vs) (hl : vs.length ≤ 1000)
    (q : ∀ H1, Ex H H1 → RaiseR C (fs vs) H1 Q) : tMkO C (spXinit K C ok fs) [] ta σ H Q := ha H (Ex.refl H) _ fun H1 e1 => ⟨hl, fun a na => ⟨a, vs, by rw [List.append_nil], h0, upd_same, fun d H' nd da h1 h2 kp => ⟨rfl, d, fs vs, h1, h2, by
    rw [upd_ne da] at nd
    exact nd, by
    have nd' : H1 d = none := by
      rw [upd_ne da] at nd
      exact nd
    refine q H1 e1 d _ nd' (fun b o hb => ?_) upd_same
    have hba : b ≠ a := ne_of_none hb na
    have hbd : b ≠ d := ne_of_none hb nd'
    rw [upd_ne hbd, del_ne hba]
    exact kp b o hba (by rw [upd_ne hba]; exact hb)⟩⟩⟩
end My
namespace My
open PySem PySem.Spec PyProof.Rows L2 Evl
/-! ### the facts of a top with classes and errors -/
structure TxE (fa : List He.Fa) (fn : List He.DefD) (fx : List Fx) (K : PySem.W.Frag) (mg : Str → Option Value) : Prop where
  tx : Tx fa fn K mg
  more : (fx.all fun f => f.ok K) = true
theorem TxE.fx {fa : List He.Fa} {fn : List He.DefD} {fx : List Fx} {K : PySem.W.Frag} {mg : Str → Option Value} (T : TxE fa fn fx K mg) (i : Nat) {f : Fx} (h : fx[i]? = some f := by rfl) : f.ok K = true :=
  List.all_eq_true.mp T.more f (List.mem_of_getElem? h)
theorem TxE.mk' {fa : List He.Fa} {fn : List He.DefD} {fx : List Fx} {K : PySem.W.Frag} {w : World} {h h0 : Heap} {mg : Str → Option Value} (X : K.In h) (G : h.Ns mainGlobals mg) (c : He.SaysX fa fn [] [] (fun K => fx.all fun f => f.ok K) w h0 K) : TxE fa fn fx K mg :=
  ⟨Tx.mk' X G c.t.d, c.more⟩
/-- what the names reach in n steps and the statics (readsIn asks them), and the facts there -/
def farE (g : Addr → Option Obj) (n : Nat) : PySem.W.Frag := He.frG g (He.asD g n ++ [cStatics])
def lookE (n : Nat) (fa : List He.Fa) (fn : List He.DefD) (fx : List Fx) (g : Addr → Option Obj) : Bool × He.AlD := (fx.all fun f => f.ok (farE g n), He.obsD fa fn (farE g n))
def hookE (n : Nat) (fa : List He.Fa) (fn : List He.DefD) (fx : List Fx) : PySem.W.Hook where
  α := Bool × He.AlD
  obs := fun s => lookE n fa fn fx s.heap.get?
  val := fun _ => (true, He.valD fn)
  says := fun _ h => ∃ K : PySem.W.Frag, K.In h ∧ ((fx.all fun f => f.ok K) = true ∧ He.SaysD fa fn K)
  of := fun _ _ e => ⟨_, He.frG_in, congrArg (fun z : Bool × He.AlD => z.1) e, congrArg (fun z : Bool × He.AlD => z.2) e⟩
  keeps := fun _ _ _ ⟨K, hK, c⟩ k => ⟨K, PySem.W.Frag.In.keeps hK k, c⟩
theorem lookE_eq {n : Nat} {fa : List He.Fa} {fn : List He.DefD} {fx : List Fx} {g : Addr → Option Obj} {s : Shared} (h : ∀ a, g a = s.heap.get? a) : lookE n fa fn fx g = (hookE n fa fn fx).obs s := by
  have e : g = s.heap.get? := funext h
  subst e
  rfl
theorem TxE.of {fa : List He.Fa} {fn : List He.DefD} {fx : List Fx} {K : PySem.W.Frag} {h : Heap} {mg : Str → Option Value} (X : K.In h) (G : h.Ns mainGlobals mg) (c : (fx.all fun f => f.ok K) = true ∧ He.SaysD fa fn K) : TxE fa fn fx K mg := ⟨Tx.mk' X G c.2, c.1⟩
theorem MethOk.of {P : Program} {w : World} {K : PySem.W.Frag} {mg : Str → Option Value} {base : Heap} {CX : CXT} {k : Nat} {C : Addr} {m qual : Str} {ps : List Str} {sp : Sp} {st : Stmt} {fd : FuncData} {f : Addr} (F : FunD K m qual (defArgs st) (defBody st) (defScope st) [] [] f fd)
    (c : Cls K C) (hm : Meth K C m f) (b : Binds K fd ps []) (h : FnOk P w K mg base CX k f fd ps sp) : MethOk P w K mg base CX k C m ps [] sp := ⟨c, f, fd, [], hm, b, .nil, h⟩
theorem DefOkX.of {P : Program} {w : World} {K : PySem.W.Frag} {mg : Str → Option Value} {base : Heap} {k : Nat} {x : Str} {ps : List Str} {sp : Sp} {st : Stmt} {fd : FuncData} {f : Addr} (F : FunD K x x (defArgs st) (defBody st) (defScope st) [] [] f fd)
    (g : mg x = some (.ref f)) (b : Binds K fd ps []) (h : FnOk P w K mg base (L2.CX P w) k f fd ps sp) : DefOkX P w K mg base k x ps sp := ⟨f, fd, g, F.kp, b, h⟩
end My
namespace My
open PySem PySem.Spec PyProof.Rows L2 Evl
/-! ### a op b op c op d, as a test -/
def tChain3 (r r' r'' : R2) (ta tb tc td : TE) : TE := fun σ H Q => ta σ H fun x H1 => tb σ H1 fun y H2 => r x y H2 fun z H3 => ∃ k, z = .bl k ∧
  (if k = true then tc σ H3 fun u H4 => r' y u H4 fun z' H5 => ∃ k', z' = .bl k' ∧ (if k' = true then td σ H5 fun v H6 => r'' u v H6 Q else Q (.bl false) H5) else Q (.bl false) H3)
theorem pt_chain3 {X : Cx} {a b c d : Expr} {pos : Pos} {op op' op'' : CmpOp} {r r' r'' : R2} {ta tb tc td : TE} (ho : OpR X (compareOp op) r) (ho' : OpR X (compareOp op') r') (ho'' : OpR X (compareOp op'') r'') (ha : PE X a ta) (hb : PE X b tb) (hc : PE X c tc) (hd : PE X d td)
    (hm : lastMarks [op, op', op''] [b, c, d] = false := by with_unfolding_all rfl) : PT X (.Compare a [op, op', op''] [b, c, d] pos) (tTest (tChain3 r r' r'' ta tb tc td)) := by
  refine ⟨fun pins s σ H Q I h => isTrue_chain (thn (ha.run pins s σ H _ I h) fun v s1 g1 => ?_) hm⟩
  obtain ⟨x, H1, I1, r1, q1⟩ := g1
  refine test_link (thn (hb.run pins s1 σ H1 _ I1 q1) fun u s2 g2 => ?_)
  obtain ⟨y, H2, I2, r2, q2⟩ := g2
  refine thn (ho pins s2 σ H2 x y v u _ I2 r1 r2 q2) fun w s3 g3 => ?_
  obtain ⟨z, H3, I3, r3, k, rfl, q3⟩ := g3
  cases r3
  refine wpAny_truthy_bool ?_
  cases k with
  | false =>
    obtain ⟨k', e', q'⟩ := q3
    cases e'
    exact ite_ff ⟨H3, I3, q'⟩
  | true =>
    refine ite_tt (test_link (thn (hc.run pins s3 σ H3 _ I3 q3) fun u' s4 g4 => ?_))
    obtain ⟨y', H4, I4, r4, q4⟩ := g4
    refine thn (ho' pins s4 σ H4 y y' u u' _ I4 r2 r4 q4) fun w' s5 g5 => ?_
    obtain ⟨z', H5, I5, r5, k5, rfl, q5⟩ := g5
    cases r5
    refine wpAny_truthy_bool ?_
    cases k5 with
    | false =>
      obtain ⟨k', e', q'⟩ := q5
      cases e'
      exact ite_ff ⟨H5, I5, q'⟩
    | true =>
      refine ite_tt (test_last (thn (hd.run pins s5 σ H5 _ I5 q5) fun u6 s6 g6 => ?_))
      obtain ⟨y6, H6, I6, r6, q6⟩ := g6
      refine thn (ho'' pins s6 σ H6 y' y6 u' u6 _ I6 r4 r6 q6) fun w7 s7 g7 => ?_
      obtain ⟨z7, H7, I7, r7, k7, rfl, q7⟩ := g7
      cases r7
      exact wpAny_truthy_bool ⟨H7, I7, q7⟩
section
variable {σ : L2.St} {H : Hp} {ta tb tc td : TE}
theorem et_chain3 {f g h : Int → Int → Bool} {i j k l : Int} (ha : Ev ta σ H (.int i)) (hb : Ev tb σ H (.int j)) (hc : Ev tc σ H (.int k)) (hd : Ev td σ H (.int l)) :
    EvT (tTest (tChain3 (rI0 fun i j => .bl (f i j)) (rI0 fun i j => .bl (g i j)) (rI0 fun i j => .bl (h i j)) ta tb tc td)) σ H (f i j && (g j k && h k l)) := fun H1 e1 Q q =>
  ha H1 e1 _ fun H2 e2 => hb H2 (e1.trans e2) _ fun H3 e3 => ⟨i, j, rfl, rfl, f i j, rfl, by
    revert q
    cases f i j with
    | false => exact fun q => iteF ⟨_, rfl, q H3 (e2.trans e3)⟩
    | true =>
      intro q
      refine iteT (hc H3 ((e1.trans e2).trans e3) _ fun H4 e4 => ⟨j, k, rfl, rfl, g j k, rfl, ?_⟩)
      revert q
      cases g j k with
      | false => exact fun q => iteF ⟨_, rfl, q H4 ((e2.trans e3).trans e4)⟩
      | true => exact fun q => iteT (hd H4 (((e1.trans e2).trans e3).trans e4) _ fun H5 e5 => ⟨k, l, rfl, rfl, _, rfl, q H5 (((e2.trans e3).trans e4).trans e5)⟩)⟩
theorem ev_chain {f g : Int → Int → Bool} {i j k : Int} (ha : Ev ta σ H (.int i)) (hb : Ev tb σ H (.int j)) (hc : Ev tc σ H (.int k)) :
    Ev (tChain (rI0 fun i j => .bl (f i j)) (rI0 fun i j => .bl (g i j)) ta tb tc) σ H (.bl (f i j && g j k)) := fun H1 e1 Q q =>
  ha H1 e1 _ fun H2 e2 => hb H2 (e1.trans e2) _ fun H3 e3 => ⟨i, j, rfl, rfl, f i j, rfl, by
    revert q
    cases f i j with
    | false => exact fun q => iteF (q H3 (e2.trans e3))
    | true => exact fun q => iteT (hc H3 ((e1.trans e2).trans e3) _ fun H4 e4 => ⟨j, k, rfl, rfl, q H4 ((e2.trans e3).trans e4)⟩)⟩
end
end My
namespace My
open PySem PySem.Spec PyProof.Rows L2 Evl
/-! ### f-strings -/
theorem str_len_app (a b : Str) : (a ++ b).length = a.length + b.length := by
  show (a.cps ++ b.cps).size = a.cps.size + b.cps.size
  exact Array.size_append
section
variable {σ : L2.St} {H : Hp} {t te : TE} {ts : List TE} {acc y out : Str}
def EvJ (ts : List TE) (acc : Str) (σ : L2.St) (H : Hp) (out : Str) : Prop := ∀ H1, Ex H H1 → ∀ Q : Str → Hp → Prop, (∀ H2, Ex H1 H2 → Q out H2) → tJs ts acc σ H1 Q
theorem ej_nil : EvJ [] acc σ H acc := fun H1 _ Q q => q H1 (Ex.refl H1)
theorem ej_cons (h : Ev t σ H (.str y)) (r : EvJ ts (acc ++ y) σ H out) (hl : (acc ++ y).length ≤ sizeLine) : EvJ (t :: ts) acc σ H out := fun H1 e Q q =>
  h H1 e _ fun H2 e2 => ⟨y, rfl, hl, r H2 (e.trans e2) Q fun H3 e3 => q H3 (e2.trans e3)⟩
theorem ev_joined (h : EvJ ts Str.empty σ H out) : Ev (fun σ H Q => tJs ts Str.empty σ H fun out H1 => Q (.str out) H1) σ H (.str out) := fun H1 e Q q => h H1 e _ q
def small (i : Int) : Prop := i.natAbs < 2 ^ 1000
theorem log_ok {i : Int} (h : small i) : i.natAbs.log2 < 1920 := Nat.lt_of_lt_of_le (PySem.Flt.log2_lt_of (by decide) h) (by decide)
theorem fmt_int {i : Int} (h : Ev te σ H (.int i)) (hs : small i) : Ev (tFmt te) σ H (.str (toString i)) := fun H1 e Q q => h H1 e _ fun H2 e2 => .inr ⟨i, rfl, log_ok hs, q H2 e2⟩
theorem fmt_str {x : Str} (h : Ev te σ H (.str x)) (hs : x.length ≤ 10000) : Ev (tFmt te) σ H (.str x) := fun H1 e Q q => h H1 e _ fun H2 e2 => .inl ⟨x, rfl, sz_of (by omega), q H2 e2⟩
theorem small_len {i : Int} (h : small i) : (Str.ofString (toString i)).length ≤ 1921 := int_text_len_1921 (log_ok h)
theorem small_of {i : Int} (h1 : -(2 ^ 62) ≤ i) (h2 : i ≤ 2 ^ 62) : small i := by
  have : i.natAbs ≤ 2 ^ 62 := by omega
  exact Nat.lt_of_le_of_lt this (by decide)
end
/-- an error's two fields, stored by its __init__ -/
theorem ost_first {K : PySem.W.Frag} {f : Str} {to te : TE} {σ : L2.St} {H : Hp} {D : Ends} {tz : TS} {a C : Addr} {y : V} (he : Ev te σ H y) (ho : Ev to σ H (.ref a)) (T : OexC K C) (hn : PySem.W.findIn K (.ref C) f = some none) (ha : H a = some (exo a C none))
    (k : ∀ dx H1, Ex H H1 → H1 dx = none → dx ≠ a → tz D σ (upd (upd H1 dx (exd dx [(f, y)])) a (exo a C (some dx)))) : tSeq (tOst K f to te) tz D σ H := he H (Ex.refl H) _ fun H1 e1 => ho H1 e1 _ fun H2 e2 =>
  ⟨a, C, rfl, T, hn, .inl ⟨e2 _ _ (e1 _ _ ha), fun dx n ne => k dx H2 (e1.trans e2) n ne⟩⟩
theorem ost_last {K : PySem.W.Frag} {f : Str} {to te : TE} {σ : L2.St} {H : Hp} {D : Ends} {a C dx : Addr} {fs : List (Str × V)} {y : V} (he : Ev te σ H y) (ho : Ev to σ H (.ref a)) (T : OexC K C) (hn : PySem.W.findIn K (.ref C) f = some none) (ha : H a = some (exo a C (some dx))) (hd : H dx = some (exd dx fs)) (hl : fs.length ≤ 900)
    (k : ∀ H1, Ex H H1 → D.nx σ (upd H1 dx (exd dx ((f, y) :: fs)))) : tOst K f to te D σ H := he H (Ex.refl H) _ fun H1 e1 => ho H1 e1 _ fun H2 e2 =>
  ⟨a, C, rfl, T, hn, .inr ⟨dx, fs, e2 _ _ (e1 _ _ ha), e2 _ _ (e1 _ _ hd), hl, k H2 (e1.trans e2)⟩⟩
end My

namespace My
open PySem PySem.Spec PyProof.Rows L2 Evl
/-! ### fields of own instances, made by their class -/
theorem lk_hit {f : Str} {v : V} {r : List (Str × V)} : ((f, v) :: r).lookup f = some v := by simp [List.lookup]
theorem lk_miss {f g : Str} {v : V} {r : List (Str × V)} (h : f ≠ g) : ((g, v) :: r).lookup f = r.lookup f := by
  have : (f == g) = false := beq_eq_false_iff_ne.mpr h
  simp [List.lookup, this]
theorem put_hit {f : Str} {v x : V} {r : List (Str × V)} : putF f v ((f, x) :: r) = (f, v) :: r := by simp [putF]
theorem put_miss {f g : Str} {v x : V} {r : List (Str × V)} (h : g ≠ f) : putF f v ((g, x) :: r) = (g, x) :: putF f v r := by
  show (if g = f then _ else _) = _
  rw [if_neg h]
section
variable {K : PySem.W.Frag} {σ : L2.St} {H H' : Hp} {ta tb te tx tv : TE} {t u : TT} {x y z v : V} {D : Ends} {tu tw tz : TS} {g : TG} {i j : Int} {b : Bool} {C a dx : Addr} {fs : List (Str × V)} {f : Str}
theorem ev_fld (h : Ev ta σ H (.ref a)) (ha : H a = some (.ins C dx fs)) (c : Cls K C) (n : NoAttr K C f) (l : fs.lookup f = some v) : Ev (tFld K ta f) σ H v := fun H1 e Q q => h H1 e _ fun H2 e2 =>
  ⟨a, C, dx, fs, v, rfl, (e.trans e2) _ _ ha, c, n, l, q H2 e2⟩
theorem q_fld (hv : Ev tv σ H y) (ho : Ev ta σ H (.ref a)) (ha : H a = some (.ins C dx fs)) (c : Cls K C) (n : NoAttr K C f) (l : fs.length < 1000) (k : ∀ H1, Ex H H1 → tz D σ (upd H1 a (.ins C dx (putF f y fs)))) : tSeq (sFld K ta tv f) tz D σ H :=
  hv H (Ex.refl H) _ fun H1 e1 => ho H1 e1 _ fun H2 e2 => ⟨a, C, dx, fs, rfl, (e1.trans e2) _ _ ha, c, n, l, k H2 (e1.trans e2)⟩
theorem s_fld (hv : Ev tv σ H y) (ho : Ev ta σ H (.ref a)) (ha : H a = some (.ins C dx fs)) (c : Cls K C) (n : NoAttr K C f) (l : fs.length < 1000) (k : ∀ H1, Ex H H1 → D.nx σ (upd H1 a (.ins C dx (putF f y fs)))) : sFld K ta tv f D σ H :=
  hv H (Ex.refl H) _ fun H1 e1 => ho H1 e1 _ fun H2 e2 => ⟨a, C, dx, fs, rfl, (e1.trans e2) _ _ ha, c, n, l, k H2 (e1.trans e2)⟩
/-- a value of some kind, told by a predicate of the heap -/
def EvP (te : TE) (σ : L2.St) (H : Hp) (P : V → Hp → Prop) : Prop := ∀ H1, Ex H H1 → ∀ Q : VK, (∀ v H2, Ex H1 H2 → P v H2 → Q v H2) → te σ H1 Q
theorem qp_fld {P : V → Hp → Prop} (hv : EvP tv σ H P) (ho : Ev ta σ H (.ref a)) (hP : ∀ v H1 H2, Ex H1 H2 → P v H1 → P v H2) (ha : H a = some (.ins C dx fs)) (c : Cls K C) (n : NoAttr K C f) (l : fs.length < 1000) (k : ∀ y H1, Ex H H1 → P y H1 → tz D σ (upd H1 a (.ins C dx (putF f y fs)))) : tSeq (sFld K ta tv f) tz D σ H :=
  hv H (Ex.refl H) _ fun y H1 e1 p => ho H1 e1 _ fun H2 e2 => ⟨a, C, dx, fs, rfl, (e1.trans e2) _ _ ha, c, n, l, k y H2 (e1.trans e2) (hP _ _ _ e2 p)⟩
theorem qu_fld {xs : List V} (hv : EvU tv σ H xs) (ho : Ev ta σ H (.ref a)) (ha : H a = some (.ins C dx fs)) (c : Cls K C) (n : NoAttr K C f) (l : fs.length < 1000) (k : ∀ p H1, H p = none → Ex H H1 → H1 p = some (.tup xs) → tz D σ (upd H1 a (.ins C dx (putF f (.ref p) fs)))) : tSeq (sFld K ta tv f) tz D σ H :=
  hv H (Ex.refl H) _ fun p H1 n1 e1 h1 => ho H1 e1 _ fun H2 e2 => ⟨a, C, dx, fs, rfl, (e1.trans e2) _ _ ha, c, n, l, k p H2 n1 (e1.trans e2) (e2 _ _ h1)⟩
theorem su_fld {xs : List V} (hv : EvU tv σ H xs) (ho : Ev ta σ H (.ref a)) (ha : H a = some (.ins C dx fs)) (c : Cls K C) (n : NoAttr K C f) (l : fs.length < 1000) (k : ∀ p H1, H p = none → Ex H H1 → H1 p = some (.tup xs) → D.nx σ (upd H1 a (.ins C dx (putF f (.ref p) fs)))) : sFld K ta tv f D σ H :=
  hv H (Ex.refl H) _ fun p H1 n1 e1 h1 => ho H1 e1 _ fun H2 e2 => ⟨a, C, dx, fs, rfl, (e1.trans e2) _ _ ha, c, n, l, k p H2 n1 (e1.trans e2) (e2 _ _ h1)⟩
/-- tuple(x), x a list or a tuple: a tuple -/
theorem evp_tup {l : Addr} {xs : List V} (h : Ev te σ H (.ref l)) (hs : SqL K H l xs ∨ SqT K H l xs) : EvP (tCB (rTupQ K) (tCons te tNil)) σ H fun v H2 => ∃ p, v = .ref p ∧ SqT K H2 p xs := fun H1 e Q q =>
  h H1 e _ fun H2 e2 => ⟨l, xs, rfl, by
    rcases hs with hs | hs
    · exact .inl ⟨ex_l (e.trans e2) hs, fun p hp => q _ _ (e2.trans (Ex.new hp)) ⟨p, rfl, st_of upd_same⟩⟩
    · exact .inr ⟨ex_t (e.trans e2) hs, q _ _ e2 ⟨l, rfl, ex_t (e.trans e2) hs⟩⟩⟩
/-- tuple(a new list), tuple(a list): a new tuple -/
theorem eu_tupN {xs : List V} (h : EvL te σ H xs) : EvU (tCB (rTupQ K) (tCons te tNil)) σ H xs := fun H1 e Q q =>
  h H1 e _ fun p H2 n e2 h2 => ⟨p, xs, rfl, .inl ⟨sq_of h2, fun l hl => q l _ (fresh_back e2 hl) (e2.trans (Ex.new hl)) upd_same⟩⟩
theorem eu_tupL {l : Addr} {xs : List V} (h : Ev te σ H (.ref l)) (hs : SqL K H l xs) : EvU (tCB (rTupQ K) (tCons te tNil)) σ H xs := fun H1 e Q q =>
  h H1 e _ fun H2 e2 => ⟨l, xs, rfl, .inl ⟨ex_l (e.trans e2) hs, fun p hp => q p _ (fresh_back e2 hp) (e2.trans (Ex.new hp)) upd_same⟩⟩
theorem ev_sumN {ns : List Int} {xs : List V} (h : EvL te σ H xs) (hx : xs = ns.map V.int) : Ev (tCB (rSum K) (tCons te tNil)) σ H (.int ns.sum) := fun H1 e Q q =>
  h H1 e _ fun p H2 n e2 h2 => ⟨p, ns, rfl, sq_of (hx ▸ h2), q H2 e2⟩
theorem sqt_keep {p : Addr} {o o2 : HO} {xs : List V} (hp : H p = some o2) (h1 : ∀ xs, o2 ≠ .tup xs) (h2 : ∀ c d, o2 ≠ .frz c d) (h : SqT K H a xs) : SqT K (upd H p o) a xs := by
  rcases h with (h | ⟨c, h⟩) | h
  · refine .inl (.inl ?_)
    rw [upd_ne]
    · exact h
    · intro z
      subst z
      rw [hp] at h
      exact h1 _ (Option.some.inj h)
  · refine .inl (.inr ⟨c, ?_⟩)
    rw [upd_ne]
    · exact h
    · intro z
      subst z
      rw [hp] at h
      exact h2 _ _ (Option.some.inj h)
  · exact .inr h
/-- for over reversed(a tuple), behind it a word B -/
theorem q_forRevT {xs : List V} (h : Ev te σ H (.ref a)) (hx : SqT K H a xs) (Pv : Nat → L2.St → Hp → Prop) (B : L2.St → Hp → Prop) (h0 : ∀ H1, Ex H H1 → Pv 0 σ H1) (hl : ∀ i σ' H', Pv i σ' H' → SqT K H' a xs)
    (hs : ∀ (i : Nat) x σ' H', i < xs.length → xs[xs.length - 1 - i]? = some x → Pv i σ' H' → g x σ' H' fun σ2 H2 => tu { D with nx := Pv (i + 1), ct := Pv (i + 1), bk := B } σ2 H2) (hd : ∀ σ' H', Pv xs.length σ' H' → B σ' H')
    (hb : ∀ σ' H', B σ' H' → tz D σ' H') : tCut (tFor (RT.iRevA K te) g tu) tz D σ H :=
  ⟨B, h H (Ex.refl H) _ fun H1 e => ⟨a, xs, rfl, .inr ⟨ex_t e hx, RT.for_ItvT Pv (h0 H1 e) hl hs hd⟩⟩, hb⟩
/-- a comprehension over zip of two tuples of one length -/
theorem el_lcZT {ta : TA} {a b : Addr} {xs ys : List V} {n m : Nat} {vs : List Nat} (v : Nat → V) (h : EvA ta σ H [.ref a, .ref b]) (hx : SqT K H a xs) (hy : SqT K H b ys) (hl : xs.length = ys.length) (hz : xs.length ≤ 40000)
    (hw : ∀ x y, wipe (((wipe σ vs).set n (some x)).set m (some y)) vs = wipe σ vs)
    (he : ∀ (i : Nat) (x y : V) H1, Ex H H1 → xs[i]? = some x → ys[i]? = some y → Ev te (((wipe σ vs).set n (some x)).set m (some y)) H1 (v i)) :
    EvL (tLc (RZ.iZipA K ta) (gTup K 2 (gCons (gName n) (gCons (gName m) gNil))) tYes te vs) σ H (given xs.length (fun _ => true) v) := fun H0 e Q q => h H0 e _ fun H1 e1 =>
  ⟨a, b, xs, ys, rfl, .inr ⟨ex_t (e.trans e1) hx, ex_t (e.trans e1) hy, fun Dl hD =>
    ⟨fun i k Hi => k = xs.length - i ∧ i ≤ xs.length ∧ Cw H1 (fun _ => true) v Dl i Hi, ⟨xs.length, rfl, Nat.zero_le _, hD, Ex.new hD, upd_same⟩, by
      rintro i k Hi ⟨rfl, hi, p⟩
      have qx := ex_t ((e.trans e1).trans p.2.1) hx
      have qy := ex_t ((e.trans e1).trans p.2.1) hy
      by_cases hlt : i < xs.length
      · have hlt2 : i < ys.length := by omega
        refine .inr ⟨⟨xs, ys, _, _, qx, qy, List.getElem?_eq_getElem hlt, List.getElem?_eq_getElem hlt2⟩, Cw H1 (fun _ => true) v Dl (i + 1), fun H' p' => ⟨xs.length - (i + 1), by omega, rfl, hlt, p'⟩, fun u Hu yy => ?_⟩
        obtain ⟨T, x', y', rfl, hT, rfl, f1, f2⟩ := yy
        have gx := f1 xs qx
        have gy := f2 ys qy
        have hTD : T ≠ Dl := fun z => by
          rw [z, p.2.2] at hT
          cases hT
        have p2 : Cw H1 (fun _ => true) v Dl i (upd Hi T (.tup [x', y'])) := ⟨p.1, p.2.1.trans (Ex.new hT), by rw [upd_ne hTD.symm]; exact p.2.2⟩
        exact ⟨T, [x', y'], rfl, st_of upd_same, rfl, x', [y'], rfl, y', [], rfl, rfl, hw _ _, cw_turn (t := tYes) p2 (by omega) (fun H3 e3 Q3 q3 => q3 H3 (Ex.refl H3)) fun _ => he i x' y' H1 (e.trans e1) gx gy⟩
      · have ei : i = xs.length := by omega
        subst ei
        exact .inl ⟨⟨xs, ys, qx, qy, .inl (Nat.le_refl _)⟩, q Dl Hi (fresh_back e1 p.1) (e1.trans p.2.1) p.2.2⟩⟩⟩⟩
end
end My
namespace My
open PySem PySem.Spec PyProof.Rows L2 Evl
section
variable {K : PySem.W.Frag} {σ : L2.St} {H H' : Hp} {ta tb te tx tv : TE} {t u : TT} {x y z v : V} {D : Ends} {tu tw tz : TS} {g : TG} {i j : Int} {b : Bool} {C a dx : Addr} {fs : List (Str × V)} {f : Str}
theorem takes0 {X : Cx} : Takes X (fun _ _ _ _ => False) := fun _ _ x => by
  obtain ⟨_, _, _, _, _, _, _, _, _, _, _, _, _, _, _, _, z⟩ := x
  exact z.elim
theorem given_all {zs : List V} {n : Nat} (hn : zs.length = n) : given n (fun _ => true) (fun i => zs.getD i .non) = zs := by
  subst hn
  unfold given
  rw [List.filter_eq_self.mpr (by simp)]
  refine List.ext_getElem? fun i => ?_
  rw [List.getElem?_map]
  by_cases h : i < zs.length
  · rw [List.getElem?_range h, List.getElem?_eq_getElem h]
    simp [List.getD, h]
  · rw [List.getElem?_eq_none (by simpa using h), List.getElem?_eq_none (by omega)]
    rfl
theorem getD_some {zs : List V} {i : Nat} {n : Nat} (hn : zs.length = n) (h : i < n) : zs[i]? = some (zs.getD i .non) := by
  subst hn
  rw [List.getElem?_eq_getElem h]
  simp [List.getD, h]
/-- a comprehension over zip of two tuples: its items are zs -/
theorem el_zipT {ta : TA} {a b : Addr} {xs ys zs : List V} {n m : Nat} {vs : List Nat} (h : EvA ta σ H [.ref a, .ref b]) (hx : SqT K H a xs) (hy : SqT K H b ys) (hl : xs.length = ys.length) (hzs : zs.length = xs.length) (hz : xs.length ≤ 40000)
    (hw : ∀ x y, wipe (((wipe σ vs).set n (some x)).set m (some y)) vs = wipe σ vs)
    (he : ∀ (i : Nat) (x y z : V) H1, Ex H H1 → xs[i]? = some x → ys[i]? = some y → zs[i]? = some z → Ev te (((wipe σ vs).set n (some x)).set m (some y)) H1 z) :
    EvL (tLc (RZ.iZipA K ta) (gTup K 2 (gCons (gName n) (gCons (gName m) gNil))) tYes te vs) σ H zs := by
  have q := el_lcZT (te := te) (fun i => zs.getD i .non) h hx hy hl hz hw fun i x y H1 e hx' hy' => he i x y _ H1 e hx' hy' (getD_some hzs (by
    have := (List.getElem?_eq_some_iff.mp hx').1
    omega))
  rwa [given_all hzs] at q
theorem et_yes : EvT tYes σ H true := fun H1 _ _ q => q H1 (Ex.refl H1)
/-- .. over a range, without a test -/
theorem el_rng {ta : TA} {j : Nat} {vs : List Nat} {n : Int} {zs : List V} (h : EvA ta σ H [.int n]) (hn : 0 ≤ n ∧ n ≤ 40000) (hzs : zs.length = n.toNat) (hw : ∀ x, wipe ((wipe σ vs).set j (some x)) vs = wipe σ vs)
    (he : ∀ (i : Nat) (z : V) H1, Ex H H1 → (i : Int) < n → zs[i]? = some z → Ev te ((wipe σ vs).set j (some (.int (i : Int)))) H1 z) :
    EvL (tLc (iRng1 ta) (gName j) tYes te vs) σ H zs := by
  have q := el_lcR1 (t := tYes) (te := te) (fun _ => true) (fun i => zs.getD i .non) h hn hw (fun i H1 _ _ => et_yes) fun i H1 e hi _ => he i _ H1 e hi (getD_some hzs (by omega))
  rwa [given_all hzs] at q
end
end My
namespace My
open PySem PySem.Spec PyProof.Rows L2 Evl
/-! ### methods; calls that may raise -/
section
variable {K : PySem.W.Frag} {σ : L2.St} {H H' : Hp} {ta tb te tx tv : TE} {t : TA} {x y z v : V} {D : Ends} {tu tw tz : TS} {C a dx : Addr} {fs : List (Str × V)} {m : Str} {sp : Sp} {E : XK} {ES : L2.St → XK} {vs : List V} {Q : VK} {d : PyData}
theorem cs_ask (ht : EvA t σ H vs) (k : ∀ H1, Ex H H1 → sp vs H1 Q (ES σ)) : tCallS sp ES t σ H Q := ht H (Ex.refl H) _ k
theorem ms_ask (ho : Ev ta σ H (.ref a)) (hi : H a = some (.ins C dx fs)) (hm : fs.lookup m = none) (ht : EvA t σ H vs) (k : ∀ H1, Ex H H1 → sp (.ref a :: vs) H1 Q (ES σ)) : tMethS C m sp ES ta t σ H Q := ho H (Ex.refl H) _ fun H1 e1 =>
  ⟨a, dx, fs, rfl, e1 _ _ hi, hm, ht H1 e1 _ fun H2 e2 => k H2 (e1.trans e2)⟩
theorem mm_ask (ho : Ev ta σ H (.ref a)) (hi : H a = some (.ins C dx fs)) (hm : fs.lookup m = none) (ht : EvA t σ H vs) (k : ∀ H1, Ex H H1 → sp (.ref a :: vs) H1 Q E) : tMeth C m sp [] E ta t σ H Q := ho H (Ex.refl H) _ fun H1 e1 =>
  ⟨a, dx, fs, rfl, e1 _ _ hi, hm, ht H1 e1 _ fun H2 e2 => by
    rw [List.append_nil]
    exact k H2 (e1.trans e2)⟩
theorem ev_callS (ht : EvA t σ H vs) (k : SpV sp vs H z) : Ev (tCallS sp ES t) σ H z := fun H1 e Q q => cs_ask (ht.mono e) fun H2 e2 => k H2 (e.trans e2) Q (fun H3 e3 => q H3 (e2.trans e3)) _
theorem ev_methS (ho : Ev ta σ H (.ref a)) (hi : H a = some (.ins C dx fs)) (hm : fs.lookup m = none) (ht : EvA t σ H vs) (k : SpV sp (.ref a :: vs) H z) : Ev (tMethS C m sp ES ta t) σ H z := fun H1 e Q q =>
  ms_ask (ho.mono e) (e _ _ hi) hm (ht.mono e) fun H2 e2 => k H2 (e.trans e2) Q (fun H3 e3 => q H3 (e2.trans e3)) _
theorem ev_meth (ho : Ev ta σ H (.ref a)) (hi : H a = some (.ins C dx fs)) (hm : fs.lookup m = none) (ht : EvA t σ H vs) (k : SpV sp (.ref a :: vs) H z) : Ev (tMeth C m sp [] E ta t) σ H z := fun H1 e Q q =>
  mm_ask (ho.mono e) (e _ _ hi) hm (ht.mono e) fun H2 e2 => k H2 (e.trans e2) Q (fun H3 e3 => q H3 (e2.trans e3)) _
/-- what a call gives is data -/
def SpVD (K : PySem.W.Frag) (sp : Sp) (vs : List V) (H : Hp) (d : PyData) : Prop := ∀ H1, Ex H H1 → ∀ Q : VK, RetD K d H1 Q → ∀ E : XK, sp vs H1 Q E
theorem evd_callV (ht : EvA t σ H vs) (k : SpVD K sp vs H d) : EvD K (tCall sp [] E t) σ H d := fun H1 e Q q => ht H1 e _ fun H2 e2 => by
  show sp (vs ++ []) H2 Q E
  rw [List.append_nil]
  exact k H2 (e.trans e2) Q (fun v H3 e3 hd => q v H3 (e2.trans e3) hd) E
theorem evd_methS (ho : Ev ta σ H (.ref a)) (hi : H a = some (.ins C dx fs)) (hm : fs.lookup m = none) (ht : EvA t σ H vs) (k : SpVD K sp (.ref a :: vs) H d) : EvD K (tMethS C m sp ES ta t) σ H d := fun H1 e Q q =>
  ms_ask (ho.mono e) (e _ _ hi) hm (ht.mono e) fun H2 e2 => k H2 (e.trans e2) Q (fun v H3 e3 hd => q v H3 (e2.trans e3) hd) _
theorem evd_meth (ho : Ev ta σ H (.ref a)) (hi : H a = some (.ins C dx fs)) (hm : fs.lookup m = none) (ht : EvA t σ H vs) (k : SpVD K sp (.ref a :: vs) H d) : EvD K (tMeth C m sp [] E ta t) σ H d := fun H1 e Q q =>
  mm_ask (ho.mono e) (e _ _ hi) hm (ht.mono e) fun H2 e2 => k H2 (e.trans e2) Q (fun v H3 e3 hd => q v H3 (e2.trans e3) hd) _
end
end My
namespace My
open PySem PySem.Spec PyProof.Rows L2 Evl
/-! ### isinstance of a caught error -/
section
variable {K : PySem.W.Frag} {σ : L2.St} {H H' : Hp} {te tx : TE} {ta : TA} {D a dd : Addr} {fs : List (Str × V)} {c v : V} {cv : Value} {b : Bool} {f : Str}
theorem ev_isX {tc : TE} (hx : Ev tx σ H (.ref a)) (hc : Ev tc σ H c) (hd : H dd = some (.xd fs)) (k : ClsV c cv) (hk : PySem.W.kitOne K (.ref D) cv = some b) : Ev (tCB (rIsX K D a (.ref D) (some dd)) (tCons tx (tCons tc tNil))) σ H (.bl b) := fun H1 e Q q =>
  hx H1 e _ fun H2 e2 => hc H2 (e.trans e2) _ fun H3 e3 => ⟨rfl, ⟨dd, fs, rfl, ((e.trans e2).trans e3) _ _ hd⟩, .inl ⟨c, cv, b, rfl, k, hk, q H3 (e2.trans e3)⟩⟩
theorem ev_isXT {cs : List V} {us : List Value} (hx : Ev tx σ H (.ref a)) (hc : EvA ta σ H cs) (hl : cs.length ≤ 100) (hd : H dd = some (.xd fs)) (k : Paired ClsV cs us) (hk : PySem.W.kitAny K (.ref D) us = some b) : Ev (tCB (rIsX K D a (.ref D) (some dd)) (tCons tx (tCons (tTup ta) tNil))) σ H (.bl b) := fun H1 e Q q =>
  hx H1 e _ fun H2 e2 => hc H2 (e.trans e2) _ fun H3 e3 => ⟨sz_of (by omega), fun p hp => by
    have E3 := (e2.trans e3).trans (Ex.new (o := .tup cs) hp)
    exact ⟨rfl, ⟨dd, fs, rfl, (e.trans E3) _ _ hd⟩, .inr ⟨p, cs, us, b, rfl, upd_same, k, hk, q _ E3⟩⟩⟩
theorem ev_xf (hx : Ev te σ H (.ref a)) (hd : H dd = some (.xd fs)) (hl : fs.lookup f = some v) : Ev (tXf a (.ref D) (some dd) D f te) σ H v := fun H1 e Q q =>
  hx H1 e _ fun H2 e2 => ⟨rfl, rfl, dd, fs, v, rfl, (e.trans e2) _ _ hd, hl, q H2 e2⟩
/-- an error class named by a def, its catch in a suite -/
theorem catch_as {C B : Addr} {i : Nat} {ts : Addr → Value → Option Addr → TS} {Wout : WX} {DD : Ends} (hx : PySem.W.exmOne K (.ref C) (.ref B) = some true)
    (k : ∀ d H', H d = none → Ex H H' → H' d = some (.xd fs) → ∀ a, H' a = none → ts a (.ref C) (some d) { nx := fun σ' H' => DD.nx (σ'.set i none) H', rt := DD.rt, bk := fun σ' H' => DD.bk (σ'.set i none) H', ct := fun σ' H' => DD.ct (σ'.set i none) H' } (σ.set i (some (.ref a))) H') :
    RaiseR C fs H (WE (wAs K (.ref B) i ts Wout DD) σ) := fun d H' n e h => ⟨true, hx, fun _ a na => k d H' n e h a na, fun z => nomatch z⟩
end
end My
namespace My
open PySem PySem.Spec PyProof.Rows L2 Evl
section
variable {K : PySem.W.Frag} {σ : L2.St} {H H' : Hp} {te tx : TE} {ta : TA} {a l : Addr} {v : V} {xs : List V} {ns : List Int}
theorem evd_Li (h : EvL te σ H (ns.map V.int)) : EvD K te σ H (.list (ns.map PyData.int)) := fun H1 e Q q => h H1 e _ fun p H2 _ e2 h2 => q _ H2 e2 (.lst (sq_of h2) (dpa_ints ns))
theorem evd_Ui (h : EvU te σ H (ns.map V.int)) : EvD K te σ H (.tuple (ns.map PyData.int)) := fun H1 e Q q => h H1 e _ fun p H2 _ e2 h2 => q _ H2 e2 (.tup (st_of h2) (dpa_ints ns))
theorem dp_tups {a : Addr} (h : SqT K H a (ns.map V.int)) : Dp K H (.ref a) (.tuple (ns.map PyData.int)) := .tup h (dpa_ints ns)
theorem el_listQ (ha : Ev te σ H (.ref a)) (h : SqL K H a xs) : EvL (tCB (rListQ K) (tCons te tNil)) σ H xs := fun H1 e Q q =>
  ha H1 e _ fun H2 e2 => ⟨a, xs, rfl, .inl (ex_l (e.trans e2) h), fun l hl => q l _ (fresh_back e2 hl) (e2.trans (Ex.new hl)) upd_same⟩
theorem dn_tups {n : Nat} (h : ns.length ≤ 40000) : Dn (n + 1) (.tuple (ns.map PyData.int)) := by
  simp only [Dn, List.length_map]
  refine ⟨h, fun d hd => ?_⟩
  obtain ⟨x, _, rfl⟩ := List.mem_map.mp hd
  simp [Dn]
theorem dn_lists {n : Nat} (h : ns.length ≤ 40000) : Dn (n + 1) (.list (ns.map PyData.int)) := by
  simp only [Dn, List.length_map]
  refine ⟨h, fun d hd => ?_⟩
  obtain ⟨x, _, rfl⟩ := List.mem_map.mp hd
  simp [Dn]
theorem dn_int {n : Nat} {i : Int} : Dn n (.int i) := by simp [Dn]
theorem sql_keep {p : Addr} {o o2 : HO} (hp : H p = some o2) (h1 : ∀ xs, o2 ≠ .lst xs) (h2 : ∀ c d, o2 ≠ .frz c d) (h : SqL K H a xs) : SqL K (upd H p o) a xs := by
  rcases h with (h | ⟨c, h⟩) | h
  · refine .inl (.inl ?_)
    rw [upd_ne]
    · exact h
    · intro z
      subst z
      rw [hp] at h
      exact h1 _ (Option.some.inj h)
  · refine .inl (.inr ⟨c, ?_⟩)
    rw [upd_ne]
    · exact h
    · intro z
      subst z
      rw [hp] at h
      exact h2 _ _ (Option.some.inj h)
  · exact .inr h
/-- a value that is a list or a tuple -/
theorem evp_var {i : Nat} {P : V → Hp → Prop} (h : σ[i]? = some (some v)) (p : ∀ H1, Ex H H1 → P v H1) : EvP (tVar i) σ H P := fun H1 e Q q => ev_var h H1 e _ fun H2 e2 => q _ H2 e2 (p H2 (e.trans e2))
theorem evp_U {P : V → Hp → Prop} (h : EvU te σ H xs) (p : ∀ l H1, H1 l = some (.tup xs) → P (.ref l) H1) : EvP te σ H P := fun H1 e Q q => h H1 e _ fun l H2 _ e2 h2 => q _ H2 e2 (p l H2 h2)
end
end My

namespace My
open PySem PySem.Spec PyProof.Rows L2 Evl
/-! ### lists of tuples of ints -/
section
variable {K : PySem.W.Frag} {H H' : Hp}
def tupD (r : List Int) : PyData := .tuple (r.map PyData.int)
def TupsAt (K : PySem.W.Frag) (H : Hp) : List V → List (List Int) → Prop
  | [], [] => True
  | v :: vs, p :: ps => (∃ a, v = .ref a ∧ SqT K H a (p.map V.int)) ∧ TupsAt K H vs ps
  | _, _ => False
theorem TupsAt.ex (e : Ex H H') : ∀ {vs : List V} {ps : List (List Int)}, TupsAt K H vs ps → TupsAt K H' vs ps
  | [], [], h => h
  | _ :: _, _ :: _, ⟨⟨a, h1, h2⟩, t⟩ => ⟨⟨a, h1, ex_t e h2⟩, TupsAt.ex e t⟩
theorem TupsAt.keep {p : Addr} {o o2 : HO} (hp : H p = some o2) (h1 : ∀ xs, o2 ≠ .tup xs) (h2 : ∀ c d, o2 ≠ .frz c d) : ∀ {vs : List V} {ps : List (List Int)}, TupsAt K H vs ps → TupsAt K (upd H p o) vs ps
  | [], [], h => h
  | _ :: _, _ :: _, ⟨⟨a, g1, g2⟩, t⟩ => ⟨⟨a, g1, sqt_keep hp h1 h2 g2⟩, TupsAt.keep hp h1 h2 t⟩
theorem TupsAt.app : ∀ {vs us : List V} {ps qs : List (List Int)}, TupsAt K H vs ps → TupsAt K H us qs → TupsAt K H (vs ++ us) (ps ++ qs)
  | [], _, [], _, _, h => h
  | _ :: _, _, _ :: _, _, ⟨h, t⟩, g => ⟨h, TupsAt.app t g⟩
theorem TupsAt.len : ∀ {vs : List V} {ps : List (List Int)}, TupsAt K H vs ps → vs.length = ps.length
  | [], [], _ => rfl
  | _ :: _, _ :: _, ⟨_, t⟩ => congrArg Nat.succ (TupsAt.len t)
theorem TupsAt.at_ : ∀ {vs : List V} {ps : List (List Int)} {i : Nat} {v : V}, TupsAt K H vs ps → vs[i]? = some v → ∃ (h : i < ps.length) (a : Addr), v = .ref a ∧ SqT K H a (ps[i].map V.int)
  | _ :: _, _ :: _, 0, _, ⟨⟨a, h1, h2⟩, _⟩, e => ⟨by simp, a, by rw [← h1]; exact (Option.some.inj e).symm, h2⟩
  | _ :: _, _ :: _, i + 1, v, ⟨_, t⟩, e => by
    obtain ⟨h, a, h1, h2⟩ := TupsAt.at_ (i := i) t e
    exact ⟨by simp; omega, a, h1, h2⟩
theorem TupsAt.get {vs : List V} {ps : List (List Int)} {i : Nat} (t : TupsAt K H vs ps) (h : i < ps.length) : ∃ a, vs[i]? = some (.ref a) ∧ SqT K H a (ps[i].map V.int) := by
  have hv : i < vs.length := by rw [t.len]; exact h
  obtain ⟨_, a, h1, h2⟩ := t.at_ (List.getElem?_eq_getElem hv)
  exact ⟨a, by rw [List.getElem?_eq_getElem hv, h1], h2⟩
theorem TupsAt.one {a : Addr} {p : List Int} (h : SqT K H a (p.map V.int)) : TupsAt K H [.ref a] [p] := And.intro ⟨a, rfl, h⟩ trivial
theorem TupsAt.set : ∀ {vs : List V} {ps : List (List Int)} {i : Nat} {a : Addr} {p : List Int}, TupsAt K H vs ps → SqT K H a (p.map V.int) → TupsAt K H (vs.set i (.ref a)) (ps.set i p)
  | [], [], _, _, _, _, _ => trivial
  | _ :: _, _ :: _, 0, a, _, ⟨_, t⟩, h => And.intro ⟨a, rfl, h⟩ t
  | _ :: _, _ :: _, i + 1, _, _, ⟨h0, t⟩, h => And.intro h0 (TupsAt.set (i := i) t h)
theorem TupsAt.drop : ∀ {vs : List V} {ps : List (List Int)} (n : Nat), TupsAt K H vs ps → TupsAt K H (vs.drop n) (ps.drop n)
  | _, _, 0, h => h
  | [], [], _ + 1, _ => trivial
  | _ :: _, _ :: _, n + 1, ⟨_, t⟩ => TupsAt.drop n t
theorem TupsAt.dp : ∀ {vs : List V} {ps : List (List Int)}, TupsAt K H vs ps → DpAll K H vs (ps.map tupD)
  | [], [], _ => .nil
  | _ :: _, _ :: _, ⟨⟨_, h1, h2⟩, t⟩ => by
    subst h1
    exact .cons (dp_tups h2) (TupsAt.dp t)
theorem dn_tupL {ps : List (List Int)} (h : ps.length ≤ 40000) (h2 : ∀ p ∈ ps, p.length ≤ 40000) : Dn 2 (.list (ps.map tupD)) := by
  simp only [Dn, List.length_map]
  refine ⟨h, fun d hd => ?_⟩
  obtain ⟨x, hx, rfl⟩ := List.mem_map.mp hd
  exact dn_tups (h2 x hx)
end
section
variable {K : PySem.W.Frag} {σ : L2.St} {H H' : Hp} {ta tb te tx tl tk tv : TE} {x y z v : V} {D : Ends} {tz : TS}
/-- a value that is a tuple of these ints -/
def EvTu (K : PySem.W.Frag) (te : TE) (σ : L2.St) (H : Hp) (r : List Int) : Prop := EvP te σ H fun v H1 => ∃ a, v = .ref a ∧ SqT K H1 a (r.map V.int)
theorem etu_of {r : List Int} {a : Addr} (h : Ev te σ H (.ref a)) (hs : SqT K H a (r.map V.int)) : EvTu K te σ H r := fun H1 e Q q => h H1 e _ fun H2 e2 => q _ H2 e2 ⟨a, rfl, ex_t (e.trans e2) hs⟩
theorem etu_U {r : List Int} {xs : List V} (h : EvU te σ H xs) (hx : xs = r.map V.int) : EvTu K te σ H r := fun H1 e Q q => h H1 e _ fun p H2 _ e2 h2 => q _ H2 e2 ⟨p, rfl, hx ▸ st_of h2⟩
theorem etu_D {r : List Int} (h : EvTu K te σ H r) : EvD K te σ H (tupD r) := fun H1 e Q q => h H1 e _ fun v H2 e2 ⟨a, hv, hs⟩ => q v H2 e2 (hv ▸ dp_tups hs)
/-- a new list of tuples of ints -/
def EvTL (K : PySem.W.Frag) (te : TE) (σ : L2.St) (H : Hp) (rs : List (List Int)) : Prop := ∀ H1, Ex H H1 → ∀ Q : VK, (∀ p vs H2, H1 p = none → Ex H1 H2 → H2 p = some (.lst vs) → TupsAt K H2 vs rs → Q (.ref p) H2) → te σ H1 Q
theorem EvTL.toD {rs : List (List Int)} (h : EvTL K te σ H rs) : EvD K te σ H (.list (rs.map tupD)) := fun H1 e Q q => h H1 e Q fun p vs H2 _ e2 h2 ht => q _ H2 e2 (.lst (sq_of h2) ht.dp)
def Tw (K : PySem.W.Frag) (H : Hp) (rs : List (List Int)) (Dl : Addr) (i : Nat) (H' : Hp) : Prop := H Dl = none ∧ Ex H H' ∧ ∃ acc, H' Dl = some (.lst acc) ∧ TupsAt K H' acc (rs.take i)
theorem tw_turn {rs : List (List Int)} {Dl : Addr} {i : Nat} {σ2 : L2.St} {r : List Int} (p : Tw K H rs Dl i H') (hr : rs[i]? = some r) (hz : rs.length ≤ 50000) (he : EvTu K te σ2 H r) :
    tYes σ2 H' fun b H3 => if b = true then te σ2 H3 fun y H4 => ∃ acc, H4 Dl = some (.lst acc) ∧ acc.length < sizeLine ∧ Tw K H rs Dl (i + 1) (upd H4 Dl (.lst (acc ++ [y]))) else Tw K H rs Dl (i + 1) H3 := by
  obtain ⟨n, e, acc, ha, ht⟩ := p
  obtain ⟨hi, hri⟩ := List.getElem?_eq_some_iff.mp hr
  show te σ2 H' fun y H4 => ∃ acc, H4 Dl = some (.lst acc) ∧ acc.length < sizeLine ∧ Tw K H rs Dl (i + 1) (upd H4 Dl (.lst (acc ++ [y])))
  refine he H' e _ fun v H4 e4 ⟨a, hv, hs⟩ => ⟨acc, e4 _ _ ha, sz_lt (by have := ht.len; rw [List.length_take] at this; omega), n, (e.trans e4).mut n, acc ++ [v], upd_same, ?_⟩
  rw [List.take_succ_eq_append_getElem hi, hri, hv]
  exact ((ht.ex e4).keep (e4 _ _ ha) (by simp) (by simp)).app (TupsAt.one (sqt_keep (e4 _ _ ha) (by simp) (by simp) hs))
theorem etl_list {a : Addr} {xs : List V} {j : Nat} {vs : List Nat} {rs : List (List Int)} (h : Ev tl σ H (.ref a)) (hx : SqL K H a xs) (hl : rs.length = xs.length) (hz : rs.length ≤ 50000) (hw : ∀ x, wipe ((wipe σ vs).set j (some x)) vs = wipe σ vs)
    (he : ∀ (i : Nat) (x : V) (r : List Int) H1, Ex H H1 → xs[i]? = some x → rs[i]? = some r → EvTu K te ((wipe σ vs).set j (some x)) H1 r) : EvTL K (tLc (iList K tl) (gName j) tYes te vs) σ H rs := fun H0 e Q q => h H0 e _ fun H1 e1 => ⟨a, rfl, ⟨xs, ex_l (e.trans e1) hx⟩, fun Dl hD =>
  lc_list (xs := xs) (Tw K H1 rs Dl) ⟨hD, Ex.new hD, [], upd_same, trivial⟩ (fun i H' _ p => ex_l ((e.trans e1).trans p.2.1) hx) (fun i x H' hi p => ⟨hw x, by
    have hi2 := (List.getElem?_eq_some_iff.mp hi).1
    have hr : rs[i]? = some rs[i] := List.getElem?_eq_getElem (by omega)
    exact tw_turn p hr hz (he i x _ H1 (e.trans e1) hi hr)⟩) fun H' p => by
      obtain ⟨n, e2, acc, ha, ht⟩ := p
      rw [← hl, List.take_length] at ht
      exact q Dl acc H' (fresh_back e1 n) (e1.trans e2) ha ht⟩
theorem etl_rng {ta : TA} {n : Int} {j : Nat} {vs : List Nat} {rs : List (List Int)} (h : EvA ta σ H [.int n]) (hn : 0 ≤ n ∧ n ≤ 40000) (hl : rs.length = n.toNat) (hw : ∀ x, wipe ((wipe σ vs).set j (some x)) vs = wipe σ vs)
    (he : ∀ (i : Nat) (r : List Int) H1, Ex H H1 → (i : Int) < n → rs[i]? = some r → EvTu K te ((wipe σ vs).set j (some (.int (i : Int)))) H1 r) : EvTL K (tLc (iRng1 ta) (gName j) tYes te vs) σ H rs := fun H0 e Q q => h H0 e _ fun H1 e1 => ⟨n, rfl, by omega, by omega, fun Dl hD =>
  lc_range (lo := 0) (n := n.toNat) (Tw K H1 rs Dl) ⟨hD, Ex.new hD, [], upd_same, trivial⟩ (fun i H' hi p => by
    have e0 : (0 : Int) + (i : Int) = (i : Int) := Int.zero_add _
    rw [e0]
    have hr : rs[i]? = some rs[i] := List.getElem?_eq_getElem (by omega)
    exact ⟨hw _, tw_turn p hr (by omega) (he i _ H1 (e.trans e1) (by omega) hr)⟩) fun H' p => by
      obtain ⟨n, e2, acc, ha, ht⟩ := p
      rw [← hl, List.take_length] at ht
      exact q Dl acc H' (fresh_back e1 n) (e1.trans e2) ha ht⟩
/-- enumerate of a list in a comprehension -/
theorem el_lcE {ta : TA} {a : Addr} {xs : List V} {n m : Nat} {vs : List Nat} {t : TT} (f : Nat → Bool) (v : Nat → V) (h : EvA ta σ H [.ref a]) (hx : SqL K H a xs) (hz : xs.length ≤ 40000)
    (hw : ∀ x y, wipe (((wipe σ vs).set n (some x)).set m (some y)) vs = wipe σ vs)
    (ht : ∀ (i : Nat) (x : V) H1, Ex H H1 → xs[i]? = some x → EvT t (((wipe σ vs).set n (some (.int (i : Int)))).set m (some x)) H1 (f i))
    (he : ∀ (i : Nat) (x : V) H1, Ex H H1 → xs[i]? = some x → f i = true → Ev te (((wipe σ vs).set n (some (.int (i : Int)))).set m (some x)) H1 (v i)) :
    EvL (tLc (iEnum K ta) (gTup K 2 (gCons (gName n) (gCons (gName m) gNil))) t te vs) σ H (given xs.length f v) := fun H0 e Q q => h H0 e _ fun H1 e1 =>
  ⟨a, xs, rfl, ex_l (e.trans e1) hx, fun Dl hD =>
    ⟨fun i k Hi => k = xs.length - i ∧ i ≤ xs.length ∧ Cw H1 f v Dl i Hi, ⟨xs.length, rfl, Nat.zero_le _, hD, Ex.new hD, upd_same⟩, by
      rintro i k Hi ⟨rfl, hi, p⟩
      have qx := ex_l ((e.trans e1).trans p.2.1) hx
      by_cases hlt : i < xs.length
      · refine .inr ⟨⟨xs, _, qx, List.getElem?_eq_getElem hlt⟩, Cw H1 f v Dl (i + 1), fun H' p' => ⟨xs.length - (i + 1), by omega, rfl, hlt, p'⟩, fun u Hu yy => ?_⟩
        obtain ⟨T, x', rfl, hT, rfl, f1⟩ := yy
        have gx := f1 xs qx
        have hTD : T ≠ Dl := fun z => by
          rw [z, p.2.2] at hT
          cases hT
        have p2 : Cw H1 f v Dl i (upd Hi T (.tup [.int (i : Int), x'])) := ⟨p.1, p.2.1.trans (Ex.new hT), by rw [upd_ne hTD.symm]; exact p.2.2⟩
        exact ⟨T, [.int (i : Int), x'], rfl, st_of upd_same, rfl, .int (i : Int), [x'], rfl, x', [], rfl, rfl, hw _ _, cw_turn p2 (by omega) (ht i x' H1 (e.trans e1) gx) (he i x' H1 (e.trans e1) gx)⟩
      · have ei : i = xs.length := by omega
        subst ei
        exact .inl ⟨⟨xs, qx, Nat.le_refl _⟩, q Dl Hi (fresh_back e1 p.1) (e1.trans p.2.1) p.2.2⟩⟩⟩
/-- a dict of tuples, made over a range -/
theorem q_dcR {ta : TA} {n : Int} {j i0 : Nat} {vs : List Nat} {r : List Int} (h : EvA ta σ H [.int n]) (hn : 0 ≤ n ∧ n ≤ 40000) (hw : ∀ x, wipe ((wipe σ vs).set j (some x)) vs = wipe σ vs)
    (hk : ∀ (i : Nat) H1, Ex H H1 → Ev tk ((wipe σ vs).set j (some (.int (i : Int)))) H1 (.int (i : Int))) (hv : ∀ (i : Nat) H1, Ex H H1 → EvTu K tv ((wipe σ vs).set j (some (.int (i : Int)))) H1 r)
    (k : ∀ Dd kvs H1, H Dd = none → Ex H H1 → H1 Dd = some (.dK kvs) → kvs.length ≤ n.toNat → (∀ p : Nat, (p : Int) < n → ∃ t, valV kvs (.inl (p : Int) : Key) = some (.ref t) ∧ SqT K H1 t (r.map V.int)) → tz D (σ.set i0 (some (.ref Dd))) H1) :
    tSeq (tAsg (tDc (iRng1 ta) (gName j) tYes tk tv vs) (gName i0)) tz D σ H := h H (Ex.refl H) _ fun H1 e1 => ⟨n, rfl, by omega, by omega, fun Dl hD =>
  ⟨fun i m Hi => m = n.toNat - i ∧ i ≤ n.toNat ∧ Ex H1 Hi ∧ ∃ kvs, Hi Dl = some (.dK kvs) ∧ kvs.length ≤ i ∧ ∀ p : Nat, p < i → ∃ t, valV kvs (.inl (p : Int) : Key) = some (.ref t) ∧ SqT K Hi t (r.map V.int), ⟨n.toNat, rfl, Nat.zero_le _, Ex.new hD, [], upd_same, Nat.le_refl _, fun p hp => by omega⟩, by
    rintro i m Hi ⟨rfl, hi, E, kvs, hk0, hl, hp⟩
    by_cases hlt : i < n.toNat
    · refine .inr ⟨hlt, fun H' => Ex H1 H' ∧ ∃ kvs, H' Dl = some (.dK kvs) ∧ kvs.length ≤ i + 1 ∧ ∀ p : Nat, p < i + 1 → ∃ t, valV kvs (.inl (p : Int) : Key) = some (.ref t) ∧ SqT K H' t (r.map V.int), fun H' p' => ⟨n.toNat - (i + 1), by omega, rfl, hlt, p'⟩, fun u Hu yy => ?_⟩
      obtain ⟨rfl, rfl⟩ := yy
      have e0 : (0 : Int) + (i : Int) = (i : Int) := Int.zero_add _
      rw [e0]
      refine ⟨hw _, ?_⟩
      show tk ((wipe σ vs).set j (some (.int (i : Int)))) Hu fun y H4 => tv ((wipe σ vs).set j (some (.int (i : Int)))) H4 fun z H5 => ∃ kvs k, y = kV k ∧ H5 Dl = some (.dK kvs) ∧ kvs.length < sizeLine ∧ (Ex H1 (upd H5 Dl (.dK (putK kvs k z))) ∧ ∃ kvs', (upd H5 Dl (.dK (putK kvs k z))) Dl = some (.dK kvs') ∧ kvs'.length ≤ i + 1 ∧ ∀ p : Nat, p < i + 1 → ∃ t, valV kvs' (.inl (p : Int) : Key) = some (.ref t) ∧ SqT K (upd H5 Dl (.dK (putK kvs k z))) t (r.map V.int))
      refine hk i H1 e1 Hu E _ fun H4 e4 => hv i H1 e1 H4 (E.trans e4) _ fun v H5 e5 ⟨t, ht, hs⟩ => ?_
      have hk5 := (e4.trans e5) _ _ hk0
      refine ⟨kvs, (.inl (i : Int) : Key), rfl, hk5, sz_lt (by omega), ((E.trans e4).trans e5).mut hD, putK kvs (.inl (i : Int) : Key) v, upd_same, ?_, fun p hp' => ?_⟩
      · have := length_putK kvs (.inl (i : Int) : Key) v
        omega
      · rw [valV_put]
        by_cases hpi : p = i
        · subst hpi
          exact ⟨t, by rw [if_pos rfl, ht], sqt_keep hk5 (by simp) (by simp) hs⟩
        · obtain ⟨t', h1, h2⟩ := hp p (by omega)
          exact ⟨t', by rw [if_neg (by intro z; injection z with z; omega)]; exact h1, sqt_keep hk5 (by simp) (by simp) (ex_t (e4.trans e5) h2)⟩
    · have ei : i = n.toNat := by omega
      subst ei
      exact .inl ⟨Nat.le_refl _, k Dl kvs Hi (fresh_back e1 hD) (e1.trans E) hk0 hl fun p hp' => hp p (by omega)⟩⟩⟩
end
end My
namespace My
open PySem PySem.Spec PyProof.Rows L2 Evl
section
variable {K : PySem.W.Frag} {σ : L2.St} {H H' : Hp} {ta : TA} {D : Ends} {tu tz : TS}
/-- for i in range(lo, hi, -1), behind it a word B -/
theorem q_forDn {lo hi : Int} {j n : Nat} (h : EvA ta σ H [.int lo, .int hi, .int (-1)]) (hb0 : -(2 ^ 62) ≤ lo ∧ lo < 2 ^ 62 ∧ -(2 ^ 62) ≤ hi ∧ hi < 2 ^ 62) (hn : (lo - hi).toNat = n) (Pv : Nat → L2.St → Hp → Prop) (B : L2.St → Hp → Prop) (h0 : ∀ H1, Ex H H1 → Pv 0 σ H1)
    (hs : ∀ (i : Nat) σ' H', i < n → Pv i σ' H' → tu { D with nx := Pv (i + 1), ct := Pv (i + 1), bk := B } (σ'.set j (some (.int (lo - (i : Int))))) H') (hd : ∀ σ' H', Pv n σ' H' → B σ' H') (hb : ∀ σ' H', B σ' H' → tz D σ' H') : tCut (tFor (iRng3 ta) (gName j) tu) tz D σ H :=
  ⟨B, h H (Ex.refl H) _ fun H1 e1 => ⟨lo, hi, -1, n, rfl, hn ▸ RgC.neg hb0.1 hb0.2.1 hb0.2.2.1 hb0.2.2.2, fun i m σ' H' => m = n - i ∧ i ≤ n ∧ Pv i σ' H', ⟨n, rfl, Nat.zero_le _, h0 H1 e1⟩, by
    rintro i m σ' H' ⟨rfl, hi, p⟩
    by_cases hlt : i < n
    · refine .inr ⟨hlt, Pv (i + 1), fun σ2 H2 p' => ⟨n - (i + 1), by omega, rfl, hlt, p'⟩, ?_⟩
      rintro x H2 ⟨rfl, rfl⟩
      have hx : V.int (lo + (i : Int) * -1) = V.int (lo - (i : Int)) := by congr 1; omega
      show tu _ (σ'.set j (some (V.int (lo + (i : Int) * -1)))) H2
      rw [hx]
      exact hs i σ' H2 hlt p
    · have : i = n := by omega
      subst this
      exact .inl ⟨Nat.le_refl _, hd σ' H' p⟩⟩, hb⟩
end
end My
namespace My
open PySem PySem.Spec PyProof.Rows L2 Evl
section
variable {K : PySem.W.Frag} {σ : L2.St} {H H' : Hp} {ta : TA} {D : Ends} {te tb td ty tv : TE} {tu tw tz : TS} {g : TG}
theorem et_tru {p : Addr} {xs : List V} (h : Ev te σ H (.ref p)) (hs : SqL K H p xs) : EvT (tTru K te) σ H (!xs.isEmpty) := fun H1 e Q q => h H1 e _ fun H2 e2 => ⟨!xs.isEmpty, .inl ⟨xs, ex_l (e.trans e2) hs, rfl⟩, q H2 e2⟩
theorem dpa_ints_inv : ∀ {xs : List V} {ns : List Int}, DpAll K H xs (ns.map PyData.int) → xs = ns.map V.int
  | [], [], _ => rfl
  | _ :: _, _ :: _, .cons h t => by
    obtain rfl := dp_int h
    rw [dpa_ints_inv t]
    rfl
theorem dp_tu {v : V} {r : List Int} (h : Dp K H v (tupD r)) : ∃ t, v = .ref t ∧ SqT K H t (r.map V.int) := by
  obtain ⟨t, xs, rfl, h1, h2⟩ := dp_tup h
  obtain rfl := dpa_ints_inv h2
  exact ⟨t, rfl, h1⟩
theorem evd_tu {r : List Int} (h : EvD K te σ H (tupD r)) : EvTu K te σ H r := fun H1 e Q q => h H1 e Q fun v H2 e2 hd => q v H2 e2 (dp_tu hd)
/-- d[p], a tuple -/
theorem etu_dget {d t : Addr} {kvs : List (Key × V)} {p : Int} {r : List Int} (hd : Ev td σ H (.ref d)) (hk : Ev ty σ H (.int p)) (h : H d = some (.dK kvs)) (hv : valV kvs (.inl p : Key) = some (.ref t)) (hs : SqT K H t (r.map V.int)) : EvTu K (tDGet td ty) σ H r := fun H1 e Q q =>
  hd H1 e _ fun H2 e2 => hk H2 (e.trans e2) _ fun H3 e3 => ⟨d, .ref t, rfl, .inl ⟨kvs, .inl p, .inl (((e.trans e2).trans e3) _ _ h), rfl, hv.symm⟩, q _ H3 (e2.trans e3) ⟨t, rfl, ex_t ((e.trans e2).trans e3) hs⟩⟩
theorem s_dputU {d : Addr} {kvs : List (Key × V)} {p : Int} {zs : List V} (hv : EvU tv σ H zs) (hd : Ev td σ H (.ref d)) (hk : Ev ty σ H (.int p)) (h : H d = some (.dK kvs)) (hl : kvs.length < 100000)
    (k : ∀ t H1, Ex H H1 → H1 t = some (.tup zs) → D.nx σ (upd H1 d (.dK (putK kvs (.inl p : Key) (.ref t))))) : sDPut td ty tv D σ H :=
  hv H (Ex.refl H) _ fun t H1 _ e1 h1 => hd H1 e1 _ fun H2 e2 => hk H2 (e1.trans e2) _ fun H3 e3 => ⟨d, _, rfl, .inl ⟨kvs, .inl p, ((e1.trans e2).trans e3) _ _ h, rfl, sz_lt hl, rfl⟩, k t H3 ((e1.trans e2).trans e3) ((e2.trans e3) _ _ h1)⟩
/-- for over enumerate(a list), with an else; behind it a word B -/
theorem q_forEE {a : Addr} {xs : List V} (h : EvA ta σ H [.ref a]) (hx : SqL K H a xs) (Pv : Nat → L2.St → Hp → Prop) (B : L2.St → Hp → Prop) (h0 : ∀ H1, Ex H H1 → Pv 0 σ H1) (hl : ∀ i σ' H', Pv i σ' H' → SqL K H' a xs)
    (hs : ∀ (i : Nat) (x : V) (T : Addr) σ' H', xs[i]? = some x → Pv i σ' H' → H' T = none → g (.ref T) σ' (upd H' T (.tup [.int (i : Int), x])) fun σ2 H2 => tu { D with nx := Pv (i + 1), ct := Pv (i + 1), bk := B } σ2 H2)
    (hd : ∀ σ' H', Pv xs.length σ' H' → tw { D with nx := B } σ' H') (hb : ∀ σ' H', B σ' H' → tz D σ' H') : tCut (tForE (iEnum K ta) g tu tw) tz D σ H :=
  ⟨B, h H (Ex.refl H) _ fun H1 e1 => ⟨a, xs, rfl, ex_l e1 hx, fun i m σ' H' => m = xs.length - i ∧ i ≤ xs.length ∧ Pv i σ' H', ⟨xs.length, rfl, Nat.zero_le _, h0 H1 e1⟩, by
    rintro i m σ' H' ⟨rfl, hi, p⟩
    have qx := hl i σ' H' p
    by_cases hlt : i < xs.length
    · refine .inr ⟨⟨xs, _, qx, List.getElem?_eq_getElem hlt⟩, Pv (i + 1), fun σ2 H2 p' => ⟨xs.length - (i + 1), by omega, rfl, hlt, p'⟩, ?_⟩
      rintro v H2 ⟨T, x, rfl, hT, rfl, f1⟩
      exact hs i x T σ' H' (f1 xs qx) p hT
    · have : i = xs.length := by omega
      subst this
      exact .inl ⟨⟨xs, qx, Nat.le_refl _⟩, hd σ' H' p⟩⟩, hb⟩
end
end My

namespace My
open PySem PySem.Spec PyProof.Rows L2 Evl
theorem libH : True := trivial
end My

namespace Law
open PySem PySem.Spec PyProof.Rows L2 Evl My
def top (i : Nat) : Stmt := PySem.Challenge.pw_lentpages_k54_whole_bags_and_lies.main.body.getD i (.Pass ⟨0, 0, 0, 0⟩)
abbrev s_left_tuples : Stmt := top 1
abbrev s_found_tuples : Stmt := top 2
abbrev s_bags_agree : Stmt := top 3
abbrev s_first_lie : Stmt := top 4
abbrev s_is_first_lie : Stmt := top 5
abbrev s_last_left : Stmt := top 6
abbrev s_l_number : Stmt := top 8
abbrev s_l_is_whole : Stmt := top 9
abbrev s_l_same : Stmt := top 10
abbrev s_l_ledger_left : Stmt := top 11
abbrev s_l_ledger_swap : Stmt := top 12
abbrev s_l_ledger_spoil : Stmt := top 13
abbrev s_l_ledger_build : Stmt := top 14
abbrev s_l_ledger_lie : Stmt := top 15
abbrev s_l_ledger_bags : Stmt := top 16
abbrev s_l_ledger_sweep : Stmt := top 17
abbrev s_l_ledger_asked : Stmt := top 18
abbrev s_law : Stmt := top 19
def dd_left_tuples : He.DefD := ⟨("left_tuples", none), "left_tuples", "left_tuples", defArgs s_left_tuples, defBody s_left_tuples, defScope s_left_tuples, [], []⟩
def dd_found_tuples : He.DefD := ⟨("found_tuples", none), "found_tuples", "found_tuples", defArgs s_found_tuples, defBody s_found_tuples, defScope s_found_tuples, [], []⟩
def dd_bags_agree : He.DefD := ⟨("bags_agree", none), "bags_agree", "bags_agree", defArgs s_bags_agree, defBody s_bags_agree, defScope s_bags_agree, [], []⟩
def dd_first_lie : He.DefD := ⟨("first_lie", none), "first_lie", "first_lie", defArgs s_first_lie, defBody s_first_lie, defScope s_first_lie, [], []⟩
def dd_is_first_lie : He.DefD := ⟨("is_first_lie", none), "is_first_lie", "is_first_lie", defArgs s_is_first_lie, defBody s_is_first_lie, defScope s_is_first_lie, [], []⟩
def dd_last_left : He.DefD := ⟨("last_left", none), "last_left", "last_left", defArgs s_last_left, defBody s_last_left, defScope s_last_left, [], []⟩
def dd_l_number : He.DefD := ⟨("_law_number", none), "_law_number", "_law_number", defArgs s_l_number, defBody s_l_number, defScope s_l_number, [], []⟩
def dd_l_is_whole : He.DefD := ⟨("_law_is_whole", none), "_law_is_whole", "_law_is_whole", defArgs s_l_is_whole, defBody s_l_is_whole, defScope s_l_is_whole, [], []⟩
def dd_l_same : He.DefD := ⟨("_law_same", none), "_law_same", "_law_same", defArgs s_l_same, defBody s_l_same, defScope s_l_same, [], []⟩
def dd_l_ledger_left : He.DefD := ⟨("_law_ledger_left", none), "_law_ledger_left", "_law_ledger_left", defArgs s_l_ledger_left, defBody s_l_ledger_left, defScope s_l_ledger_left, [], []⟩
def dd_l_ledger_swap : He.DefD := ⟨("_law_ledger_swap", none), "_law_ledger_swap", "_law_ledger_swap", defArgs s_l_ledger_swap, defBody s_l_ledger_swap, defScope s_l_ledger_swap, [], []⟩
def dd_l_ledger_spoil : He.DefD := ⟨("_law_ledger_spoil", none), "_law_ledger_spoil", "_law_ledger_spoil", defArgs s_l_ledger_spoil, defBody s_l_ledger_spoil, defScope s_l_ledger_spoil, [], []⟩
def dd_l_ledger_build : He.DefD := ⟨("_law_ledger_build", none), "_law_ledger_build", "_law_ledger_build", defArgs s_l_ledger_build, defBody s_l_ledger_build, defScope s_l_ledger_build, [], []⟩
def dd_l_ledger_lie : He.DefD := ⟨("_law_ledger_lie", none), "_law_ledger_lie", "_law_ledger_lie", defArgs s_l_ledger_lie, defBody s_l_ledger_lie, defScope s_l_ledger_lie, [], []⟩
def dd_l_ledger_bags : He.DefD := ⟨("_law_ledger_bags", none), "_law_ledger_bags", "_law_ledger_bags", defArgs s_l_ledger_bags, defBody s_l_ledger_bags, defScope s_l_ledger_bags, [], []⟩
def dd_l_ledger_sweep : He.DefD := ⟨("_law_ledger_sweep", none), "_law_ledger_sweep", "_law_ledger_sweep", defArgs s_l_ledger_sweep, defBody s_l_ledger_sweep, defScope s_l_ledger_sweep, [], []⟩
def dd_l_ledger_asked : He.DefD := ⟨("_law_ledger_asked", none), "_law_ledger_asked", "_law_ledger_asked", defArgs s_l_ledger_asked, defBody s_l_ledger_asked, defScope s_l_ledger_asked, [], []⟩
def dd_law : He.DefD := ⟨("law", none), "law", "law", defArgs s_law, defBody s_law, defScope s_law, [], []⟩
def fns : List He.DefD := [dd_left_tuples, dd_found_tuples, dd_bags_agree, dd_first_lie, dd_is_first_lie, dd_last_left, dd_l_number, dd_l_is_whole, dd_l_same, dd_l_ledger_left, dd_l_ledger_swap, dd_l_ledger_spoil, dd_l_ledger_build, dd_l_ledger_lie, dd_l_ledger_bags, dd_l_ledger_sweep, dd_l_ledger_asked, dd_law]
def fas : List He.Fa := [.free "range", .free "enumerate", .free "sorted", .free "len", .free "abs", .free "int", .free "isinstance", .free "bool", .free "str", .free "list", .free "tuple", .free "min", .glo "left_tuples", .glo "found_tuples", .glo "bags_agree", .glo "first_lie", .glo "is_first_lie", .glo "last_left", .glo "_law_number", .glo "_law_is_whole", .glo "_law_same", .glo "_law_ledger_left", .glo "_law_ledger_swap", .glo "_law_ledger_spoil", .glo "_law_ledger_build", .glo "_law_ledger_lie", .glo "_law_ledger_bags", .glo "_law_ledger_sweep", .glo "_law_ledger_asked", .glo "law"]
abbrev TX (K : PySem.W.Frag) (mg : Str → Option Value) : Prop := My.Tx fas fns K mg
section
variable {K : PySem.W.Frag} {mg : Str → Option Value}
theorem fr_range (T : TX K mg) : mg "range" = none := T.fre "range" (T.says.fact 0 rfl)
theorem fr_enumerate (T : TX K mg) : mg "enumerate" = none := T.fre "enumerate" (T.says.fact 1 rfl)
theorem fr_sorted (T : TX K mg) : mg "sorted" = none := T.fre "sorted" (T.says.fact 2 rfl)
theorem fr_len (T : TX K mg) : mg "len" = none := T.fre "len" (T.says.fact 3 rfl)
theorem fr_abs (T : TX K mg) : mg "abs" = none := T.fre "abs" (T.says.fact 4 rfl)
theorem fr_int (T : TX K mg) : mg "int" = none := T.fre "int" (T.says.fact 5 rfl)
theorem fr_isinstance (T : TX K mg) : mg "isinstance" = none := T.fre "isinstance" (T.says.fact 6 rfl)
theorem fr_bool (T : TX K mg) : mg "bool" = none := T.fre "bool" (T.says.fact 7 rfl)
theorem fr_str (T : TX K mg) : mg "str" = none := T.fre "str" (T.says.fact 8 rfl)
theorem fr_list (T : TX K mg) : mg "list" = none := T.fre "list" (T.says.fact 9 rfl)
theorem fr_tuple (T : TX K mg) : mg "tuple" = none := T.fre "tuple" (T.says.fact 10 rfl)
theorem fr_min (T : TX K mg) : mg "min" = none := T.fre "min" (T.says.fact 11 rfl)
theorem gl_left_tuples (T : TX K mg) : mg "left_tuples" = some (.ref (He.ga K "left_tuples")) := T.glo "left_tuples" (T.says.fact 12 rfl)
theorem gl_found_tuples (T : TX K mg) : mg "found_tuples" = some (.ref (He.ga K "found_tuples")) := T.glo "found_tuples" (T.says.fact 13 rfl)
theorem gl_bags_agree (T : TX K mg) : mg "bags_agree" = some (.ref (He.ga K "bags_agree")) := T.glo "bags_agree" (T.says.fact 14 rfl)
theorem gl_first_lie (T : TX K mg) : mg "first_lie" = some (.ref (He.ga K "first_lie")) := T.glo "first_lie" (T.says.fact 15 rfl)
theorem gl_is_first_lie (T : TX K mg) : mg "is_first_lie" = some (.ref (He.ga K "is_first_lie")) := T.glo "is_first_lie" (T.says.fact 16 rfl)
theorem gl_last_left (T : TX K mg) : mg "last_left" = some (.ref (He.ga K "last_left")) := T.glo "last_left" (T.says.fact 17 rfl)
theorem gl_l_number (T : TX K mg) : mg "_law_number" = some (.ref (He.ga K "_law_number")) := T.glo "_law_number" (T.says.fact 18 rfl)
theorem gl_l_is_whole (T : TX K mg) : mg "_law_is_whole" = some (.ref (He.ga K "_law_is_whole")) := T.glo "_law_is_whole" (T.says.fact 19 rfl)
theorem gl_l_same (T : TX K mg) : mg "_law_same" = some (.ref (He.ga K "_law_same")) := T.glo "_law_same" (T.says.fact 20 rfl)
theorem gl_l_ledger_left (T : TX K mg) : mg "_law_ledger_left" = some (.ref (He.ga K "_law_ledger_left")) := T.glo "_law_ledger_left" (T.says.fact 21 rfl)
theorem gl_l_ledger_swap (T : TX K mg) : mg "_law_ledger_swap" = some (.ref (He.ga K "_law_ledger_swap")) := T.glo "_law_ledger_swap" (T.says.fact 22 rfl)
theorem gl_l_ledger_spoil (T : TX K mg) : mg "_law_ledger_spoil" = some (.ref (He.ga K "_law_ledger_spoil")) := T.glo "_law_ledger_spoil" (T.says.fact 23 rfl)
theorem gl_l_ledger_build (T : TX K mg) : mg "_law_ledger_build" = some (.ref (He.ga K "_law_ledger_build")) := T.glo "_law_ledger_build" (T.says.fact 24 rfl)
theorem gl_l_ledger_lie (T : TX K mg) : mg "_law_ledger_lie" = some (.ref (He.ga K "_law_ledger_lie")) := T.glo "_law_ledger_lie" (T.says.fact 25 rfl)
theorem gl_l_ledger_bags (T : TX K mg) : mg "_law_ledger_bags" = some (.ref (He.ga K "_law_ledger_bags")) := T.glo "_law_ledger_bags" (T.says.fact 26 rfl)
theorem gl_l_ledger_sweep (T : TX K mg) : mg "_law_ledger_sweep" = some (.ref (He.ga K "_law_ledger_sweep")) := T.glo "_law_ledger_sweep" (T.says.fact 27 rfl)
theorem gl_l_ledger_asked (T : TX K mg) : mg "_law_ledger_asked" = some (.ref (He.ga K "_law_ledger_asked")) := T.glo "_law_ledger_asked" (T.says.fact 28 rfl)
theorem gl_law (T : TX K mg) : mg "law" = some (.ref (He.ga K "law")) := T.glo "law" (T.says.fact 29 rfl)
theorem fd_left_tuples (T : TX K mg) : ∃ fd, FunD K "left_tuples" "left_tuples" (defArgs s_left_tuples) (defBody s_left_tuples) (defScope s_left_tuples) [] [] (He.ga K "left_tuples") fd := T.says.def_ 0 (d := dd_left_tuples) rfl
theorem fd_found_tuples (T : TX K mg) : ∃ fd, FunD K "found_tuples" "found_tuples" (defArgs s_found_tuples) (defBody s_found_tuples) (defScope s_found_tuples) [] [] (He.ga K "found_tuples") fd := T.says.def_ 1 (d := dd_found_tuples) rfl
theorem fd_bags_agree (T : TX K mg) : ∃ fd, FunD K "bags_agree" "bags_agree" (defArgs s_bags_agree) (defBody s_bags_agree) (defScope s_bags_agree) [] [] (He.ga K "bags_agree") fd := T.says.def_ 2 (d := dd_bags_agree) rfl
theorem fd_first_lie (T : TX K mg) : ∃ fd, FunD K "first_lie" "first_lie" (defArgs s_first_lie) (defBody s_first_lie) (defScope s_first_lie) [] [] (He.ga K "first_lie") fd := T.says.def_ 3 (d := dd_first_lie) rfl
theorem fd_is_first_lie (T : TX K mg) : ∃ fd, FunD K "is_first_lie" "is_first_lie" (defArgs s_is_first_lie) (defBody s_is_first_lie) (defScope s_is_first_lie) [] [] (He.ga K "is_first_lie") fd := T.says.def_ 4 (d := dd_is_first_lie) rfl
theorem fd_last_left (T : TX K mg) : ∃ fd, FunD K "last_left" "last_left" (defArgs s_last_left) (defBody s_last_left) (defScope s_last_left) [] [] (He.ga K "last_left") fd := T.says.def_ 5 (d := dd_last_left) rfl
theorem fd_l_number (T : TX K mg) : ∃ fd, FunD K "_law_number" "_law_number" (defArgs s_l_number) (defBody s_l_number) (defScope s_l_number) [] [] (He.ga K "_law_number") fd := T.says.def_ 6 (d := dd_l_number) rfl
theorem fd_l_is_whole (T : TX K mg) : ∃ fd, FunD K "_law_is_whole" "_law_is_whole" (defArgs s_l_is_whole) (defBody s_l_is_whole) (defScope s_l_is_whole) [] [] (He.ga K "_law_is_whole") fd := T.says.def_ 7 (d := dd_l_is_whole) rfl
theorem fd_l_same (T : TX K mg) : ∃ fd, FunD K "_law_same" "_law_same" (defArgs s_l_same) (defBody s_l_same) (defScope s_l_same) [] [] (He.ga K "_law_same") fd := T.says.def_ 8 (d := dd_l_same) rfl
theorem fd_l_ledger_left (T : TX K mg) : ∃ fd, FunD K "_law_ledger_left" "_law_ledger_left" (defArgs s_l_ledger_left) (defBody s_l_ledger_left) (defScope s_l_ledger_left) [] [] (He.ga K "_law_ledger_left") fd := T.says.def_ 9 (d := dd_l_ledger_left) rfl
theorem fd_l_ledger_swap (T : TX K mg) : ∃ fd, FunD K "_law_ledger_swap" "_law_ledger_swap" (defArgs s_l_ledger_swap) (defBody s_l_ledger_swap) (defScope s_l_ledger_swap) [] [] (He.ga K "_law_ledger_swap") fd := T.says.def_ 10 (d := dd_l_ledger_swap) rfl
theorem fd_l_ledger_spoil (T : TX K mg) : ∃ fd, FunD K "_law_ledger_spoil" "_law_ledger_spoil" (defArgs s_l_ledger_spoil) (defBody s_l_ledger_spoil) (defScope s_l_ledger_spoil) [] [] (He.ga K "_law_ledger_spoil") fd := T.says.def_ 11 (d := dd_l_ledger_spoil) rfl
theorem fd_l_ledger_build (T : TX K mg) : ∃ fd, FunD K "_law_ledger_build" "_law_ledger_build" (defArgs s_l_ledger_build) (defBody s_l_ledger_build) (defScope s_l_ledger_build) [] [] (He.ga K "_law_ledger_build") fd := T.says.def_ 12 (d := dd_l_ledger_build) rfl
theorem fd_l_ledger_lie (T : TX K mg) : ∃ fd, FunD K "_law_ledger_lie" "_law_ledger_lie" (defArgs s_l_ledger_lie) (defBody s_l_ledger_lie) (defScope s_l_ledger_lie) [] [] (He.ga K "_law_ledger_lie") fd := T.says.def_ 13 (d := dd_l_ledger_lie) rfl
theorem fd_l_ledger_bags (T : TX K mg) : ∃ fd, FunD K "_law_ledger_bags" "_law_ledger_bags" (defArgs s_l_ledger_bags) (defBody s_l_ledger_bags) (defScope s_l_ledger_bags) [] [] (He.ga K "_law_ledger_bags") fd := T.says.def_ 14 (d := dd_l_ledger_bags) rfl
theorem fd_l_ledger_sweep (T : TX K mg) : ∃ fd, FunD K "_law_ledger_sweep" "_law_ledger_sweep" (defArgs s_l_ledger_sweep) (defBody s_l_ledger_sweep) (defScope s_l_ledger_sweep) [] [] (He.ga K "_law_ledger_sweep") fd := T.says.def_ 15 (d := dd_l_ledger_sweep) rfl
theorem fd_l_ledger_asked (T : TX K mg) : ∃ fd, FunD K "_law_ledger_asked" "_law_ledger_asked" (defArgs s_l_ledger_asked) (defBody s_l_ledger_asked) (defScope s_l_ledger_asked) [] [] (He.ga K "_law_ledger_asked") fd := T.says.def_ 16 (d := dd_l_ledger_asked) rfl
theorem fd_law (T : TX K mg) : ∃ fd, FunD K "law" "law" (defArgs s_law) (defBody s_law) (defScope s_law) [] [] (He.ga K "law") fd := T.says.def_ 17 (d := dd_law) rfl
end
/-! ### _law_number -/
def lnIt : Nat → Int → Int
  | 0, r => r
  | n + 1, r => lnIt n r / 1000
theorem lnIt_zero {n : Nat} {r : Int} (h : lnIt n r = 0) : ∀ m, n ≤ m → lnIt m r = 0 := fun m l => by
  induction l with
  | refl => exact h
  | step _ ih =>
    show lnIt _ r / 1000 = 0
    rw [ih]
    rfl
theorem lnIt_nn {r : Int} (h : 0 ≤ r) : ∀ n, 0 ≤ lnIt n r
  | 0 => h
  | n + 1 => by
    have := lnIt_nn h n
    show 0 ≤ lnIt n r / 1000
    omega
def lnAbs (i : Int) : Int := if i < 0 then -i else i
def lnCell (ns : List Int) (a : Int) : Int := if ns.length = 0 then 0 else lnAbs (ns.getD (a % (ns.length : Int)).toNat 0)
def lnTurn (ns : List Int) (a : Int) : Int := if ns.length = 0 then a else a / (ns.length : Int)
def lnEnd (m p sz : Int) : Int :=
  let m1 := (m + 7919 * p + 13) % 2147483647
  let m2 := (m1 * (m1 + 48271)) % 2147483629
  let m3 := (m2 * (m2 + 69621) + 31 * p) % 2147483647
  (m3 / 9) % sz
@[irreducible] def lawNum (ns : List Int) (a k sz : Int) : Int :=
  if 10 ^ 18 ≤ lnCell ns a ∧ 0 < lnIt (k + 16 * lnTurn ns a).toNat (lnCell ns a / 10 ^ 18) then (lnIt (k + 16 * lnTurn ns a).toNat (lnCell ns a / 10 ^ 18) % 1000) % sz
  else lnEnd (lnCell ns a) (k + 16 * lnTurn ns a) sz
theorem lawNum_nn (ns : List Int) (a k sz : Int) (h : 0 < sz) : 0 ≤ lawNum ns a k sz := by
  unfold lawNum lnEnd
  split <;> exact Int.emod_nonneg _ (by omega)
theorem lawNum_lt (ns : List Int) (a k sz : Int) (h : 0 < sz) : lawNum ns a k sz < sz := by
  unfold lawNum lnEnd
  split <;> exact Int.emod_lt_of_pos _ h
def NumOk (a k sz : Int) : Prop := -1000000 ≤ a ∧ a ≤ 1000000 ∧ -1000000 ≤ k ∧ k ≤ 1000000 ∧ 0 < sz
def spNum (K : PySem.W.Frag) : Sp := fun vs H Q _ => ∃ (s : Addr) (ns : List Int) (a k sz : Int), vs = [.ref s, .int a, .int k, .int sz] ∧ SqL K H s (ns.map V.int) ∧ ns.length ≤ 63 ∧ NumOk a k sz ∧ RetV (.int (lawNum ns a k sz)) H Q
theorem sv_num {K : PySem.W.Frag} {H : Hp} {s : Addr} {ns : List Int} {a k sz : Int} (h : SqL K H s (ns.map V.int)) (hl : ns.length ≤ 63) (ok : NumOk a k sz) : SpV (spNum K) [.ref s, .int a, .int k, .int sz] H (.int (lawNum ns a k sz)) :=
  fun H1 e Q q E => ⟨s, ns, a, k, sz, rfl, ex_l e h, hl, ok, q⟩
section
variable {P : Program} {w : World} {K : PySem.W.Frag} {mg : Str → Option Value} {base : Heap}
theorem ev_cellAt {ns : List Int} {s : Addr} {σ : L2.St} {H : Hp} {ta tb : TE} {i : Int} (ha : Ev ta σ H (.ref s)) (hb : Ev tb σ H (.int i)) (h : SqL K H s (ns.map V.int)) (h0 : 0 ≤ i) (h1 : i < (ns.length : Int)) : Ev (tOp (rIxL K) ta tb) σ H (.int (ns.getD i.toNat 0)) := by
  have e : ((i.toNat : Nat) : Int) = i := Int.toNat_of_nonneg h0
  have l : i.toNat < ns.length := by omega
  refine ev_op ha hb (rv_ixL h ?_)
  rw [← e]
  refine atI_nat ?_
  rw [Int.toNat_natCast, List.getElem?_map, List.getElem?_eq_getElem l, List.getD_eq_getElem?_getD, List.getElem?_eq_getElem l]
  rfl
theorem sc_l_number : FnScope ["_law_script", "_law_at", "_law_k", "_law_size", "_law_cell", "_law_turn", "_law_pick", "_law_rest", "_law_step", "_law_mixed"] ["_law_script", "_law_at", "_law_k", "_law_size"] (defScope s_l_number) := ⟨rfl, rfl, rfl, by decide +kernel, rfl, by decide +kernel, by decide +kernel⟩
theorem fn_l_number (T : TX K mg) : ∃ fd, FunD K "_law_number" "_law_number" (defArgs s_l_number) (defBody s_l_number) (defScope s_l_number) [] [] (He.ga K "_law_number") fd ∧ FnOk P w K mg base CX0 (1) (He.ga K "_law_number") fd ["_law_script", "_law_at", "_law_k", "_law_size"] (spNum K) := by
  obtain ⟨fd, F⟩ := fd_l_number T
  refine ⟨fd, F, My.FunD.ok0 F sc_l_number (fun vs H Q E h => ?_) (fun cdv A outer s0 H vs Q E hr h => ?_)⟩
  · obtain ⟨s, ns, a, k, sz, rfl, hS, hl, ok, hQ⟩ := h
    rfl
  obtain ⟨s, ns, a, k, sz, rfl, hS, hl, ok, hQ⟩ := h
  have hu := hu_of hr
  refine ⟨_, (pss_cons (ps_set (i := 4) sc_l_number.nd rfl (Or.inl rfl) pe_int)
      (pss_cons (ps_set (i := 5) sc_l_number.nd rfl (Or.inl rfl) (pv 1))
      (pss_cut (ps_if (pt_cmpR op_gt (pe_callB (lenQ K) (by rfl) (fr_len T) PySem.boot_len (pa_cons (pv 0) pa_nil)) pe_int (nomark _)) (pss_cons (ps_set (i := 4) sc_l_number.nd rfl (Or.inl rfl) (pe_callB call_abs (by rfl) (fr_abs T) (by decide +kernel) (pa_cons (pe_ix (ixL K) (pv 0) (pe_op op_mod (pe_callTy call_int1 (by rfl) (fr_int T) (by decide +kernel) (pa_cons (pv 1) pa_nil)) (pe_callB (lenQ K) (by rfl) (fr_len T) PySem.boot_len (pa_cons (pv 0) pa_nil))) (fun _ _ => rfl)) pa_nil)))
      (pss_one (ps_set (i := 5) sc_l_number.nd rfl (Or.inl rfl) (pe_op op_fdiv (pv 1) (pe_callB (lenQ K) (by rfl) (fr_len T) PySem.boot_len (pa_cons (pv 0) pa_nil)))))) pss_nil)
      (pss_cons (ps_set (i := 6) sc_l_number.nd rfl (Or.inl rfl) (pe_op op_add (pv 2) (pe_op op_mul pe_int (pv 5))))
      (pss_cut (ps_if (pt_cmpR op_ge (pv 4) (pe_op op_pow pe_int pe_int) (nomark _)) (pss_cons (ps_set (i := 7) sc_l_number.nd rfl (Or.inl rfl) (pe_op op_fdivW (pv 4) (pe_op op_pow pe_int pe_int)))
      (pss_cut (ps_for PassesOwn.never rfl (pi_range1 rfl (fr_range T) (pa_cons (pv 6) pa_nil)) (pg_name (i := 8) sc_l_number.nd rfl (Or.inl rfl)) (pss_cons (ps_if (pt_cmpR op_eq (pv 7) pe_int (nomark _)) (pss_one ps_break) pss_nil)
      (pss_one (ps_set (i := 7) sc_l_number.nd rfl (Or.inl rfl) (pe_op op_fdiv (pv 7) pe_int)))))
      (pss_one (ps_if (pt_cmpR op_gt (pv 7) pe_int (nomark _)) (pss_one (ps_ret (pe_op op_mod (pe_callTy call_int1 (by rfl) (fr_int T) (by decide +kernel) (pa_cons (pe_op op_mod (pe_callTy call_int1 (by rfl) (fr_int T) (by decide +kernel) (pa_cons (pv 7) pa_nil)) pe_int) pa_nil)) (pv 3)))) pss_nil)))) pss_nil)
      (pss_cons (ps_set (i := 9) sc_l_number.nd rfl (Or.inl rfl) (pe_op op_mod (pe_callTy call_int1 (by rfl) (fr_int T) (by decide +kernel) (pa_cons (pe_op op_add (pe_op op_add (pv 4) (pe_op op_mul pe_int (pv 6))) pe_int) pa_nil)) pe_int))
      (pss_cons (ps_set (i := 9) sc_l_number.nd rfl (Or.inl rfl) (pe_op op_mod (pe_callTy call_int1 (by rfl) (fr_int T) (by decide +kernel) (pa_cons (pe_op op_mul (pv 9) (pe_op op_add (pv 9) pe_int)) pa_nil)) pe_int))
      (pss_cons (ps_set (i := 9) sc_l_number.nd rfl (Or.inl rfl) (pe_op op_mod (pe_callTy call_int1 (by rfl) (fr_int T) (by decide +kernel) (pa_cons (pe_op op_add (pe_op op_mul (pv 9) (pe_op op_add (pv 9) pe_int)) (pe_op op_mul pe_int (pv 6))) pa_nil)) pe_int))
      (pss_one (ps_ret (pe_op op_mod (pe_callTy call_int1 (by rfl) (fr_int T) (by decide +kernel) (pa_cons (pe_op op_fdiv (pv 9) pe_int) pa_nil)) (pv 3)))))))))))), ?_⟩
  unfold NumOk at ok
  have hL : ((ns.map V.int).length : Int) = (ns.length : Int) := by rw [List.length_map]
  refine q_asg ev_c fun H1 e1 => ?_
  refine q_asg (ev_var rfl) fun H2 e2 => ?_
  have E2 := e1.trans e2
  -- if len(script) > 0
  refine q_cut (M := fun σ' H' => Ex H H' ∧ σ' = [some (.ref s), some (.int a), some (.int k), some (.int sz), some (.int (lnCell ns a)), some (.int (lnTurn ns a)), none, none, none, none])
    (s_if (et_test (ev_op (ev_cb (ea_cons (ev_var rfl) ea_nil) (rc_lenL (ex_l E2 hS))) ev_c rv_I0)) (fun hb H3 e3 => ?_) (fun hb H3 e3 => ?_)) (fun σ4 H4 hM => ?_)
  · have hp : (0 : Int) < (ns.length : Int) := by
      have := of_decide_eq_true hb
      rw [hL] at this
      exact this
    have E3 := E2.trans e3
    have hS3 := ex_l E3 hS
    have em := Int.emod_nonneg a (show (ns.length : Int) ≠ 0 by omega)
    have el := Int.emod_lt_of_pos a hp
    have nz : ¬ ns.length = 0 := by omega
    refine q_asg (ev_cb (ea_cons (ev_cellAt (ns := ns) (i := a % (ns.length : Int)) (ev_var rfl) (ev_is (ev_op (ev_cb (ea_cons (ev_var rfl) ea_nil) rc_int) (ev_cb (ea_cons (ev_var rfl) ea_nil) (rc_lenL hS3)) (rv_I (by rw [hL]; exact hp))) (by rw [hL])) hS3 em el) ea_nil) rc_abs) fun H4 e4 => ?_
    have hS4 := ex_l e4 hS3
    refine s_asg (ev_op (ev_var rfl) (ev_cb (ea_cons (ev_var rfl) ea_nil) (rc_lenL hS4)) (rv_I (by rw [hL]; exact ⟨hp, by omega⟩))) fun H5 e5 => ?_
    refine ⟨(E3.trans e4).trans e5, ?_⟩
    unfold lnCell lnTurn lnAbs
    rw [if_neg nz, if_neg nz, hL]
    rfl
  · have hp : ns.length = 0 := by
      have := of_decide_eq_false hb
      rw [hL] at this
      omega
    refine ⟨E2.trans e3, ?_⟩
    unfold lnCell lnTurn
    rw [if_pos hp, if_pos hp]
    rfl
  obtain ⟨E4, rfl⟩ := hM
  have hturn : -1000000 ≤ lnTurn ns a ∧ lnTurn ns a ≤ 1000000 := by
    unfold lnTurn
    split
    · omega
    · have hp : (0 : Int) < (ns.length : Int) := by omega
      refine ⟨?_, ?_⟩
      · rw [Int.le_ediv_iff_mul_le hp]
        omega
      · have h2 : a / (ns.length : Int) < 1000000 + 1 := by
          rw [Int.ediv_lt_iff_lt_mul hp]
          omega
        omega
  have hcell : 0 ≤ lnCell ns a := by
    unfold lnCell lnAbs
    split
    · exact Int.le_refl _
    · split <;> omega
  have hnum : lawNum ns a k sz = if 10 ^ 18 ≤ lnCell ns a ∧ 0 < lnIt (k + 16 * lnTurn ns a).toNat (lnCell ns a / 10 ^ 18) then (lnIt (k + 16 * lnTurn ns a).toNat (lnCell ns a / 10 ^ 18) % 1000) % sz
      else lnEnd (lnCell ns a) (k + 16 * lnTurn ns a) sz := by unfold lawNum; rfl
  rw [hnum] at hQ
  clear hnum
  generalize lnCell ns a = c at *
  generalize lnTurn ns a = tn at *
  refine q_asg (ev_op (ev_var rfl) (ev_op ev_c (ev_var rfl) (rv_I (Or.inl (by decide)))) rv_I0) fun H5 e5 => ?_
  have E5 := E4.trans e5
  have d18 : CPow 10 18 := by unfold CPow; decide
  have n18 : ((10 : Int) ^ (18 : Int).toNat) = 10 ^ 18 := rfl
  generalize hp : k + 16 * tn = p at *
  refine q_cut (M := fun σ' H' => Ex H H' ∧ (∃ o1 o2, σ' = [some (.ref s), some (.int a), some (.int k), some (.int sz), some (.int c), some (.int tn), some (.int p), o1, o2, none]) ∧ ¬ (10 ^ 18 ≤ c ∧ 0 < lnIt p.toNat (c / 10 ^ 18)))
    (s_if (et_test (ev_op (ev_var rfl) (ev_op ev_c ev_c (rv_I d18)) rv_I0)) (fun hb H6 e6 => ?_) (fun hb H6 e6 => ?_)) (fun σ7 H7 hM => ?_)
  · have hb' : (10 : Int) ^ 18 ≤ c := of_decide_eq_true hb
    have dw : CDivW c (10 ^ 18) := wide_div (b := 60) (by decide) (by decide) (by decide) (by decide)
    refine q_asg (ev_op (ev_var rfl) (ev_op ev_c ev_c (rv_I d18)) (rv_I dw)) fun H7 e7 => ?_
    have E7 := (E5.trans e6).trans e7
    refine q_forR1' (n := p) (ea_cons (ev_var rfl) ea_nil) (by omega) (fun i σ' H' => Ex H H' ∧ ∃ o, σ' = [some (.ref s), some (.int a), some (.int k), some (.int sz), some (.int c), some (.int tn), some (.int p), some (.int (lnIt i (c / 10 ^ 18))), o, none])
      (fun σ' H' => Ex H H' ∧ ∃ o, σ' = [some (.ref s), some (.int a), some (.int k), some (.int sz), some (.int c), some (.int tn), some (.int p), some (.int (lnIt p.toNat (c / 10 ^ 18))), o, none]) ?_ ?_ ?_ ?_
    · exact fun H8 e8 => ⟨E7.trans e8, _, rfl⟩
    · rintro i σ' H' hi ⟨E8, o, rfl⟩
      refine q_when (et_test (ev_op (ev_var rfl) ev_c (rv_eq rfl))) (fun hb H9 e9 => ?_) (fun hb H9 e9 => ?_)
      · refine ⟨E8.trans e9, some (.int (i : Int)), ?_⟩
        have hz : lnIt i (c / 10 ^ 18) = 0 := by
          have := of_decide_eq_true hb
          injection this
        rw [hz, lnIt_zero hz p.toNat (by omega)]
        rfl
      · exact s_asg (ev_op (ev_var rfl) ev_c (rv_I (by unfold CDiv; decide))) fun H10 e10 => ⟨(E8.trans e9).trans e10, _, rfl⟩
    · rintro σ' H' ⟨E8, o, rfl⟩
      exact ⟨E8, _, rfl⟩
    · rintro σ' H' ⟨E8, o, rfl⟩
      refine s_when (et_test (ev_op (ev_var rfl) ev_c rv_I0)) (fun hb H9 e9 => ?_) (fun hb H9 e9 => ?_)
      · have hr0 : (0 : Int) < lnIt p.toNat (c / 10 ^ 18) := of_decide_eq_true hb
        rw [if_pos ⟨hb', hr0⟩] at hQ
        refine s_ret (ev_op (ev_cb (ea_cons (ev_op (ev_cb (ea_cons (ev_var rfl) ea_nil) rc_int) ev_c (rv_I (by decide))) ea_nil) rc_int) (ev_var rfl) (rv_I ok.2.2.2.2)) fun H10 e10 => ?_
        exact hQ H10 ((E8.trans e9).trans e10)
      · have hr0 : ¬ (0 : Int) < lnIt p.toNat (c / 10 ^ 18) := of_decide_eq_false hb
        exact ⟨E8.trans e9, ⟨_, _, rfl⟩, fun z => hr0 z.2⟩
  · have hb' : ¬ (10 : Int) ^ 18 ≤ c := of_decide_eq_false hb
    exact ⟨E5.trans e6, ⟨_, _, rfl⟩, fun z => hb' z.1⟩
  obtain ⟨E7, ⟨o1, o2, rfl⟩, hn⟩ := hM
  rw [if_neg hn] at hQ
  unfold lnEnd at hQ
  dsimp only at hQ
  have a1 := Int.emod_nonneg (c + 7919 * p + 13) (show (2147483647 : Int) ≠ 0 by decide)
  have b1 := Int.emod_lt_of_pos (c + 7919 * p + 13) (show (0 : Int) < 2147483647 by decide)
  refine q_asg (ev_op (ev_cb (ea_cons (ev_op (ev_op (ev_var rfl) (ev_op ev_c (ev_var rfl) (rv_I (Or.inl (by decide)))) rv_I0) ev_c rv_I0) ea_nil) rc_int) ev_c (rv_I (by decide))) fun H8 e8 => ?_
  generalize (c + 7919 * p + 13) % 2147483647 = m1 at *
  have a2 := Int.emod_nonneg (m1 * (m1 + 48271)) (show (2147483629 : Int) ≠ 0 by decide)
  have b2 := Int.emod_lt_of_pos (m1 * (m1 + 48271)) (show (0 : Int) < 2147483629 by decide)
  refine q_asg (ev_op (ev_cb (ea_cons (ev_op (ev_var rfl) (ev_op (ev_var rfl) ev_c rv_I0) (rv_I (Or.inl (by constructor <;> omega)))) ea_nil) rc_int) ev_c (rv_I (by decide))) fun H9 e9 => ?_
  generalize (m1 * (m1 + 48271)) % 2147483629 = m2 at *
  refine q_asg (ev_op (ev_cb (ea_cons (ev_op (ev_op (ev_var rfl) (ev_op (ev_var rfl) ev_c rv_I0) (rv_I (Or.inl (by constructor <;> omega)))) (ev_op ev_c (ev_var rfl) (rv_I (Or.inl (by decide)))) rv_I0) ea_nil) rc_int) ev_c (rv_I (by decide))) fun H10 e10 => ?_
  refine s_ret (ev_op (ev_cb (ea_cons (ev_op (ev_var rfl) ev_c (rv_I (by unfold CDiv; decide))) ea_nil) rc_int) (ev_var rfl) (rv_I ok.2.2.2.2)) fun H11 e11 => ?_
  exact hQ H11 (((E7.trans e8).trans e9).trans (e10.trans e11))
theorem ok_l_number (T : TX K mg) : DefOk P w K mg base (1) "_law_number" ["_law_script", "_law_at", "_law_k", "_law_size"] [] (spNum K) := by
  obtain ⟨fd, F, h⟩ := fn_l_number (P := P) (w := w) (base := base) T
  exact DefOk.of F (gl_l_number T) (F.bindsN fun _ _ _ _ _ _ us hl => match us, hl with | [_, _, _, _], _ => rfl) h
/-! ### _law_is_whole, _law_same -/
def isInt (d : PyData) : Bool := isB "int" (tyN d) && !isB "bool" (tyN d)
def spWhole (K : PySem.W.Frag) : Sp := fun vs H Q _ => ∃ (v : V) (d : PyData), vs = [v] ∧ Dp K H v d ∧ RetV (.bl (isInt d)) H Q
theorem sv_whole {K : PySem.W.Frag} {H : Hp} {v : V} {d : PyData} (h : Dp K H v d) : SpV (spWhole K) [v] H (.bl (isInt d)) := fun H1 e Q q E => ⟨v, d, rfl, dp_ex e h, q⟩
theorem sc_l_is_whole : FnScope ["_law_told"] ["_law_told"] (defScope s_l_is_whole) := ⟨rfl, rfl, rfl, by decide +kernel, rfl, by decide +kernel, by decide +kernel⟩
theorem fn_l_is_whole (T : TX K mg) : ∃ fd, FunD K "_law_is_whole" "_law_is_whole" (defArgs s_l_is_whole) (defBody s_l_is_whole) (defScope s_l_is_whole) [] [] (He.ga K "_law_is_whole") fd ∧ FnOk P w K mg base CX0 (1) (He.ga K "_law_is_whole") fd ["_law_told"] (spWhole K) := by
  obtain ⟨fd, F⟩ := fd_l_is_whole T
  refine ⟨fd, F, My.FunD.ok0 F sc_l_is_whole (fun vs H Q E h => ?_) (fun cdv A outer s0 H vs Q E hr h => ?_)⟩
  · obtain ⟨v, d, rfl, hd, hQ⟩ := h
    rfl
  obtain ⟨v, d, rfl, hd, hQ⟩ := h
  have hu := hu_of hr
  refine ⟨_, (pss_one (ps_ret (pe_and (pe_callB (isiK K) (by rfl) (fr_isinstance T) (by decide +kernel) (pa_cons (pv 0) (pa_cons (pe_bltn (v := .ty "int") (by rfl) (fr_int T) (by decide +kernel) rfl) pa_nil))) (pe_one (pe_not (pe_callB (isiK K) (by rfl) (fr_isinstance T) (by decide +kernel) (pa_cons (pv 0) (pa_cons (pe_bltn (v := .ty "bool") (by rfl) (fr_bool T) (by decide +kernel) rfl) pa_nil)))))))), ?_⟩
  exact s_ret (ev_andV (ev_isiD (ev_var rfl) hd rfl) fun _ => ev_notV (ev_isiD (ev_var rfl) hd rfl)) hQ
theorem ok_l_is_whole (T : TX K mg) : DefOk P w K mg base (1) "_law_is_whole" ["_law_told"] [] (spWhole K) := by
  obtain ⟨fd, F, h⟩ := fn_l_is_whole (P := P) (w := w) (base := base) T
  exact DefOk.of F (gl_l_is_whole T) (F.bindsN fun _ _ _ _ _ _ us hl => match us, hl with | [_], _ => rfl) h
/-- _law_same: equal through and through, told of data nested at most n deep -/
def spSame (K : PySem.W.Frag) (n : Nat) : Sp := fun vs H Q _ => ∃ (v u : V) (d e : PyData), vs = [v, u] ∧ Dp K H v d ∧ Dp K H u e ∧ Dn n d ∧ Dn n e ∧ ∀ b : Bool, (b = true ↔ d = e) → RetV (.bl b) H Q
def spIn (K : PySem.W.Frag) : Nat → Sp
  | 0 => fun _ _ _ _ => False
  | n + 1 => spSame K n
theorem sc_l_same : FnScope ["_law_told", "_law_due", "_law_k"] ["_law_told", "_law_due"] (defScope s_l_same) := ⟨rfl, rfl, rfl, by decide +kernel, rfl, by decide +kernel, by decide +kernel⟩
theorem body_same {n : Nat} (T : TX K mg) {f : Addr} {cdv : Value} {A : Around} {outer : List Env} {s0 : Shared} {H : Hp} {E : XK} {Q : VK} {v u : V} {d e : PyData}
    (hr : Room (n + 1) (A.deeper (envOfC "_law_same" (defScope s_l_same) s0.heap.objs.size f cdv))) (hd : Dp K H v d) (he : Dp K H u e) (hn : Dn n d) (hm : Dn n e) (hQ : ∀ b : Bool, (b = true ↔ d = e) → RetV (.bl b) H Q)
    (rec : DefOk P w K mg base (n + 1) "_law_same" ["_law_told", "_law_due"] [] (spIn K n)) :
    ∃ t, PSs (cxOf CX0 P w K mg base ["_law_told", "_law_due", "_law_k"] "_law_same" (defScope s_l_same) f cdv A outer s0 H E).nox (defBody s_l_same) t ∧ t { nx := fun _ H' => Q .non H', rt := Q } (start ["_law_told", "_law_due", "_law_k"] [v, u]) H := by
  refine ⟨_, (pss_cons (ps_if (pt_val (pe_callB (isiTK K) (by rfl) (fr_isinstance T) (by decide +kernel) (pa_cons (pv 1) (pa_cons (pe_tup (pa_cons (pe_bltn (v := .ty "list") (by rfl) (fr_list T) (by decide +kernel) rfl) (pa_cons (pe_bltn (v := .ty "tuple") (by rfl) (fr_tuple T) (by decide +kernel) rfl) pa_nil))) pa_nil)))) (pss_cons (ps_if (PW.pt (pw_or (pt_not (pt_val (pe_callB (isiTK K) (by rfl) (fr_isinstance T) (by decide +kernel) (pa_cons (pv 0) (pa_cons (pe_tup (pa_cons (pe_bltn (v := .ty "list") (by rfl) (fr_list T) (by decide +kernel) rfl) (pa_cons (pe_bltn (v := .ty "tuple") (by rfl) (fr_tuple T) (by decide +kernel) rfl) pa_nil))) pa_nil))))) (pw_or1 (pt_cmpR op_ne (pe_callB (isiK K) (by rfl) (fr_isinstance T) (by decide +kernel) (pa_cons (pv 0) (pa_cons (pe_bltn (v := .ty "list") (by rfl) (fr_list T) (by decide +kernel) rfl) pa_nil))) (pe_callB (isiK K) (by rfl) (fr_isinstance T) (by decide +kernel) (pa_cons (pv 1) (pa_cons (pe_bltn (v := .ty "list") (by rfl) (fr_list T) (by decide +kernel) rfl) pa_nil))) (nomark _))))) (pss_one (ps_ret pe_bl)) pss_nil)
      (pss_cons (ps_if (pt_cmpR op_ne (pe_callB (lenQ K) (by rfl) (fr_len T) PySem.boot_len (pa_cons (pv 0) pa_nil)) (pe_callB (lenQ K) (by rfl) (fr_len T) PySem.boot_len (pa_cons (pv 1) pa_nil)) (nomark _)) (pss_one (ps_ret pe_bl)) pss_nil)
      (pss_one (ps_ret (pe_cmpR op_eq (pe_callB (lenQ K) (by rfl) (fr_len T) PySem.boot_len (pa_cons (pe_lc (own := [("_law_k", 2)]) rfl sc_l_same.nd (pi_range1 rfl (fr_range T) (pa_cons (pe_callB (lenQ K) (by rfl) (fr_len T) PySem.boot_len (pa_cons (pv 1) pa_nil)) pa_nil)) (blkOk_by (own := [("_law_k", 2)]) (N := ["_law_told", "_law_due", "_law_k"]) (sc := defScope s_l_same) (by decide +kernel)) (fun _ _ _ _ _ => (pg_name (i := 2) sc_l_same.nd rfl (Or.inl rfl))) (fun _ _ _ _ _ => (pts_one (pt_not (pt_val (pe_callN rec hr (pa_cons (pe_ix (ixQ K) (pv 0) (pv 2) (fun _ _ => rfl)) (pa_cons (pe_ix (ixQ K) (pv 1) (pv 2) (fun _ _ => rfl)) pa_nil)) (hk := Nat.le_refl _)))))) (fun _ _ _ _ _ => (pv 2))) pa_nil)) pe_int (nomark _)))))) pss_nil)
      (pss_cons (ps_if (pt_val (pe_callB (isiK K) (by rfl) (fr_isinstance T) (by decide +kernel) (pa_cons (pv 1) (pa_cons (pe_bltn (v := .ty "bool") (by rfl) (fr_bool T) (by decide +kernel) rfl) pa_nil)))) (pss_one (ps_ret (pe_and (pe_callB (isiK K) (by rfl) (fr_isinstance T) (by decide +kernel) (pa_cons (pv 0) (pa_cons (pe_bltn (v := .ty "bool") (by rfl) (fr_bool T) (by decide +kernel) rfl) pa_nil))) (pe_one (pe_cmpR op_eq (pv 0) (pv 1) (nomark _)))))) pss_nil)
      (pss_cons (ps_if (pt_val (pe_callB (isiK K) (by rfl) (fr_isinstance T) (by decide +kernel) (pa_cons (pv 1) (pa_cons (pe_bltn (v := .ty "int") (by rfl) (fr_int T) (by decide +kernel) rfl) pa_nil)))) (pss_one (ps_ret (pe_and (pe_callN (ok_l_is_whole (P := P) (w := w) (base := base) T) hr (pa_cons (pv 0) pa_nil) (hk := by omega)) (pe_one (pe_cmpR op_eq (pv 0) (pv 1) (nomark _)))))) pss_nil)
      (pss_cons (ps_if (pt_val (pe_callB (isiK K) (by rfl) (fr_isinstance T) (by decide +kernel) (pa_cons (pv 1) (pa_cons (pe_bltn (v := .ty "str") (by rfl) (fr_str T) (by decide +kernel) rfl) pa_nil)))) (pss_one (ps_ret (pe_and (pe_callB (isiK K) (by rfl) (fr_isinstance T) (by decide +kernel) (pa_cons (pv 0) (pa_cons (pe_bltn (v := .ty "str") (by rfl) (fr_str T) (by decide +kernel) rfl) pa_nil))) (pe_one (pe_cmpR op_eq (pv 0) (pv 1) (nomark _)))))) pss_nil)
      (pss_one (ps_ret (pe_and (pe_cmp (pc_isN (pv 0))) (pe_one (pe_cmp (pc_isN (pv 1))))))))))), ?_⟩
  have skip2 : ∀ {tz : TS} {D : Ends} {H1 : Hp} {tu : TS}, isB "list" (tyN e) = false → isB "tuple" (tyN e) = false → Ex H H1 → (∀ H2, Ex H H2 → tz D [some v, some u, none] H2) →
      tSeq (tIfS (tB (tCB (rIsiT K) (tCons (tVar 1) (tCons (tTup (tCons (tC (.ty "list")) (tCons (tC (.ty "tuple")) tNil))) tNil)))) tu tNext) tz D [some v, some u, none] H1 := fun {tz D H1 tu} h1 h2 e1 k =>
    q_when (b := false) (et_B (ev_is (ev_isiD2 (ev_var rfl) (dp_ex e1 he) (by rfl) (by rfl)) (by rw [h1, h2]; rfl))) (fun h => nomatch h) fun _ H2 e2 => k H2 (e1.trans e2)
  have skip1 : ∀ {tz : TS} {D : Ends} {H1 : Hp} {tu : TS} {c : String}, isB c (tyN e) = false → askd c = true → Ex H H1 → (∀ H2, Ex H H2 → tz D [some v, some u, none] H2) →
      tSeq (tIfS (tB (tCB (rIsi K) (tCons (tVar 1) (tCons (tC (.ty c)) tNil)))) tu tNext) tz D [some v, some u, none] H1 := fun {tz D H1 tu c} h1 h2 e1 k =>
    q_when (b := false) (et_B (ev_is (ev_isiD (ev_var rfl) (dp_ex e1 he) h2) (by rw [h1]))) (fun h => nomatch h) fun _ H2 e2 => k H2 (e1.trans e2)
  have take1 : ∀ {tz : TS} {D : Ends} {H1 : Hp} {tu : TS} {c : String}, isB c (tyN e) = true → askd c = true → Ex H H1 → (∀ H2, Ex H H2 → tu { D with nx := tz D } [some v, some u, none] H2) →
      tSeq (tIfS (tB (tCB (rIsi K) (tCons (tVar 1) (tCons (tC (.ty c)) tNil)))) tu tNext) tz D [some v, some u, none] H1 := fun {tz D H1 tu c} h1 h2 e1 k =>
    q_when (b := true) (et_B (ev_is (ev_isiD (ev_var rfl) (dp_ex e1 he) h2) (by rw [h1]))) (fun _ H2 e2 => k H2 (e1.trans e2)) (fun h => nomatch h)
  by_cases hsq : ∃ (b : Bool) (es : List PyData), e = seqD b es
  · obtain ⟨b, es, rfl⟩ := hsq
    obtain ⟨a, us, rfl, hs, hu'⟩ := dp_seq he
    obtain ⟨m, rfl, hlen, hmm⟩ := dn_seq hm
    refine q_when (b := true) (et_B (ev_is (ev_isiD2 (ev_var rfl) he (by rfl) (by rfl)) (by cases b <;> simp [seqD, tyN, isB_tab]))) (fun _ H1 e1 => ?_) (fun h => nomatch h)
    refine q_when (et_or (et_not (et_B (ev_isiD2 (ev_var rfl) (dp_ex e1 hd) (by rfl) (by rfl)))) fun _ => et_test (ev_op (ev_isiD (ev_var rfl) (dp_ex e1 hd) (by rfl)) (ev_isiD (ev_var rfl) (dp_ex e1 he) (by rfl)) (rv_ne rfl))) (fun hb H2 e2 => ?_) (fun hb H2 e2 => ?_)
    · refine s_ret ev_c fun H3 e3 => hQ false ?_ H3 (e1.trans (e2.trans e3))
      refine ⟨(fun z => nomatch z), fun z => ?_⟩
      subst z
      cases b <;> simp [seqD, tyN, isB_tab] at hb
    have hd1 : ∃ ds, d = seqD b ds := by
      cases b <;> cases hd <;> simp [seqD, tyN, isB_tab] at hb ⊢
    obtain ⟨ds, rfl⟩ := hd1
    obtain ⟨a2, vs, rfl, hs2, hv'⟩ := dp_seq hd
    obtain ⟨m', hm', hlen2, hmm2⟩ := dn_seq hn
    obtain rfl : m = m' := by omega
    have E2 := e1.trans e2
    have lu := dpa_len hu'
    have lv := dpa_len hv'
    refine q_when (et_test (ev_op (ev_cb (ea_cons (ev_var rfl) ea_nil) (rc_lenB (hs2.ex E2))) (ev_cb (ea_cons (ev_var rfl) ea_nil) (rc_lenB (hs.ex E2))) (rv_ne rfl))) (fun hz H3 e3 => ?_) (fun hz H3 e3 => ?_)
    · refine s_ret ev_c fun H4 e4 => hQ false ?_ H4 (E2.trans (e3.trans e4))
      refine ⟨(fun z => nomatch z), fun z => ?_⟩
      rw [seqD_inj] at z
      subst z
      rw [lu, lv] at hz
      simp at hz
    have ll : ds.length = es.length := by
      rw [lu, lv] at hz
      simp at hz
      omega
    classical
    have E3 := E2.trans e3
    have hs3 := hs.ex E3
    have hs23 := hs2.ex E3
    refine s_ret (ev_op (ev_lenN' (el_lcR1 (n := (us.length : Int)) (fun i => !decide (ds[i]? = es[i]?)) (fun i => .int (i : Int)) (ea_cons (ev_cb (ea_cons (ev_var rfl) ea_nil) (rc_lenB hs3)) ea_nil) (by omega) (fun _ => rfl) (fun i H4 e4 hi => ?_) (fun i H4 e4 hi _ => ev_var rfl))) ev_c (rv_eq rfl)) fun H5 e5 => hQ _ ?_ H5 (E3.trans e5)
    · have hi1 : i < es.length := by omega
      have hi2 : i < ds.length := by omega
      obtain ⟨x1, hx1, hx2⟩ := dpa_at hu' hi1
      obtain ⟨y1, hy1, hy2⟩ := dpa_at hv' hi2
      refine et_not (et_B (ev_call (ea_cons (ev_op (ev_var rfl) (ev_var rfl) (rv_ixB (hs23.ex e4) (atI_nat hy1))) (ea_cons (ev_op (ev_var rfl) (ev_var rfl) (rv_ixB (hs3.ex e4) (atI_nat hx1))) ea_nil)) ?_))
      intro H6 e6 Q' q' E'
      have E6 := (E3.trans e4).trans e6
      refine ⟨y1, x1, ds[i], es[i], rfl, dp_ex E6 hy2, dp_ex E6 hx2, hmm2 _ (List.getElem_mem _), hmm _ (List.getElem_mem _), fun b' hb' => ?_⟩
      have eb : b' = decide (ds[i]? = es[i]?) := by
        rw [List.getElem?_eq_getElem hi1, List.getElem?_eq_getElem hi2, Bool.eq_iff_iff, hb', decide_eq_true_iff]
        simp
      rw [eb]
      exact q'
    · rw [seqD_inj, decide_eq_true_iff]
      have e1' : (V.int (((given (us.length : Int).toNat (fun i => !decide (ds[i]? = es[i]?)) (fun i => .int (i : Int))).length : Nat) : Int) = V.int 0) ↔ (given (us.length : Int).toNat (fun i => !decide (ds[i]? = es[i]?)) (fun i => .int (i : Int))).length = 0 := by
        constructor
        · intro h
          injection h with h
          omega
        · intro h
          rw [h]
          rfl
      rw [e1', given_none]
      constructor
      · intro h
        refine List.ext_getElem? fun i => ?_
        by_cases hi : i < es.length
        · have := h i (by omega)
          simpa using this
        · rw [List.getElem?_eq_none (by omega), List.getElem?_eq_none (by omega)]
      · intro h i hi
        rw [h]
        simp
  cases e with
  | none =>
    cases he with
    | non =>
    refine skip2 (by simp [tyN, isB_tab]) (by simp [tyN, isB_tab]) (Ex.refl H) fun H1 e1 => ?_
    refine skip1 (by simp [tyN, isB_tab]) (by rfl) e1 fun H2 e2 => ?_
    refine skip1 (by simp [tyN, isB_tab]) (by rfl) e2 fun H3 e3 => ?_
    refine skip1 (by simp [tyN, isB_tab]) (by rfl) e3 fun H4 e4 => ?_
    refine s_ret (ev_andV (ev_isN (ev_var rfl)) fun _ => ev_isN (ev_var rfl)) fun H5 e5 => ?_
    refine hQ _ ?_ H5 (e4.trans e5)
    cases hd <;> simp
  | bool b =>
    cases he with
    | bl =>
    refine skip2 (by simp [tyN, isB_tab]) (by simp [tyN, isB_tab]) (Ex.refl H) fun H1 e1 => ?_
    refine take1 (by simp [tyN, isB_tab]) (by rfl) e1 fun H2 e2 => ?_
    refine s_ret (ev_andV (ev_isiD (ev_var rfl) (dp_ex e2 hd) (by rfl)) fun hc => ev_op (ev_var rfl) (ev_var rfl) (rv_eq (by cases hd <;> first | rfl | (simp [tyN, isB_tab] at hc)))) fun H5 e5 => hQ _ ?_ H5 (e2.trans e5)
    cases hd <;> simp [tyN, isB_tab]
  | int b =>
    cases he with
    | int =>
    refine skip2 (by simp [tyN, isB_tab]) (by simp [tyN, isB_tab]) (Ex.refl H) fun H1 e1 => ?_
    refine skip1 (by simp [tyN, isB_tab]) (by rfl) e1 fun H2 e2 => ?_
    refine take1 (by simp [tyN, isB_tab]) (by rfl) e2 fun H3 e3 => ?_
    refine s_ret (ev_andV (ev_call (ea_cons (ev_var rfl) ea_nil) (sv_whole (dp_ex e3 hd))) fun hc => ev_op (ev_var rfl) (ev_var rfl) (rv_eq (by cases hd <;> first | rfl | (simp [isInt, tyN, isB_tab] at hc)))) fun H5 e5 => hQ _ ?_ H5 (e3.trans e5)
    cases hd <;> simp [isInt, tyN, isB_tab]
  | str b =>
    cases he with
    | str =>
    refine skip2 (by simp [tyN, isB_tab]) (by simp [tyN, isB_tab]) (Ex.refl H) fun H1 e1 => ?_
    refine skip1 (by simp [tyN, isB_tab]) (by rfl) e1 fun H2 e2 => ?_
    refine skip1 (by simp [tyN, isB_tab]) (by rfl) e2 fun H3 e3 => ?_
    refine take1 (by simp [tyN, isB_tab]) (by rfl) e3 fun H4 e4 => ?_
    refine s_ret (ev_andV (ev_isiD (ev_var rfl) (dp_ex e4 hd) (by rfl)) fun hc => ev_op (ev_var rfl) (ev_var rfl) (rv_eq (by cases hd <;> first | rfl | (simp [tyN, isB_tab] at hc)))) fun H5 e5 => hQ _ ?_ H5 (e4.trans e5)
    cases hd <;> simp [tyN, isB_tab]
  | list es => exact absurd ⟨true, es, rfl⟩ hsq
  | tuple es => exact absurd ⟨false, es, rfl⟩ hsq
  | dict es => cases he
theorem fn_l_same (T : TX K mg) : ∀ n : Nat, ∃ fd, FunD K "_law_same" "_law_same" (defArgs s_l_same) (defBody s_l_same) (defScope s_l_same) [] [] (He.ga K "_law_same") fd ∧ FnOk P w K mg base CX0 (n + 2) (He.ga K "_law_same") fd ["_law_told", "_law_due"] (spSame K n) := fun n => by
  obtain ⟨fd, F⟩ := fd_l_same T
  have b : Binds K fd ["_law_told", "_law_due"] [] := F.bindsN fun _ _ _ _ _ _ us hl => match us, hl with | [_, _], _ => rfl
  refine ⟨fd, F, ?_⟩
  induction n with
  | zero =>
    refine My.FunD.ok0 F sc_l_same (fun vs H Q E h => ?_) (fun cdv A outer s0 H vs Q E hr h => ?_)
    · obtain ⟨_, _, _, _, rfl, _⟩ := h
      rfl
    obtain ⟨v, u, d, e, rfl, hd, he, hn, hm, hQ⟩ := h
    exact body_same T hr hd he hn hm hQ (DefOk.of F (gl_l_same T) b ⟨fun _ _ _ _ h => h.elim, fun _ _ _ _ _ _ _ _ _ _ _ _ _ h => h.elim⟩)
  | succ n ih =>
    refine My.FunD.ok0 F sc_l_same (fun vs H Q E h => ?_) (fun cdv A outer s0 H vs Q E hr h => ?_)
    · obtain ⟨_, _, _, _, rfl, _⟩ := h
      rfl
    obtain ⟨v, u, d, e, rfl, hd, he, hn, hm, hQ⟩ := h
    exact body_same T hr hd he hn hm hQ (DefOk.of F (gl_l_same T) b ih)
theorem ok_l_same (T : TX K mg) (n : Nat) : DefOk P w K mg base (n + 2) "_law_same" ["_law_told", "_law_due"] [] (spSame K n) := by
  obtain ⟨fd, F, h⟩ := fn_l_same (P := P) (w := w) T (base := base) n
  exact DefOk.of F (gl_l_same T) (F.bindsN fun _ _ _ _ _ _ us hl => match us, hl with | [_, _], _ => rfl) h
theorem sv_same {K : PySem.W.Frag} {H : Hp} {v u : V} {d e : PyData} {n : Nat} {b : Bool} (hd : Dp K H v d) (he : Dp K H u e) (hn : Dn n d) (hm : Dn n e) (hb : b = true ↔ d = e) : SpV (spSame K n) [v, u] H (.bl b) := fun H1 x Q q E =>
  ⟨v, u, d, e, rfl, dp_ex x hd, dp_ex x he, hn, hm, fun b' h' => by
    have : b' = b := by rw [Bool.eq_iff_iff, h', hb]
    rw [this]
    exact q⟩
end

section
/-! ### the plain law of a ledger -/
abbrev Row := Int × Int × Int × Int
abbrev Swp := Int × Int × Int
def rowL (r : Row) : List Int := [r.1, r.2.1, r.2.2.1, r.2.2.2]
def swpL (r : Swp) : List Int := [r.1, r.2.1, r.2.2]
def prL (p : Int × Int) : List Int := [p.1, p.2]
/-- what was left at a place by the rows before n -/
def lastAt (rs : List Row) : Nat → Int → Int × Int
  | 0, _ => (0, 0)
  | n + 1, p => match rs[n]? with
    | some r => if r.1 = p then (r.2.2.2, (n : Int) + 1) else lastAt rs n p
    | none => lastAt rs n p
theorem lastAt_hit {rs : List Row} {n : Nat} (h : n < rs.length) : lastAt rs (n + 1) rs[n].1 = (rs[n].2.2.2, (n : Int) + 1) := by
  rw [lastAt, List.getElem?_eq_getElem h]
  simp
theorem lastAt_miss {rs : List Row} {n : Nat} (h : n < rs.length) {p : Int} (hp : rs[n].1 ≠ p) : lastAt rs (n + 1) p = lastAt rs n p := by
  rw [lastAt, List.getElem?_eq_getElem h]
  simp [hp]
def badAt (rs : List Row) (i : Nat) : Bool := match rs[i]? with
  | some r => !decide ((r.2.1, r.2.2.1) = lastAt rs i r.1)
  | none => false
theorem badAt_get {rs : List Row} {i : Nat} (h : i < rs.length) : badAt rs i = !decide ((rs[i].2.1, rs[i].2.2.1) = lastAt rs i rs[i].1) := by
  rw [badAt, List.getElem?_eq_getElem h]
def swpBad (rs : List Row) (sw : List Swp) (m : Nat) : Bool := !decide (sw.map (fun t => (t.2.1, t.2.2)) = (List.range m).map fun (p : Nat) => lastAt rs rs.length (p : Int))
/-- which row lies first -/
def lieOf (rs : List Row) (sw : List Swp) (m : Nat) : PyData := match (List.range rs.length).find? (badAt rs) with
  | some i => .int i
  | none => if swpBad rs sw m = true then .int rs.length else .none
theorem lie_some {rs : List Row} {sw : List Swp} {m i : Nat} (h : i < rs.length) (hb : badAt rs i = true) (hm : ∀ j < i, badAt rs j = false) : lieOf rs sw m = .int i := by
  have : (List.range rs.length).find? (badAt rs) = some i := List.find?_range_eq_some.mpr ⟨hb, List.mem_range.mpr h, fun j hj => by simp [hm j hj]⟩
  rw [lieOf, this]
theorem lie_none {rs : List Row} {sw : List Swp} {m : Nat} (hm : ∀ j < rs.length, badAt rs j = false) : lieOf rs sw m = if swpBad rs sw m = true then .int rs.length else .none := by
  have : (List.range rs.length).find? (badAt rs) = none := List.find?_eq_none.mpr fun j hj => by simp [hm j (List.mem_range.mp hj)]
  rw [lieOf, this]
def RowsOk (m : Nat) (rs : List Row) : Prop := ∀ r ∈ rs, 0 ≤ r.1 ∧ r.1 < m
theorem pr_eqv (p q : Int × Int) : PyData.eqv (tupD (prL p)) (tupD (prL q)) = decide (p = q) := by
  rw [Bool.eq_iff_iff]
  obtain ⟨a, b⟩ := p
  obtain ⟨c, d⟩ := q
  simp [tupD, prL, PyData.eqv, PyData.eqvAll]
theorem pr_sh (p : Int × Int) : SeqAt.shaped (tupD (prL p)) = true := rfl
theorem prs_eqv : ∀ ps qs : List (Int × Int), PyData.eqv (.list ((ps.map prL).map tupD)) (.list ((qs.map prL).map tupD)) = decide (ps = qs)
  | [], [] => by simp [PyData.eqv, PyData.eqvAll]
  | [], q :: qs => by simp [PyData.eqv, PyData.eqvAll]
  | p :: ps, [] => by simp [PyData.eqv, PyData.eqvAll]
  | p :: ps, q :: qs => by
    have h1 := pr_eqv p q
    have h2 := prs_eqv ps qs
    rw [PyData.eqv] at h2 ⊢
    rw [List.map_cons, List.map_cons, List.map_cons, List.map_cons, PyData.eqvAll, h1, h2, Bool.eq_iff_iff]
    simp
theorem prs_lay : ∀ ps : List (Int × Int), PyData.canLayAll0 ((ps.map prL).map tupD) = true ∧ PyData.depthAll ((ps.map prL).map tupD) ≤ 1
  | [] => by simp [PyData.canLayAll0, PyData.depthAll]
  | p :: ps => by
    obtain ⟨h1, h2⟩ := prs_lay ps
    rw [List.map_cons, List.map_cons, PyData.canLayAll0, PyData.depthAll, h1]
    refine ⟨by simp [tupD, prL, PyData.canLay0, PyData.canLayAll0], ?_⟩
    have : (tupD (prL p)).depth = 1 := by simp [tupD, prL, PyData.depth, PyData.depthAll]
    rw [this]
    omega
theorem prs_sh (ps : List (Int × Int)) : SeqAt.shaped (.list ((ps.map prL).map tupD)) = true := by
  obtain ⟨h1, h2⟩ := prs_lay ps
  unfold SeqAt.shaped
  rw [PyData.canLay0, PyData.depth, h1, Bool.true_and, decide_eq_true_iff]
  omega
end

section
variable {P : Program} {w : World} {K : PySem.W.Frag} {mg : Str → Option Value} {base : Heap}
/-- a tuple's item -/
theorem ev_tuI {te ti : TE} {σ : L2.St} {H : Hp} {v : V} {a : Addr} {r : List Int} {i x : Int} (hv : Ev te σ H (.ref a)) (hs : SqT K H a (r.map V.int)) (hi : Ev ti σ H (.int i)) (h : atI (r.map V.int) i = some (.int x)) : Ev (tOp (rIxT K) te ti) σ H (.int x) := ev_op hv hi (rv_ixT hs h)
/-! ### last_left -/
def spLast (K : PySem.W.Frag) : Sp := fun vs H Q _ => ∃ (a : Addr) (ys : List V) (rs : List Row) (n : Nat) (p : Int), vs = [.ref a, .int (n : Int), .int p] ∧ SqL K H a ys ∧ TupsAt K H ys (rs.map rowL) ∧ n ≤ rs.length ∧ rs.length ≤ 1000 ∧ RetD K (tupD (prL (lastAt rs n p))) H Q
theorem svd_last {H : Hp} {a : Addr} {ys : List V} {rs : List Row} {n : Nat} {p : Int} (h : SqL K H a ys) (ht : TupsAt K H ys (rs.map rowL)) (hn : n ≤ rs.length) (hl : rs.length ≤ 1000) : SpVD K (spLast K) [.ref a, .int (n : Int), .int p] H (tupD (prL (lastAt rs n p))) := fun H1 e Q q E =>
  ⟨a, ys, rs, n, p, rfl, ex_l e h, ht.ex e, hn, hl, q⟩
theorem row_get {H : Hp} {ys : List V} {rs : List Row} {i : Nat} (ht : TupsAt K H ys (rs.map rowL)) (h : i < rs.length) : ∃ a, ys[i]? = some (.ref a) ∧ SqT K H a ((rowL rs[i]).map V.int) := by
  obtain ⟨a, h1, h2⟩ := ht.get (i := i) (by rw [List.length_map]; exact h)
  rw [List.getElem_map] at h2
  exact ⟨a, h1, h2⟩
theorem sc_last_left : FnScope ["rows", "at", "place", "back"] ["rows", "at", "place"] (defScope s_last_left) := ⟨rfl, rfl, rfl, by decide +kernel, rfl, by decide +kernel, by decide +kernel⟩
theorem fn_last_left (T : TX K mg) : ∃ fd, FunD K "last_left" "last_left" (defArgs s_last_left) (defBody s_last_left) (defScope s_last_left) [] [] (He.ga K "last_left") fd ∧ FnOk P w K mg base CX0 (1) (He.ga K "last_left") fd ["rows", "at", "place"] (spLast K) := by
  obtain ⟨fd, F⟩ := fd_last_left T
  refine ⟨fd, F, My.FunD.ok0 F sc_last_left (fun vs H Q E h => ?_) (fun cdv A outer s0 H vs Q E hr h => ?_)⟩
  · obtain ⟨a, ys, rs, n, p, rfl, hS, ht, hn, hl, hQ⟩ := h
    rfl
  obtain ⟨a, ys, rs, n, p, rfl, hS, ht, hn, hl, hQ⟩ := h
  have hu := hu_of hr
  refine ⟨_, (pss_cut (ps_for PassesOwn.never rfl (pi_range3 rfl (fr_range T) (pa_cons (pe_op op_sub (pv 1) pe_int) (pa_cons (pe_un un_neg pe_int) (pa_cons (pe_un un_neg pe_int) pa_nil)))) (pg_name (i := 3) sc_last_left.nd rfl (Or.inl rfl)) (pss_one (ps_if (pt_cmpR op_eq (pe_ix (ixT K) (pe_ix (ixL K) (pv 0) (pv 3) (fun _ _ => rfl)) pe_int (fun _ _ => rfl)) (pv 2) (nomark _)) (pss_one (ps_ret (pe_tup (pa_cons (pe_ix (ixT K) (pe_ix (ixL K) (pv 0) (pv 3) (fun _ _ => rfl)) pe_int (fun _ _ => rfl)) (pa_cons (pe_op op_add (pv 3) pe_int) pa_nil))))) pss_nil)))
      (pss_one (ps_ret (pe_tup (pa_cons pe_int (pa_cons pe_int pa_nil)))))), ?_⟩
  refine q_forDn (lo := (n : Int) - 1) (hi := -1) (n := n) (ea_cons (ev_op (ev_var rfl) ev_c rv_I0) (ea_cons (ev_un ev_c ru_neg) (ea_cons (ev_un ev_c ru_neg) ea_nil))) (by omega) (by omega)
    (fun i σ' H' => Ex H H' ∧ lastAt rs n p = lastAt rs (n - i) p ∧ ∃ o, σ' = [some (.ref a), some (.int (n : Int)), some (.int p), o])
    (fun σ' H' => Ex H H' ∧ lastAt rs n p = (0, 0) ∧ ∃ o, σ' = [some (.ref a), some (.int (n : Int)), some (.int p), o]) ?_ ?_ ?_ ?_
  · exact fun H1 e1 => ⟨e1, rfl, _, rfl⟩
  · rintro i σ' H2 hlt ⟨E, hL, o, rfl⟩
    · have hk : n - (i + 1) < rs.length := by omega
      have hx : V.int ((n : Int) - 1 - (i : Int)) = V.int ((n - (i + 1) : Nat) : Int) := by congr 1; omega
      rw [hx]
      obtain ⟨t, ht1, ht2⟩ := row_get (ht.ex E) hk
      have hrow : ∀ {H3 : Hp} {σ3 : L2.St}, Ex H2 H3 → σ3[0]? = some (some (.ref a)) → σ3[3]? = some (some (.int ((n - (i + 1) : Nat) : Int))) → Ev (tOp (rIxL K) (tVar 0) (tVar 3)) σ3 H3 (.ref t) := fun e r0 r3 => ev_op (ev_var r0) (ev_var r3) (rv_ixL (ex_l (E.trans e) hS) (atI_nat ht1))
      have e1n : n - i = n - (i + 1) + 1 := by omega
      refine s_when (et_test (ev_op (ev_op (hrow (Ex.refl H2) rfl rfl) ev_c (rv_ixT (v := .int rs[n - (i + 1)].1) ht2 rfl)) (ev_var rfl) (rv_eq rfl))) (fun hb H3 e3 => ?_) (fun hb H3 e3 => ?_)
      · have hp : rs[n - (i + 1)].1 = p := by
          have := of_decide_eq_true hb
          injection this
        have hv : lastAt rs n p = (rs[n - (i + 1)].2.2.2, ((n - (i + 1) : Nat) : Int) + 1) := by rw [hL, e1n, ← hp, lastAt_hit hk]
        rw [hv] at hQ
        exact sd_ret (etu_D (r := prL (rs[n - (i + 1)].2.2.2, ((n - (i + 1) : Nat) : Int) + 1)) (etu_U (eu_tup (ea_cons (ev_op (hrow e3 rfl rfl) ev_c (rv_ixT (v := .int rs[n - (i + 1)].2.2.2) (ex_t e3 ht2) rfl)) (ea_cons (ev_op (ev_var rfl) ev_c rv_I0) ea_nil)) (by simp)) rfl)) (hQ.go (E.trans e3))
      · have hp : rs[n - (i + 1)].1 ≠ p := fun z => by
          rw [z] at hb
          simp at hb
        exact ⟨E.trans e3, by rw [hL, e1n, lastAt_miss hk hp], _, rfl⟩
  · rintro σ' H' ⟨E, hL, o, rfl⟩
    refine ⟨E, ?_, o, rfl⟩
    rw [hL, Nat.sub_self]
    rfl
  · rintro σ' H' ⟨E, hL, o, rfl⟩
    rw [hL] at hQ
    exact sd_ret (etu_D (r := prL (0, 0)) (etu_U (eu_tup (ea_cons ev_c (ea_cons ev_c ea_nil)) (by simp)) rfl)) (hQ.go E)
theorem ok_last_left (T : TX K mg) : DefOk P w K mg base (1) "last_left" ["rows", "at", "place"] [] (spLast K) := by
  obtain ⟨fd, F, h⟩ := fn_last_left (P := P) (w := w) (base := base) T
  exact DefOk.of F (gl_last_left T) (F.bindsN fun _ _ _ _ _ _ us hl => match us, hl with | [_, _, _], _ => rfl) h
end

section
variable {P : Program} {w : World} {K : PySem.W.Frag} {mg : Str → Option Value} {base : Heap}
/-! ### is_first_lie -/
structure World3 (K : PySem.W.Frag) (H : Hp) (a b : Addr) (rs : List Row) (sw : List Swp) (m : Nat) : Prop where
  rows : ∃ ys, SqL K H a ys ∧ TupsAt K H ys (rs.map rowL)
  swps : ∃ zs, SqL K H b zs ∧ TupsAt K H zs (sw.map swpL)
  ok : RowsOk m rs
  few : rs.length ≤ 1000 ∧ m ≤ 1000 ∧ sw.length ≤ 1000
theorem World3.ex {H H' : Hp} {a b : Addr} {rs : List Row} {sw : List Swp} {m : Nat} (h : World3 K H a b rs sw m) (e : Ex H H') : World3 K H' a b rs sw m :=
  ⟨let ⟨ys, h1, h2⟩ := h.rows; ⟨ys, ex_l e h1, h2.ex e⟩, let ⟨ys, h1, h2⟩ := h.swps; ⟨ys, ex_l e h1, h2.ex e⟩, h.ok, h.few⟩
def spIsLie (K : PySem.W.Frag) : Sp := fun vs H Q _ => ∃ (a b : Addr) (v : V) (rs : List Row) (sw : List Swp) (m : Nat), vs = [.int (m : Int), .ref a, .ref b, v] ∧ World3 K H a b rs sw m ∧ Dp K H v (lieOf rs sw m) ∧ RetV (.bl true) H Q
theorem sv_islie {H : Hp} {a b : Addr} {v : V} {rs : List Row} {sw : List Swp} {m : Nat} (h : World3 K H a b rs sw m) (hv : Dp K H v (lieOf rs sw m)) : SpV (spIsLie K) [.int (m : Int), .ref a, .ref b, v] H (.bl true) := fun H1 e Q q E => ⟨a, b, v, rs, sw, m, rfl, h.ex e, dp_ex e hv, q⟩
theorem swp_get {H : Hp} {ys : List V} {sw : List Swp} {i : Nat} {y : V} (ht : TupsAt K H ys (sw.map swpL)) (h : ys[i]? = some y) : ∃ (hi : i < sw.length) (a : Addr), y = .ref a ∧ SqT K H a ((swpL sw[i]).map V.int) := by
  obtain ⟨hi, a, h1, h2⟩ := ht.at_ h
  rw [List.length_map] at hi
  rw [List.getElem_map] at h2
  exact ⟨hi, a, h1, h2⟩
theorem row_get2 {H : Hp} {ys : List V} {rs : List Row} {i : Nat} {y : V} (ht : TupsAt K H ys (rs.map rowL)) (h : ys[i]? = some y) : ∃ (hi : i < rs.length) (a : Addr), y = .ref a ∧ SqT K H a ((rowL rs[i]).map V.int) := by
  obtain ⟨hi, a, h1, h2⟩ := ht.at_ h
  rw [List.length_map] at hi
  rw [List.getElem_map] at h2
  exact ⟨hi, a, h1, h2⟩
def swpPrs (sw : List Swp) : List (Int × Int) := sw.map fun t => (t.2.1, t.2.2)
def lastPrs (rs : List Row) (m : Nat) : List (Int × Int) := (List.range m).map fun (p : Nat) => lastAt rs rs.length (p : Int)
theorem swp_bad {rs : List Row} {sw : List Swp} {m : Nat} : swpBad rs sw m = !decide (swpPrs sw = lastPrs rs m) := rfl
/-- [(told[1], told[2]) for told in sweep] -/
theorem etl_swp {σ : L2.St} {H : Hp} {tl : TE} {b : Addr} {zs : List V} {sw : List Swp} {j : Nat} {vs : List Nat} (h : Ev tl σ H (.ref b)) (hz : SqL K H b zs) (ht : TupsAt K H zs (sw.map swpL)) (hl : sw.length ≤ 1000) (hw : ∀ x, wipe ((wipe σ vs).set j (some x)) vs = wipe σ vs) (hj : ∀ x : V, ((wipe σ vs).set j (some x))[j]? = some (some x)) :
    EvTL K (tLc (iList K tl) (gName j) tYes (tTup (tCons (tOp (rIxT K) (tVar j) (tC (.int 1))) (tCons (tOp (rIxT K) (tVar j) (tC (.int 2))) tNil))) vs) σ H ((swpPrs sw).map prL) := by
  have hzl := ht.len
  rw [List.length_map] at hzl
  refine etl_list h hz (by simp [swpPrs, hzl]) (by simp [swpPrs]; omega) hw fun i x r H1 e1 hx hr => ?_
  obtain ⟨hi, t, rfl, hs⟩ := swp_get (ht.ex e1) hx
  rw [List.getElem?_map, swpPrs, List.getElem?_map, List.getElem?_eq_getElem hi] at hr
  obtain rfl := Option.some.inj hr
  exact etu_U (eu_tup (ea_cons (ev_op (ev_var (hj _)) ev_c (rv_ixT (v := .int sw[i].2.1) hs rfl)) (ea_cons (ev_op (ev_var (hj _)) ev_c (rv_ixT (v := .int sw[i].2.2) hs rfl)) ea_nil)) (by simp)) rfl
theorem sc_is_first_lie : FnScope ["places", "rows", "sweep", "lie", "lies", "at", "row", "told", "place"] ["places", "rows", "sweep", "lie"] (defScope s_is_first_lie) := ⟨rfl, rfl, rfl, by decide +kernel, rfl, by decide +kernel, by decide +kernel⟩
theorem fn_is_first_lie (T : TX K mg) : ∃ fd, FunD K "is_first_lie" "is_first_lie" (defArgs s_is_first_lie) (defBody s_is_first_lie) (defScope s_is_first_lie) [] [] (He.ga K "is_first_lie") fd ∧ FnOk P w K mg base CX0 (2) (He.ga K "is_first_lie") fd ["places", "rows", "sweep", "lie"] (spIsLie K) := by
  obtain ⟨fd, F⟩ := fd_is_first_lie T
  refine ⟨fd, F, My.FunD.ok0 F sc_is_first_lie (fun vs H Q E h => ?_) (fun cdv A outer s0 H vs Q E hr h => ?_)⟩
  · obtain ⟨a, b, v, rs, sw, m, rfl, hW, hv, hQ⟩ := h
    rfl
  obtain ⟨a, b, v, rs, sw, m, rfl, hW, hv, hQ⟩ := h
  have hu := hu_of hr
  refine ⟨_, (pss_cons (ps_setLc (i := 4) (own := [("at", 5), ("row", 6)]) rfl sc_is_first_lie.nd rfl rfl (sw_true rfl rfl rfl (by decide +kernel)) (pi_enum (by rfl) (fr_enumerate T) (pa_cons (pv 1) pa_nil)) (blkOk_by (own := [("at", 5), ("row", 6)]) (N := ["places", "rows", "sweep", "lie", "lies", "at", "row", "told", "place"]) (sc := defScope s_is_first_lie) (by decide +kernel)) (fun _ _ _ _ _ => (pg_tupK (n := 2) K rfl (pgs_cons (pg_name (i := 5) sc_is_first_lie.nd rfl (Or.inl rfl)) (pgs_cons (pg_name (i := 6) sc_is_first_lie.nd rfl (Or.inl rfl)) pgs_nil)))) (fun _ _ _ _ _ => (pts_one (pt_cmpR (neD K hr.units) (pe_tup (pa_cons (pe_ix (ixT K) (pv 6) pe_int (fun _ _ => rfl)) (pa_cons (pe_ix (ixT K) (pv 6) pe_int (fun _ _ => rfl)) pa_nil))) (pe_callN (ok_last_left (P := P) (w := w) (base := base) T) hr (pa_cons (pv 1) (pa_cons (pv 5) (pa_cons (pe_ix (ixT K) (pv 6) pe_int (fun _ _ => rfl)) pa_nil)))) (nomark _)))) (fun _ _ _ _ _ => (pv 5)))
      (pss_cons (ps_if (pt_truthK K (pv 4) (by intro _; rfl)) (pss_one (ps_ret (pe_cmpR op_eq (pv 3) (pe_ix (ixL K) (pv 4) pe_int (fun _ _ => rfl)) (nomark _)))) pss_nil)
      (pss_cons (ps_if (pt_cmpR (neD K hr.units) (pe_lc (own := [("told", 7)]) rfl sc_is_first_lie.nd (pi_list (pv 2)) (blkOk_by (own := [("told", 7)]) (N := ["places", "rows", "sweep", "lie", "lies", "at", "row", "told", "place"]) (sc := defScope s_is_first_lie) (by decide +kernel)) (fun _ _ _ _ _ => (pg_name (i := 7) sc_is_first_lie.nd rfl (Or.inl rfl))) (fun _ _ _ _ _ => pts_nil) (fun _ _ _ _ _ => (pe_tup (pa_cons (pe_ix (ixT K) (pv 7) pe_int (fun _ _ => rfl)) (pa_cons (pe_ix (ixT K) (pv 7) pe_int (fun _ _ => rfl)) pa_nil))))) (pe_lc (own := [("place", 8)]) rfl sc_is_first_lie.nd (pi_range1 rfl (fr_range T) (pa_cons (pv 0) pa_nil)) (blkOk_by (own := [("place", 8)]) (N := ["places", "rows", "sweep", "lie", "lies", "at", "row", "told", "place"]) (sc := defScope s_is_first_lie) (by decide +kernel)) (fun _ _ _ _ _ => (pg_name (i := 8) sc_is_first_lie.nd rfl (Or.inl rfl))) (fun _ _ _ _ _ => pts_nil) (fun _ _ _ _ _ => (pe_callN (ok_last_left (P := P) (w := w) (base := base) T) hr (pa_cons (pv 1) (pa_cons (pe_callB (lenQ K) (by rfl) (fr_len T) PySem.boot_len (pa_cons (pv 1) pa_nil)) (pa_cons (pv 8) pa_nil)))))) (nomark _)) (pss_one (ps_ret (pe_cmpR op_eq (pv 3) (pe_callB (lenQ K) (by rfl) (fr_len T) PySem.boot_len (pa_cons (pv 1) pa_nil)) (nomark _)))) pss_nil)
      (pss_one (ps_ret (pe_cmp (pc_isN (pv 3)))))))), ?_⟩
  obtain ⟨ys, hy, hyt⟩ := hW.rows
  obtain ⟨zs, hz, hzt⟩ := hW.swps
  obtain ⟨f1, f2, f3⟩ := hW.few
  have hyl := hyt.len
  rw [List.length_map] at hyl
  refine q_asgL (el_lcE (badAt rs) (fun i => .int (i : Int)) (ea_cons (ev_var rfl) ea_nil) hy (by omega) (fun _ _ => rfl) (fun i x H1 e1 hx => ?_) (fun i x H1 e1 hx hb => ev_var rfl)) fun p H1 np e1 h1 => ?_
  · obtain ⟨hi, t, rfl, hs⟩ := row_get2 (hyt.ex e1) hx
    rw [badAt_get hi]
    refine et_test (ev_is (ev_neD (d := tupD (prL (rs[i].2.1, rs[i].2.2.1))) (e := tupD (prL (lastAt rs i rs[i].1))) (etu_D (etu_U (eu_tup (ea_cons (ev_op (ev_var rfl) ev_c (rv_ixT (v := .int rs[i].2.1) hs rfl)) (ea_cons (ev_op (ev_var rfl) ev_c (rv_ixT (v := .int rs[i].2.2.1) hs rfl)) ea_nil)) (by simp)) rfl))
      (evd_callV (ea_cons (ev_var rfl) (ea_cons (ev_var rfl) (ea_cons (ev_op (ev_var rfl) ev_c (rv_ixT (v := .int rs[i].1) hs rfl)) ea_nil))) (svd_last (ex_l e1 hy) (hyt.ex e1) (by omega) f1)) (pr_sh _) (pr_sh _)) (by rw [pr_eqv]))
  rw [hyl] at h1
  have hhead : (given rs.length (badAt rs) fun i => .int (i : Int))[0]? = ((List.range rs.length).find? (badAt rs)).map fun (i : Nat) => V.int (i : Int) := by
    unfold given
    rw [List.getElem?_map, ← List.head?_eq_getElem?, List.head?_filter]
  cases hfind : (List.range rs.length).find? (badAt rs) with
  | some i0 =>
    rw [hfind] at hhead
    have hlie : lieOf rs sw m = .int i0 := by rw [lieOf, hfind]
    rw [hlie] at hv
    obtain rfl := dp_int hv
    have hne : (given rs.length (badAt rs) fun i => V.int (i : Int)).isEmpty = false := by
      cases hg : given rs.length (badAt rs) fun i => V.int (i : Int) with
      | nil =>
        rw [hg] at hhead
        cases hhead
      | cons _ _ => rfl
    refine q_when (et_tru (ev_var rfl) (sq_of h1)) (fun hb H2 e2 => ?_) (fun hb H2 e2 => ?_)
    · exact s_ret (ev_is (ev_op (ev_var rfl) (ev_op (ev_var rfl) ev_c (rv_ixL (sq_of (e2 _ _ h1)) (atI_nat (j := 0) hhead))) (rv_eq rfl)) (by simp)) fun H3 e3 => hQ H3 ((e1.trans e2).trans e3)
    · rw [hne] at hb
      cases hb
  | none =>
    rw [hfind] at hhead
    have hlie : lieOf rs sw m = if swpBad rs sw m = true then .int rs.length else .none := by rw [lieOf, hfind]
    have hne : (given rs.length (badAt rs) fun i => V.int (i : Int)).isEmpty = true := by
      cases hg : given rs.length (badAt rs) fun i => V.int (i : Int) with
      | nil => rfl
      | cons _ _ =>
        rw [hg] at hhead
        cases hhead
    refine q_when (et_tru (ev_var rfl) (sq_of h1)) (fun hb H2 e2 => ?_) (fun hb H2 e2 => ?_)
    · rw [hne] at hb
      cases hb
    have E2 := e1.trans e2
    refine q_when (et_test (ev_is (ev_neD (EvTL.toD (etl_swp (sw := sw) (ev_var rfl) (ex_l E2 hz) (hzt.ex E2) f3 (fun _ => rfl) (fun _ => rfl))) (EvTL.toD (etl_rng (rs := (lastPrs rs m).map prL) (n := (m : Int)) (ea_cons (ev_var rfl) ea_nil) (by omega) (by simp [lastPrs]) (fun _ => rfl) fun i r H3 e3 hi hr => ?_)) (prs_sh _) (prs_sh _)) (by rw [prs_eqv, ← swp_bad]))) (fun hb H3 e3 => ?_) (fun hb H3 e3 => ?_)
    · rw [List.getElem?_map, lastPrs, List.getElem?_map, List.getElem?_range (by omega)] at hr
      obtain rfl := Option.some.inj hr
      exact evd_tu (evd_callV (ea_cons (ev_var rfl) (ea_cons (ev_is (ev_cb (ea_cons (ev_var rfl) ea_nil) (rc_lenL (ex_l (E2.trans e3) hy))) (by rw [hyl])) (ea_cons (ev_var rfl) ea_nil))) (svd_last (ex_l (E2.trans e3) hy) (hyt.ex (E2.trans e3)) (Nat.le_refl _) f1))
    · rw [hlie, if_pos hb] at hv
      obtain rfl := dp_int hv
      exact s_ret (ev_is (ev_op (ev_var rfl) (ev_cb (ea_cons (ev_var rfl) ea_nil) (rc_lenL (ex_l (E2.trans e3) hy))) (rv_eq rfl)) (by rw [hyl]; simp)) fun H4 e4 => hQ H4 ((E2.trans e3).trans e4)
    · rw [hlie, if_neg (by rw [hb]; simp)] at hv
      obtain rfl := dp_none hv
      exact s_ret (ev_is (ev_isN (ev_var rfl)) (by simp)) fun H4 e4 => hQ H4 ((E2.trans e3).trans e4)
theorem ok_is_first_lie (T : TX K mg) : DefOk P w K mg base (2) "is_first_lie" ["places", "rows", "sweep", "lie"] [] (spIsLie K) := by
  obtain ⟨fd, F, h⟩ := fn_is_first_lie (P := P) (w := w) (base := base) T
  exact DefOk.of F (gl_is_first_lie T) (F.bindsN fun _ _ _ _ _ _ us hl => match us, hl with | [_, _, _, _], _ => rfl) h
end

section
variable {P : Program} {w : World} {K : PySem.W.Frag} {mg : Str → Option Value} {base : Heap}
/-! ### first_lie -/
def spLie (K : PySem.W.Frag) : Sp := fun vs H Q _ => ∃ (a b : Addr) (rs : List Row) (sw : List Swp) (m : Nat), vs = [.int (m : Int), .ref a, .ref b] ∧ World3 K H a b rs sw m ∧ RetD K (lieOf rs sw m) H Q
theorem svd_lie {H : Hp} {a b : Addr} {rs : List Row} {sw : List Swp} {m : Nat} (h : World3 K H a b rs sw m) : SpVD K (spLie K) [.int (m : Int), .ref a, .ref b] H (lieOf rs sw m) := fun H1 e Q q E => ⟨a, b, rs, sw, m, rfl, h.ex e, q⟩
def Rem (K : PySem.W.Frag) (H : Hp) (d : Addr) (rs : List Row) (i m : Nat) : Prop := ∃ kvs, H d = some (.dK kvs) ∧ kvs.length ≤ m + i ∧ ∀ p : Nat, (p : Int) < m → ∃ t, valV kvs (.inl (p : Int) : Key) = some (.ref t) ∧ SqT K H t ((prL (lastAt rs i (p : Int))).map V.int)
theorem Rem.ex {H H' : Hp} {d : Addr} {rs : List Row} {i m : Nat} (h : Rem K H d rs i m) (e : Ex H H') : Rem K H' d rs i m := by
  obtain ⟨kvs, h1, h2, h3⟩ := h
  exact ⟨kvs, e _ _ h1, h2, fun p hp => let ⟨t, g1, g2⟩ := h3 p hp; ⟨t, g1, ex_t e g2⟩⟩
theorem lie_cases (rs : List Row) {n : Nat} (h : n = rs.length) (hb : ∀ j < n, badAt rs j = false) : ∀ j < rs.length, badAt rs j = false := h ▸ hb
theorem sc_first_lie : FnScope ["places", "rows", "sweep", "remembered", "place", "lie", "at", "stamp", "time", "left", "told"] ["places", "rows", "sweep"] (defScope s_first_lie) := ⟨rfl, rfl, rfl, by decide +kernel, rfl, by decide +kernel, by decide +kernel⟩
theorem fn_first_lie (T : TX K mg) : ∃ fd, FunD K "first_lie" "first_lie" (defArgs s_first_lie) (defBody s_first_lie) (defScope s_first_lie) [] [] (He.ga K "first_lie") fd ∧ FnOk P w K mg base CX0 (3) (He.ga K "first_lie") fd ["places", "rows", "sweep"] (spLie K) := by
  obtain ⟨fd, F⟩ := fd_first_lie T
  refine ⟨fd, F, My.FunD.ok0 F sc_first_lie (fun vs H Q E h => ?_) (fun cdv A outer s0 H vs Q E hr h => ?_)⟩
  · obtain ⟨a, b, rs, sw, m, rfl, hW, hQ⟩ := h
    rfl
  obtain ⟨a, b, rs, sw, m, rfl, hW, hQ⟩ := h
  have hu := hu_of hr
  refine ⟨_, (pss_cons (ps_set (i := 3) sc_first_lie.nd rfl (Or.inr rfl) (pe_dc (own := [("place", 4)]) rfl sc_first_lie.nd (pi_range1 rfl (fr_range T) (pa_cons (pv 0) pa_nil)) (blkOk_by (own := [("place", 4)]) (N := ["places", "rows", "sweep", "remembered", "place", "lie", "at", "stamp", "time", "left", "told"]) (sc := defScope s_first_lie) (by decide +kernel)) (fun _ _ _ _ _ => (pg_name (i := 4) sc_first_lie.nd rfl (Or.inl rfl))) (fun _ _ _ _ _ => pts_nil) (fun _ _ _ _ _ => (pv 4)) (fun _ _ _ _ _ => (pe_tup (pa_cons pe_int (pa_cons pe_int pa_nil))))))
      (pss_cons (ps_set (i := 5) sc_first_lie.nd rfl (Or.inl rfl) pe_non)
      (pss_cut (ps_forE PassesOwn.never rfl (pi_enum (by rfl) (fr_enumerate T) (pa_cons (pv 1) pa_nil)) (pg_tupK (n := 2) K rfl (pgs_cons (pg_name (i := 6) sc_first_lie.nd rfl (Or.inl rfl)) (pgs_cons (pg_tupK (n := 4) K rfl (pgs_cons (pg_name (i := 4) sc_first_lie.nd rfl (Or.inl rfl)) (pgs_cons (pg_name (i := 7) sc_first_lie.nd rfl (Or.inl rfl)) (pgs_cons (pg_name (i := 8) sc_first_lie.nd rfl (Or.inl rfl)) (pgs_cons (pg_name (i := 9) sc_first_lie.nd rfl (Or.inl rfl)) pgs_nil))))) pgs_nil))) (pss_cons (ps_if (pt_cmpR (neD K hr.units) (pe_tup (pa_cons (pv 7) (pa_cons (pv 8) pa_nil))) (pe_dget hu (pv 3) (pv 4) (fun _ _ => rfl)) (nomark _)) (pss_cons (ps_set (i := 5) sc_first_lie.nd rfl (Or.inl rfl) (pv 6))
      (pss_one ps_break)) pss_nil)
      (pss_one (ps_dput hu (pv 3) (pv 4) (pe_tup (pa_cons (pv 9) (pa_cons (pe_op op_add (pv 6) pe_int) pa_nil))) rfl))) (pss_one (ps_if (pt_cmpR (neD K hr.units) (pe_lc (own := [("told", 10)]) rfl sc_first_lie.nd (pi_list (pv 2)) (blkOk_by (own := [("told", 10)]) (N := ["places", "rows", "sweep", "remembered", "place", "lie", "at", "stamp", "time", "left", "told"]) (sc := defScope s_first_lie) (by decide +kernel)) (fun _ _ _ _ _ => (pg_name (i := 10) sc_first_lie.nd rfl (Or.inl rfl))) (fun _ _ _ _ _ => pts_nil) (fun _ _ _ _ _ => (pe_tup (pa_cons (pe_ix (ixT K) (pv 10) pe_int (fun _ _ => rfl)) (pa_cons (pe_ix (ixT K) (pv 10) pe_int (fun _ _ => rfl)) pa_nil))))) (pe_lc (own := [("place", 4)]) rfl sc_first_lie.nd (pi_range1 rfl (fr_range T) (pa_cons (pv 0) pa_nil)) (blkOk_by (own := [("place", 4)]) (N := ["places", "rows", "sweep", "remembered", "place", "lie", "at", "stamp", "time", "left", "told"]) (sc := defScope s_first_lie) (by decide +kernel)) (fun _ _ _ _ _ => (pg_name (i := 4) sc_first_lie.nd rfl (Or.inl rfl))) (fun _ _ _ _ _ => pts_nil) (fun _ _ _ _ _ => (pe_dget hu (pv 3) (pv 4) (fun _ _ => rfl)))) (nomark _)) (pss_one (ps_set (i := 5) sc_first_lie.nd rfl (Or.inl rfl) (pe_callB (lenQ K) (by rfl) (fr_len T) PySem.boot_len (pa_cons (pv 1) pa_nil)))) pss_nil)))
      (pss_cons (ps_assert (pt_val (pe_callN (ok_is_first_lie (P := P) (w := w) (base := base) T) hr (pa_cons (pv 0) (pa_cons (pv 1) (pa_cons (pv 2) (pa_cons (pv 5) pa_nil)))))))
      (pss_one (ps_ret (pv 5))))))), ?_⟩
  obtain ⟨ys, hy, hyt⟩ := id hW.rows
  obtain ⟨zs, hz, hzt⟩ := id hW.swps
  obtain ⟨f1, f2, f3⟩ := id hW.few
  have hyl := hyt.len
  rw [List.length_map] at hyl
  refine q_dcR (K := K) (r := [0, 0]) (ea_cons (ev_var rfl) ea_nil) (by omega) (fun _ => rfl) (fun i H1 e1 => ev_var rfl) (fun i H1 e1 => etu_U (eu_tup (ea_cons ev_c (ea_cons ev_c ea_nil)) (by simp)) rfl) fun d kvs H1 nd e1 hd hkl hkv => ?_
  have hrem : Rem K H1 d rs 0 m := ⟨kvs, hd, by omega, fun p hp => hkv p hp⟩
  refine q_asg ev_c fun H2 e2 => ?_
  have E2 := e1.trans e2
  refine q_forEE (ea_cons (ev_var rfl) ea_nil) (ex_l E2 hy)
    (fun i σ' H' => Ex H H' ∧ Rem K H' d rs i m ∧ (∀ j < i, badAt rs j = false) ∧ ∃ o4 o6 o7 o8 o9 o10, σ' = [some (.int (m : Int)), some (.ref a), some (.ref b), some (.ref d), o4, some .non, o6, o7, o8, o9, o10])
    (fun σ' H' => Ex H H' ∧ ∃ v o4 o6 o7 o8 o9 o10, Dp K H' v (lieOf rs sw m) ∧ σ' = [some (.int (m : Int)), some (.ref a), some (.ref b), some (.ref d), o4, some v, o6, o7, o8, o9, o10]) ?_ ?_ ?_ ?_ ?_
  · exact fun H3 e3 => ⟨E2.trans e3, hrem.ex (e2.trans e3), fun j hj => by omega, _, _, _, _, _, _, rfl⟩
  · exact fun i σ' H' ⟨E, _⟩ => ex_l E hy
  · rintro i x T' σ' H' hx ⟨E, hR, hnb, o4, o6, o7, o8, o9, o10, rfl⟩ hT
    obtain ⟨hi, t, rfl, hs⟩ := row_get2 (hyt.ex E) hx
    have e0 : Ex H' (upd H' T' (.tup [.int (i : Int), .ref t])) := Ex.new hT
    refine ⟨T', [.int (i : Int), .ref t], rfl, st_of upd_same, rfl, .int (i : Int), [.ref t], rfl, .ref t, [], rfl, t, _, rfl, ex_t e0 hs, rfl, .int rs[i].1, _, rfl, .int rs[i].2.1, _, rfl, .int rs[i].2.2.1, _, rfl, .int rs[i].2.2.2, _, rfl, rfl, rfl, ?_⟩
    have E0 := E.trans e0
    have hR0 := hR.ex e0
    have hp := hW.ok rs[i] (List.getElem_mem hi)
    generalize upd H' T' (.tup [.int (i : Int), .ref t]) = Hb at E0 hR0 e0 ⊢
    obtain ⟨kv, hk1, hk2, hk3⟩ := hR0
    obtain ⟨pn, hpn⟩ : ∃ pn : Nat, rs[i].1 = (pn : Int) := ⟨rs[i].1.toNat, by omega⟩
    obtain ⟨tt, g1, g2⟩ := hk3 pn (by omega)
    rw [← hpn] at g1 g2
    refine q_when (et_test (ev_is (ev_neD (d := tupD (prL (rs[i].2.1, rs[i].2.2.1))) (e := tupD (prL (lastAt rs i rs[i].1))) (etu_D (etu_U (eu_tup (ea_cons (ev_var rfl) (ea_cons (ev_var rfl) ea_nil)) (by simp)) rfl)) (etu_D (etu_dget (ev_var rfl) (ev_var rfl) hk1 g1 g2)) (pr_sh _) (pr_sh _)) (by rw [pr_eqv, ← badAt_get hi]))) (fun hb H5 e5 => ?_) (fun hb H5 e5 => ?_)
    · refine q_asg (ev_var rfl) fun H6 e6 => ?_
      refine ⟨(E0.trans e5).trans e6, _, _, _, _, _, _, _, ?_, rfl⟩
      rw [lie_some hi hb hnb]
      exact .int _
    · refine s_dputU (eu_tup (ea_cons (ev_var rfl) (ea_cons (ev_op (ev_var rfl) ev_c rv_I0) ea_nil)) (by simp)) (ev_var rfl) (ev_var rfl) (e5 _ _ hk1) (by omega) fun t2 H6 e6 h6 => ?_
      have hk6 := (e5.trans e6) _ _ hk1
      refine ⟨((E0.trans e5).trans e6).mut nd, ⟨_, upd_same, ?_, fun p hp' => ?_⟩, fun j hj => ?_, _, _, _, _, _, _, rfl⟩
      · have := length_putK kv (.inl rs[i].1 : Key) (.ref t2)
        omega
      · rw [valV_put]
        by_cases hpi : (p : Int) = rs[i].1
        · refine ⟨t2, by rw [if_pos (by rw [hpi])], sqt_keep hk6 (by simp) (by simp) ?_⟩
          rw [hpi, lastAt_hit hi]
          exact st_of h6
        · obtain ⟨t', k1, k2⟩ := hk3 p hp'
          refine ⟨t', by rw [if_neg (by intro z; injection z with z; exact hpi z)]; exact k1, sqt_keep hk6 (by simp) (by simp) ?_⟩
          rw [lastAt_miss hi (fun z => hpi z.symm)]
          exact ex_t (e5.trans e6) k2
      · rcases Nat.lt_or_ge j i with h | h
        · exact hnb j h
        · rw [show j = i by omega]
          exact hb
  · rintro σ' H' ⟨E, hR, hnb, o4, o6, o7, o8, o9, o10, rfl⟩
    rw [hyl] at hR hnb
    have hlie := lie_none (sw := sw) (m := m) hnb
    obtain ⟨kv, hk1, hk2, hk3⟩ := hR
    refine s_when (et_test (ev_is (ev_neD (EvTL.toD (etl_swp (sw := sw) (ev_var rfl) (ex_l E hz) (hzt.ex E) f3 (fun _ => rfl) (fun _ => rfl))) (EvTL.toD (etl_rng (rs := (lastPrs rs m).map prL) (n := (m : Int)) (ea_cons (ev_var rfl) ea_nil) (by omega) (by simp [lastPrs]) (fun _ => rfl) fun i r H3 e3 hi hr => ?_)) (prs_sh _) (prs_sh _)) (by rw [prs_eqv, ← swp_bad]))) (fun hb H3 e3 => ?_) (fun hb H3 e3 => ?_)
    · rw [List.getElem?_map, lastPrs, List.getElem?_map, List.getElem?_range (by omega)] at hr
      obtain rfl := Option.some.inj hr
      obtain ⟨tt, g1, g2⟩ := hk3 i hi
      exact etu_dget (ev_var rfl) (ev_var rfl) (e3 _ _ hk1) g1 (ex_t e3 g2)
    · refine s_asg (ev_is (ev_cb (ea_cons (ev_var rfl) ea_nil) (rc_lenL (ex_l (E.trans e3) hy))) (by rw [hyl])) fun H4 e4 => ⟨(E.trans e3).trans e4, .int (rs.length : Int), _, _, _, _, _, _, ?_, rfl⟩
      rw [hlie, if_pos hb]
      exact .int _
    · refine ⟨E.trans e3, .non, _, _, _, _, _, _, ?_, rfl⟩
      rw [hlie, if_neg (by rw [hb]; simp)]
      exact .non
  · rintro σ' H' ⟨E, v, o4, o6, o7, o8, o9, o10, hv, rfl⟩
    refine et_B (ev_call (ea_cons (ev_var rfl) (ea_cons (ev_var rfl) (ea_cons (ev_var rfl) (ea_cons (ev_var rfl) ea_nil)))) (sv_islie (hW.ex E) hv)) H' (Ex.refl H') _ fun H5 e5 => ⟨rfl, ?_⟩
    exact sd_ret (evd_var rfl (dp_ex e5 hv)) (hQ.go (E.trans e5))
theorem ok_first_lie (T : TX K mg) : DefOk P w K mg base (3) "first_lie" ["places", "rows", "sweep"] [] (spLie K) := by
  obtain ⟨fd, F, h⟩ := fn_first_lie (P := P) (w := w) (base := base) T
  exact DefOk.of F (gl_first_lie T) (F.bindsN fun _ _ _ _ _ _ us hl => match us, hl with | [_, _, _], _ => rfl) h
end

section
variable {P : Program} {w : World} {K : PySem.W.Frag} {mg : Str → Option Value} {base : Heap}
theorem numok {a k sz : Int} (h1 : 0 ≤ a) (h2 : a ≤ 1000) (h3 : 0 ≤ k) (h4 : k ≤ 1000) (h5 : 0 < sz) (h6 : sz ≤ 1000) : NumOk a k sz := by unfold NumOk; omega
def spLeft (K : PySem.W.Frag) : Sp := fun vs H Q _ => ∃ (s : Addr) (ns : List Int) (a st : Int), vs = [.ref s, .int a, .int st] ∧ SqL K H s (ns.map V.int) ∧ ns.length ≤ 63 ∧ 0 ≤ a ∧ a ≤ 1000 ∧ ∀ x : Int, RetV (.int x) H Q
theorem sc_l_ledger_left : FnScope ["_law_script", "_law_at", "_law_stamp", "_law_number_here", "_law_kind"] ["_law_script", "_law_at", "_law_stamp"] (defScope s_l_ledger_left) := ⟨rfl, rfl, rfl, by decide +kernel, rfl, by decide +kernel, by decide +kernel⟩
theorem fn_l_ledger_left (T : TX K mg) : ∃ fd, FunD K "_law_ledger_left" "_law_ledger_left" (defArgs s_l_ledger_left) (defBody s_l_ledger_left) (defScope s_l_ledger_left) [] [] (He.ga K "_law_ledger_left") fd ∧ FnOk P w K mg base CX0 (2) (He.ga K "_law_ledger_left") fd ["_law_script", "_law_at", "_law_stamp"] (spLeft K) := by
  obtain ⟨fd, F⟩ := fd_l_ledger_left T
  refine ⟨fd, F, My.FunD.ok0 F sc_l_ledger_left (fun vs H Q E h => ?_) (fun cdv A outer s0 H vs Q E hr h => ?_)⟩
  · obtain ⟨s, ns, a, st, rfl, hS, hl, ha0, ha1, hQ⟩ := h
    rfl
  obtain ⟨s, ns, a, st, rfl, hS, hl, ha0, ha1, hQ⟩ := h
  have hu := hu_of hr
  refine ⟨_, (pss_cons (ps_set (i := 3) sc_l_ledger_left.nd rfl (Or.inl rfl) (pe_callN (ok_l_number (P := P) (w := w) (base := base) T) hr (pa_cons (pv 0) (pa_cons (pv 1) (pa_cons pe_int (pa_cons pe_int pa_nil))))))
      (pss_cons (ps_set (i := 4) sc_l_ledger_left.nd rfl (Or.inl rfl) (pe_callN (ok_l_number (P := P) (w := w) (base := base) T) hr (pa_cons (pv 0) (pa_cons (pv 1) (pa_cons pe_int (pa_cons pe_int pa_nil))))))
      (pss_cons (ps_if (PW.pt (pw_and (pt_cmpR op_eq (pv 4) pe_int (nomark _)) (pw_and1 (pt_cmpR op_gt (pv 2) pe_int (nomark _))))) (pss_one (ps_ret (pv 2))) pss_nil)
      (pss_cons (ps_if (pt_cmpR op_lt (pv 4) pe_int (nomark _)) (pss_one (ps_ret (pe_op op_add pe_int (pe_op op_mod (pe_callTy call_int1 (by rfl) (fr_int T) (by decide +kernel) (pa_cons (pv 3) pa_nil)) pe_int)))) pss_nil)
      (pss_cons (ps_if (pt_cmpR op_eq (pv 4) pe_int (nomark _)) (pss_one (ps_ret (pe_op op_add pe_int (pv 3)))) pss_nil)
      (pss_one (ps_ret (pe_op op_add pe_int (pe_op op_mul (pv 3) (pe_op op_pow pe_int pe_int)))))))))), ?_⟩
  have num : ∀ {σ : L2.St} {H1 : Hp} {k z : Int}, σ[0]? = some (some (.ref s)) → σ[1]? = some (some (.int a)) → Ex H H1 → 0 ≤ k → k ≤ 1000 → 0 < z → z ≤ 1000 → Ev (tCall (spNum K) [] E0 (tCons (tVar 0) (tCons (tVar 1) (tCons (tC (.int k)) (tCons (tC (.int z)) tNil))))) σ H1 (.int (lawNum ns a k z)) := fun r0 r1 e k0 k1 z0 z1 =>
    ev_call (ea_cons (ev_var r0) (ea_cons (ev_var r1) (ea_cons ev_c (ea_cons ev_c ea_nil)))) (sv_num (ex_l e hS) hl (numok ha0 ha1 k0 k1 z0 z1))
  refine q_asg (num rfl rfl (Ex.refl H) (by decide) (by decide) (by decide) (by decide)) fun H1 e1 => ?_
  refine q_asg (num rfl rfl e1 (by decide) (by decide) (by decide) (by decide)) fun H2 e2 => ?_
  have E2 := e1.trans e2
  refine q_when (et_and (et_test (ev_op (ev_var rfl) ev_c (rv_eq rfl))) fun _ => et_test (ev_op (ev_var rfl) ev_c rv_I0)) (fun hb H3 e3 => ?_) (fun hb H3 e3 => ?_)
  · exact s_ret (ev_var rfl) fun H4 e4 => hQ _ H4 ((E2.trans e3).trans e4)
  refine q_when (et_test (ev_op (ev_var rfl) ev_c rv_I0)) (fun hb H4 e4 => ?_) (fun hb H4 e4 => ?_)
  · exact s_ret (ev_op ev_c (ev_op (ev_cb (ea_cons (ev_var rfl) ea_nil) rc_int) ev_c (rv_I (by decide))) rv_I0) fun H5 e5 => hQ _ H5 (((E2.trans e3).trans e4).trans e5)
  refine q_when (et_test (ev_op (ev_var rfl) ev_c (rv_eq rfl))) (fun hb H5 e5 => ?_) (fun hb H5 e5 => ?_)
  · exact s_ret (ev_op ev_c (ev_var rfl) rv_I0) fun H6 e6 => hQ _ H6 ((((E2.trans e3).trans e4).trans e5).trans e6)
  · exact s_ret (ev_op ev_c (ev_op (ev_var rfl) (ev_op ev_c ev_c (rv_pow (by unfold CPow; decide))) (rv_I (by unfold CMul; right; decide))) rv_I0) fun H6 e6 => hQ _ H6 ((((E2.trans e3).trans e4).trans e5).trans e6)
theorem ok_l_ledger_left (T : TX K mg) : DefOk P w K mg base (2) "_law_ledger_left" ["_law_script", "_law_at", "_law_stamp"] [] (spLeft K) := by
  obtain ⟨fd, F, h⟩ := fn_l_ledger_left (P := P) (w := w) (base := base) T
  exact DefOk.of F (gl_l_ledger_left T) (F.bindsN fun _ _ _ _ _ _ us hl => match us, hl with | [_, _, _], _ => rfl) h
/-! ### the law's own search -/
def spLL (K : PySem.W.Frag) : Sp := fun vs H Q _ => ∃ (a b : Addr) (rs : List Row) (sw : List Swp) (m : Nat), vs = [.int (m : Int), .ref a, .ref b] ∧ World3 K H a b rs sw m ∧ sw.length = m ∧ RetD K (lieOf rs sw m) H Q
theorem svd_ll {H : Hp} {a b : Addr} {rs : List Row} {sw : List Swp} {m : Nat} (h : World3 K H a b rs sw m) (hm : sw.length = m) : SpVD K (spLL K) [.int (m : Int), .ref a, .ref b] H (lieOf rs sw m) := fun H1 e Q q E => ⟨a, b, rs, sw, m, rfl, h.ex e, hm, q⟩
def lastN (rs : List Row) (i m : Nat) : List (Int × Int) := (List.range m).map fun (p : Nat) => lastAt rs i (p : Int)
theorem lastN_set {rs : List Row} {i m pn : Nat} (hi : i < rs.length) (hp : rs[i].1 = (pn : Int)) : (lastN rs i m).set pn (rs[i].2.2.2, (i : Int) + 1) = lastN rs (i + 1) m := by
  refine List.ext_getElem? fun k => ?_
  rw [List.getElem?_set]
  by_cases hk : k < m
  · rw [lastN, lastN, List.getElem?_map, List.getElem?_map, List.getElem?_range hk, List.length_map, List.length_range]
    by_cases hpk : pn = k
    · subst hpk
      rw [if_pos rfl, if_pos hk]
      show some _ = some (lastAt rs (i + 1) (pn : Int))
      rw [← hp, lastAt_hit hi]
    · rw [if_neg hpk]
      show some (lastAt rs i (k : Int)) = some (lastAt rs (i + 1) (k : Int))
      rw [lastAt_miss hi (by rw [hp]; omega)]
  · rw [List.getElem?_eq_none (by simp [lastN]; omega), List.getElem?_eq_none (by simp [lastN]; omega)]
    by_cases hpk : pn = k
    · subst hpk
      rw [if_pos rfl, if_neg (by simp [lastN]; omega)]
    · rw [if_neg hpk]
theorem su_setL {te ta tb : TE} {σ : L2.St} {H : Hp} {D : L2.Ends} {l : Addr} {xs zs : List V} {j : Nat} (hl : H l = some (.lst xs)) (h : EvU te σ H zs) (ho : Ev ta σ H (.ref l)) (hi : Ev tb σ H (.int (j : Int))) (hj : j < xs.length)
    (k : ∀ p H1, Ex H H1 → H1 p = some (.tup zs) → D.nx σ (upd H1 l (.lst (xs.set j (.ref p))))) : tAsg te (gSub ta tb rSetL) D σ H := h H (Ex.refl H) _ fun p H1 np e1 h1 => ho H1 e1 _ fun H2 e2 => hi H2 (e1.trans e2) _ fun H3 e3 =>
  ⟨l, xs, (j : Int), j, rfl, rfl, ((e1.trans e2).trans e3) l _ hl, ixN_nat hj, k p H3 ((e1.trans e2).trans e3) ((e2.trans e3) _ _ h1)⟩
theorem q_asgTL {te : TE} {σ : L2.St} {H : Hp} {D : L2.Ends} {tz : TS} {i : Nat} {rs : List (List Int)} (h : EvTL K te σ H rs) (k : ∀ p vs H1, H p = none → Ex H H1 → H1 p = some (.lst vs) → TupsAt K H1 vs rs → tz D (σ.set i (some (.ref p))) H1) : tSeq (tAsg te (gName i)) tz D σ H := h H (Ex.refl H) _ k
theorem lastN_get {rs : List Row} {i m p : Nat} (h : p < m) : ((lastN rs i m).map prL)[p]? = some (prL (lastAt rs i (p : Int))) := by
  rw [List.getElem?_map, lastN, List.getElem?_map, List.getElem?_range h]
  rfl
theorem sc_l_ledger_lie : FnScope ["_law_many", "_law_rows", "_law_sweep", "_law_last", "_law_k", "_law_at", "_law_row"] ["_law_many", "_law_rows", "_law_sweep"] (defScope s_l_ledger_lie) := ⟨rfl, rfl, rfl, by decide +kernel, rfl, by decide +kernel, by decide +kernel⟩
theorem fn_l_ledger_lie (T : TX K mg) : ∃ fd, FunD K "_law_ledger_lie" "_law_ledger_lie" (defArgs s_l_ledger_lie) (defBody s_l_ledger_lie) (defScope s_l_ledger_lie) [] [] (He.ga K "_law_ledger_lie") fd ∧ FnOk P w K mg base CX0 (2) (He.ga K "_law_ledger_lie") fd ["_law_many", "_law_rows", "_law_sweep"] (spLL K) := by
  obtain ⟨fd, F⟩ := fd_l_ledger_lie T
  refine ⟨fd, F, My.FunD.ok0 F sc_l_ledger_lie (fun vs H Q E h => ?_) (fun cdv A outer s0 H vs Q E hr h => ?_)⟩
  · obtain ⟨a, b, rs, sw, m, rfl, hW, hsm, hQ⟩ := h
    rfl
  obtain ⟨a, b, rs, sw, m, rfl, hW, hsm, hQ⟩ := h
  have hu := hu_of hr
  refine ⟨_, (pss_cons (ps_setLc (i := 3) (own := [("_law_k", 4)]) rfl sc_l_ledger_lie.nd rfl rfl (sw_true rfl rfl rfl (by decide +kernel)) (pi_range1 rfl (fr_range T) (pa_cons (pv 0) pa_nil)) (blkOk_by (own := [("_law_k", 4)]) (N := ["_law_many", "_law_rows", "_law_sweep", "_law_last", "_law_k", "_law_at", "_law_row"]) (sc := defScope s_l_ledger_lie) (by decide +kernel)) (fun _ _ _ _ _ => (pg_name (i := 4) sc_l_ledger_lie.nd rfl (Or.inl rfl))) (fun _ _ _ _ _ => pts_nil) (fun _ _ _ _ _ => (pe_tup (pa_cons pe_int (pa_cons pe_int pa_nil)))))
      (pss_cut (ps_for PassesOwn.never rfl (pi_range1 rfl (fr_range T) (pa_cons (pe_callB (lenQ K) (by rfl) (fr_len T) PySem.boot_len (pa_cons (pv 1) pa_nil)) pa_nil)) (pg_name (i := 5) sc_l_ledger_lie.nd rfl (Or.inl rfl)) (pss_cons (ps_set (i := 6) sc_l_ledger_lie.nd rfl (Or.inl rfl) (pe_ix (ixL K) (pv 1) (pv 5) (fun _ _ => rfl)))
      (pss_cons (ps_if (pt_cmpR (neD K hr.units) (pe_tup (pa_cons (pe_ix (ixT K) (pv 6) pe_int (fun _ _ => rfl)) (pa_cons (pe_ix (ixT K) (pv 6) pe_int (fun _ _ => rfl)) pa_nil))) (pe_ix (ixL K) (pv 3) (pe_ix (ixT K) (pv 6) pe_int (fun _ _ => rfl)) (fun _ _ => rfl)) (nomark _)) (pss_one (ps_ret (pv 5))) pss_nil)
      (pss_one (ps_asg (pe_tup (pa_cons (pe_ix (ixT K) (pv 6) pe_int (fun _ _ => rfl)) (pa_cons (pe_op op_add (pv 5) pe_int) pa_nil))) (pg_sub (pv 3) (pe_ix (ixT K) (pv 6) pe_int (fun _ _ => rfl)) set_list))))))
      (pss_cut (ps_for PassesOwn.never rfl (pi_range1 rfl (fr_range T) (pa_cons (pv 0) pa_nil)) (pg_name (i := 4) sc_l_ledger_lie.nd rfl (Or.inl rfl)) (pss_one (ps_if (pt_cmpR (neD K hr.units) (pe_tup (pa_cons (pe_ix (ixT K) (pe_ix (ixL K) (pv 2) (pv 4) (fun _ _ => rfl)) pe_int (fun _ _ => rfl)) (pa_cons (pe_ix (ixT K) (pe_ix (ixL K) (pv 2) (pv 4) (fun _ _ => rfl)) pe_int (fun _ _ => rfl)) pa_nil))) (pe_ix (ixL K) (pv 3) (pv 4) (fun _ _ => rfl)) (nomark _)) (pss_one (ps_ret (pe_callB (lenQ K) (by rfl) (fr_len T) PySem.boot_len (pa_cons (pv 1) pa_nil)))) pss_nil)))
      (pss_one (ps_ret pe_non))))), ?_⟩
  obtain ⟨ys, hy, hyt⟩ := id hW.rows
  obtain ⟨zs, hz, hzt⟩ := id hW.swps
  obtain ⟨f1, f2, f3⟩ := id hW.few
  have hyl := hyt.len
  rw [List.length_map] at hyl
  have mk : EvTL K (tLc (iRng1 (tCons (tVar 0) tNil)) (gName 4) tYes (tTup (tCons (tC (.int 0)) (tCons (tC (.int 0)) tNil))) [4]) [some (.int (m : Int)), some (.ref a), some (.ref b), none, none, none, none] H ((lastN rs 0 m).map prL) :=
    etl_rng (n := (m : Int)) (ea_cons (ev_var rfl) ea_nil) (by omega) (by simp [lastN]) (fun _ => rfl) fun i r H1 e1 hi hr => by
      rw [lastN_get (by omega)] at hr
      obtain rfl := Option.some.inj hr
      exact etu_U (eu_tup (ea_cons ev_c (ea_cons ev_c ea_nil)) (by simp)) rfl
  refine q_asgTL mk fun d vs H1 nd e1 hd hdt => ?_
  have lastI : ∀ {Hc : Hp} {σ : L2.St} {acc : List V} {i pn : Nat} {ti : TE}, pn < m → σ[3]? = some (some (.ref d)) → Hc d = some (.lst acc) → TupsAt K Hc acc ((lastN rs i m).map prL) → Ev ti σ Hc (.int (pn : Int)) → EvTu K (tOp (rIxL K) (tVar 3) ti) σ Hc (prL (lastAt rs i (pn : Int))) := fun {Hc σ acc i pn ti} hp r3 h ht hi => by
    obtain ⟨t, g1, g2⟩ := ht.get (i := pn) (by simp [lastN]; exact hp)
    have hg := lastN_get (rs := rs) (i := i) hp
    rw [List.getElem?_eq_getElem (by simp [lastN]; exact hp)] at hg
    rw [Option.some.inj hg] at g2
    exact etu_of (ev_op (ev_var r3) hi (rv_ixL (sq_of h) (atI_nat g1))) g2
  refine q_forR1' (n := (rs.length : Int)) (ea_cons (ev_is (ev_cb (ea_cons (ev_var rfl) ea_nil) (rc_lenL (ex_l e1 hy))) (by rw [hyl])) ea_nil) (by omega)
    (fun i σ' H' => Ex H H' ∧ (∀ j < i, badAt rs j = false) ∧ (∃ acc, H' d = some (.lst acc) ∧ TupsAt K H' acc ((lastN rs i m).map prL)) ∧ ∃ o4 o5 o6, σ' = [some (.int (m : Int)), some (.ref a), some (.ref b), some (.ref d), o4, o5, o6])
    (fun σ' H' => Ex H H' ∧ (∀ j < rs.length, badAt rs j = false) ∧ (∃ acc, H' d = some (.lst acc) ∧ TupsAt K H' acc ((lastN rs rs.length m).map prL)) ∧ ∃ o4 o5 o6, σ' = [some (.int (m : Int)), some (.ref a), some (.ref b), some (.ref d), o4, o5, o6]) ?_ ?_ ?_ ?_
  · exact fun H2 e2 => ⟨e1.trans e2, fun j hj => by omega, ⟨vs, e2 _ _ hd, hdt.ex e2⟩, _, _, _, rfl⟩
  · rintro i σ' H' hi ⟨E, hnb, ⟨acc, hac, hat⟩, o4, o5, o6, rfl⟩
    have hi' : i < rs.length := by omega
    obtain ⟨t, g1, hs⟩ := row_get (hyt.ex E) hi'
    refine q_asg (ev_op (ev_var rfl) (ev_var rfl) (rv_ixL (ex_l E hy) (atI_nat g1))) fun H2 e2 => ?_
    have E2 := E.trans e2
    have hs2 := ex_t e2 hs
    have hp := hW.ok rs[i] (List.getElem_mem hi')
    obtain ⟨pn, hpn⟩ : ∃ pn : Nat, rs[i].1 = (pn : Int) := ⟨rs[i].1.toNat, by omega⟩
    have hcol0 : ∀ {Hc : Hp} {σ : L2.St}, Ex H2 Hc → σ[6]? = some (some (.ref t)) → Ev (tOp (rIxT K) (tVar 6) (tC (.int 0))) σ Hc (.int (pn : Int)) := fun e r => hpn ▸ ev_op (ev_var r) ev_c (rv_ixT (v := .int rs[i].1) (ex_t e hs2) rfl)
    refine q_when (et_test (ev_is (ev_neD (d := tupD (prL (rs[i].2.1, rs[i].2.2.1))) (e := tupD (prL (lastAt rs i (pn : Int)))) (etu_D (etu_U (eu_tup (ea_cons (ev_op (ev_var rfl) ev_c (rv_ixT (v := .int rs[i].2.1) hs2 rfl)) (ea_cons (ev_op (ev_var rfl) ev_c (rv_ixT (v := .int rs[i].2.2.1) hs2 rfl)) ea_nil)) (by simp)) rfl)) (etu_D (lastI (by omega) rfl (e2 _ _ hac) (hat.ex e2) (hcol0 (Ex.refl H2) rfl))) (pr_sh _) (pr_sh _)) (by rw [pr_eqv, ← hpn, ← badAt_get hi']))) (fun hb H3 e3 => ?_) (fun hb H3 e3 => ?_)
    · refine sd_ret (d := lieOf rs sw m) ?_ (hQ.go (E2.trans e3))
      rw [lie_some hi' hb hnb]
      exact evd_i (ev_var rfl)
    · have hal := hat.len
      refine su_setL (j := pn) ((e2.trans e3) _ _ hac) (eu_tup (ea_cons (ev_op (ev_var rfl) ev_c (rv_ixT (v := .int rs[i].2.2.2) (ex_t e3 hs2) rfl)) (ea_cons (ev_op (ev_var rfl) ev_c rv_I0) ea_nil)) (by simp)) (ev_var rfl) (hcol0 e3 rfl) (by rw [hal]; simp [lastN]; omega) fun t2 H4 e4 h4 => ?_
      have hac4 := ((e2.trans e3).trans e4) _ _ hac
      refine ⟨((E2.trans e3).trans e4).mut nd, fun j hj => ?_, ⟨_, upd_same, ?_⟩, _, _, _, rfl⟩
      · rcases Nat.lt_or_ge j i with h | h
        · exact hnb j h
        · rw [show j = i by omega]
          exact hb
      · rw [← lastN_set hi' hpn, List.map_set]
        exact ((hat.ex ((e2.trans e3).trans e4)).keep hac4 (by simp) (by simp)).set (sqt_keep hac4 (by simp) (by simp) (st_of h4))
  · rintro σ' H' ⟨E, hnb, h, o4, o5, o6, rfl⟩
    rw [show ((rs.length : Int)).toNat = rs.length by omega] at hnb h
    exact ⟨E, hnb, h, _, _, _, rfl⟩
  · rintro σ' H2 ⟨E, hnb, ⟨acc, hac, hat⟩, o4, o5, o6, rfl⟩
    have hlie := lie_none (sw := sw) (m := m) hnb
    refine q_forR1' (n := (m : Int)) (ea_cons (ev_var rfl) ea_nil) (by omega)
      (fun k σ' H' => Ex H2 H' ∧ (∀ j < k, (swpPrs sw)[j]? = (lastPrs rs m)[j]?) ∧ ∃ o4 o5 o6, σ' = [some (.int (m : Int)), some (.ref a), some (.ref b), some (.ref d), o4, o5, o6])
      (fun σ' H' => Ex H2 H' ∧ swpPrs sw = lastPrs rs m) ?_ ?_ ?_ ?_
    · exact fun H3 e3 => ⟨e3, fun j hj => by omega, _, _, _, rfl⟩
    · rintro k σ' H' hk ⟨E3, hall, o4, o5, o6, rfl⟩
      have hk' : k < m := by omega
      have hks : k < sw.length := by omega
      obtain ⟨t, g1, g2⟩ := (hzt.ex (E.trans E3)).get (i := k) (by rw [List.length_map]; exact hks)
      rw [List.getElem_map] at g2
      have hsw : Ev (tOp (rIxL K) (tVar 2) (tVar 4)) ([some (.int (m : Int)), some (.ref a), some (.ref b), some (.ref d), some (.int (k : Int)), o5, o6] : L2.St) H' (.ref t) := ev_op (ev_var rfl) (ev_var rfl) (rv_ixL (ex_l (E.trans E3) hz) (atI_nat g1))
      have e1k : (swpPrs sw)[k]? = some (sw[k].2.1, sw[k].2.2) := by rw [swpPrs, List.getElem?_map, List.getElem?_eq_getElem hks]; rfl
      have e2k : (lastPrs rs m)[k]? = some (lastAt rs rs.length (k : Int)) := by rw [lastPrs, List.getElem?_map, List.getElem?_range hk']; rfl
      refine s_when (et_test (ev_is (ev_neD (d := tupD (prL (sw[k].2.1, sw[k].2.2))) (e := tupD (prL (lastAt rs rs.length (k : Int)))) (etu_D (etu_U (eu_tup (ea_cons (ev_op hsw ev_c (rv_ixT (v := .int sw[k].2.1) g2 rfl)) (ea_cons (ev_op hsw ev_c (rv_ixT (v := .int sw[k].2.2) g2 rfl)) ea_nil)) (by simp)) rfl)) (etu_D (lastI hk' rfl (E3 _ _ hac) (hat.ex E3) (ev_var rfl))) (pr_sh _) (pr_sh _)) (by rw [pr_eqv]))) (fun hb H4 e4 => ?_) (fun hb H4 e4 => ?_)
      · have hbad : swpBad rs sw m = true := by
          rw [swp_bad, Bool.not_eq_true', decide_eq_false_iff_not]
          intro z
          rw [z, e2k] at e1k
          rw [Option.some.inj e1k] at hb
          simp at hb
        refine sd_ret (d := lieOf rs sw m) ?_ (hQ.go ((E.trans E3).trans e4))
        rw [hlie, if_pos hbad]
        exact evd_i (ev_is (ev_cb (ea_cons (ev_var rfl) ea_nil) (rc_lenL (ex_l ((E.trans E3).trans e4) hy))) (by rw [hyl]))
      · refine ⟨E3.trans e4, fun j hj => ?_, _, _, _, rfl⟩
        rcases Nat.lt_or_ge j k with h | h
        · exact hall j h
        · rw [show j = k by omega, e1k, e2k]
          have : (sw[k].2.1, sw[k].2.2) = lastAt rs rs.length (k : Int) := by simpa using hb
          rw [this]
    · rintro σ' H' ⟨E3, hall, _⟩
      refine ⟨E3, List.ext_getElem? fun j => ?_⟩
      by_cases hj : j < m
      · exact hall j (by omega)
      · rw [List.getElem?_eq_none (by simp [swpPrs]; omega), List.getElem?_eq_none (by simp [lastPrs]; omega)]
    · rintro σ' H' ⟨E3, heq⟩
      refine sd_ret (d := lieOf rs sw m) ?_ (hQ.go (E.trans E3))
      rw [hlie, if_neg (by rw [swp_bad, heq]; simp)]
      exact evd_non
theorem ok_l_ledger_lie (T : TX K mg) : DefOk P w K mg base (2) "_law_ledger_lie" ["_law_many", "_law_rows", "_law_sweep"] [] (spLL K) := by
  obtain ⟨fd, F, h⟩ := fn_l_ledger_lie (P := P) (w := w) (base := base) T
  exact DefOk.of F (gl_l_ledger_lie T) (F.bindsN fun _ _ _ _ _ _ us hl => match us, hl with | [_, _, _], _ => rfl) h
end

section
variable {P : Program} {w : World} {K : PySem.W.Frag} {mg : Str → Option Value} {base : Heap}
/-! ### the world that is built: lists of lists -/
/-- the first three items of a spot, and its rest -/
def spotV (p s t : Int) (r : List V) : HO := .lst (.int p :: .int s :: .int t :: r)
structure IsSpot (H0 H : Hp) (x : Addr) : Prop where
  new : H0 x = none
  at_ : ∃ (p s t : Int) (r : List V), H x = some (spotV p s t r) ∧ (r = [] ∨ ∃ l : Int, r = [.int l])
/-- the k-th spot is named k -/
def Nm (H : Hp) (bs : List Addr) : Prop := ∀ k (h : k < bs.length), ∃ s t : Int, H bs[k] = some (spotV (k : Int) s t [])
structure Bld (H0 H : Hp) (rp sp : Addr) (c m : Nat) : Prop where
  ex : Ex H0 H
  rs : ∃ as : List Addr, H rp = some (.lst (as.map V.ref)) ∧ as.length = c ∧ ∀ x ∈ as, H0 x = none ∧ ∃ p s t l : Int, H x = some (spotV p s t [.int l]) ∧ 0 ≤ p ∧ p < m
  ss : ∃ bs : List Addr, H sp = some (.lst (bs.map V.ref)) ∧ bs.length = m ∧ (∀ x ∈ bs, H0 x = none ∧ ∃ p s t : Int, H x = some (spotV p s t [])) ∧ Nm H bs
  fr : H0 rp = none
  fs : H0 sp = none
theorem spot_inj {p s t p' s' t' : Int} {r r' : List V} (h : spotV p s t r = spotV p' s' t' r') : p = p' ∧ s = s' ∧ t = t' ∧ r = r' := by
  unfold spotV at h
  injection h with h
  injection h with h1 h
  injection h with h2 h
  injection h with h3 h
  injection h1 with h1
  injection h2 with h2
  injection h3 with h3
  exact ⟨h1, h2, h3, h⟩
theorem spot_refs {p s t : Int} {r : List V} {as : List Addr} (h : spotV p s t r = .lst (as.map V.ref)) : False := by
  unfold spotV at h
  injection h with h
  cases as with
  | nil => cases h
  | cons a as =>
    injection h with h1 h
    cases h1
theorem Nm.to {H H' : Hp} {bs : List Addr} (n : Nm H bs) (e : Ex H H') : Nm H' bs := fun k h => let ⟨s, t, q⟩ := n k h; ⟨s, t, e _ _ q⟩
theorem Nm.upd {H : Hp} {bs : List Addr} {x : Addr} {p s t s' t' : Int} {r r' : List V} (n : Nm H bs) (hx : H x = some (spotV p s t r)) (h0 : r = [] → r' = []) : Nm (L2.upd H x (spotV p s' t' r')) bs := fun k h => by
  obtain ⟨s2, t2, q⟩ := n k h
  by_cases hyx : bs[k] = x
  · rw [hyx, hx] at q
    obtain ⟨rfl, rfl, rfl, rfl⟩ := spot_inj (Option.some.inj q)
    exact ⟨s', t', by rw [hyx, upd_same, h0 rfl]⟩
  · exact ⟨s2, t2, by rw [upd_ne hyx]; exact q⟩
theorem Nm.off {H : Hp} {bs as : List Addr} {x : Addr} {o : HO} (n : Nm H bs) (hx : H x = some (.lst (as.map V.ref))) : Nm (L2.upd H x o) bs := fun k h => by
  obtain ⟨s2, t2, q⟩ := n k h
  refine ⟨s2, t2, ?_⟩
  rw [upd_ne]
  · exact q
  · intro z
    rw [z, hx] at q
    exact spot_refs (Option.some.inj q).symm
theorem Nm.set {H : Hp} {bs : List Addr} {x : Addr} {i : Nat} {s t : Int} (n : Nm H bs) (hx : H x = some (spotV (i : Int) s t [])) : Nm H (bs.set i x) := fun k h => by
  rw [List.length_set] at h
  rw [List.getElem_set]
  by_cases hik : i = k
  · subst hik
    rw [if_pos rfl]
    exact ⟨s, t, hx⟩
  · rw [if_neg hik]
    exact n k h
theorem Bld.to {H0 H H' : Hp} {rp sp : Addr} {c m : Nat} (B : Bld H0 H rp sp c m) (e : Ex H H') : Bld H0 H' rp sp c m := by
  obtain ⟨e0, ⟨as, h1, h2, h3⟩, ⟨bs, g1, g2, g3, g4⟩, fr, fs⟩ := B
  exact ⟨e0.trans e, ⟨as, e _ _ h1, h2, fun x hx => let ⟨n, p, s, t, l, h, hp⟩ := h3 x hx; ⟨n, p, s, t, l, e _ _ h, hp⟩⟩, ⟨bs, e _ _ g1, g2, fun x hx => let ⟨n, p, s, t, h⟩ := g3 x hx; ⟨n, p, s, t, e _ _ h⟩, g4.to e⟩, fr, fs⟩
theorem IsSpot.to {H0 H H' : Hp} {x : Addr} (h : IsSpot H0 H x) (e : Ex H H') : IsSpot H0 H' x := ⟨h.new, let ⟨p, s, t, r, h1, h2⟩ := h.at_; ⟨p, s, t, r, e _ _ h1, h2⟩⟩
/-- a spot's items other than the first may change -/
theorem Bld.upd {H0 H : Hp} {rp sp x : Addr} {c m : Nat} {p s t s' t' : Int} {r r' : List V} (B : Bld H0 H rp sp c m) (hn : H0 x = none) (hx : H x = some (spotV p s t r)) (h0 : r = [] → r' = []) (h1 : ∀ l : Int, r = [.int l] → ∃ l' : Int, r' = [.int l']) : Bld H0 (L2.upd H x (spotV p s' t' r')) rp sp c m := by
  obtain ⟨e0, ⟨as, k1, k2, k3⟩, ⟨bs, g1, g2, g3, g4⟩, fr, fs⟩ := B
  have nr : rp ≠ x := fun z => by
    rw [z, hx] at k1
    exact spot_refs (Option.some.inj k1)
  have ns : sp ≠ x := fun z => by
    rw [z, hx] at g1
    exact spot_refs (Option.some.inj g1)
  refine ⟨e0.mut hn, ⟨as, by rw [upd_ne nr]; exact k1, k2, fun y hy => ?_⟩, ⟨bs, by rw [upd_ne ns]; exact g1, g2, fun y hy => ?_, g4.upd hx h0⟩, fr, fs⟩
  · obtain ⟨n, p2, s2, t2, l, h, hp⟩ := k3 y hy
    by_cases hyx : y = x
    · subst hyx
      rw [hx] at h
      obtain ⟨rfl, rfl, rfl, rfl⟩ := spot_inj (Option.some.inj h)
      obtain ⟨l', rfl⟩ := h1 l rfl
      exact ⟨n, p, s', t', l', upd_same, hp⟩
    · exact ⟨n, p2, s2, t2, l, by rw [upd_ne hyx]; exact h, hp⟩
  · obtain ⟨n, p2, s2, t2, h⟩ := g3 y hy
    by_cases hyx : y = x
    · subst hyx
      rw [hx] at h
      obtain ⟨rfl, rfl, rfl, rfl⟩ := spot_inj (Option.some.inj h)
      rw [h0 rfl]
      exact ⟨n, p, s', t', upd_same⟩
    · exact ⟨n, p2, s2, t2, by rw [upd_ne hyx]; exact h⟩
theorem IsSpot.upd {H0 H : Hp} {x y : Addr} {p s t : Int} {r : List V} (h : IsSpot H0 H y) (hr : r = [] ∨ ∃ l : Int, r = [.int l]) : IsSpot H0 (L2.upd H x (spotV p s t r)) y := by
  refine ⟨h.new, ?_⟩
  by_cases hyx : y = x
  · subst hyx
    exact ⟨p, s, t, r, upd_same, hr⟩
  · obtain ⟨p2, s2, t2, r2, h1, h2⟩ := h.at_
    exact ⟨p2, s2, t2, r2, by rw [upd_ne hyx]; exact h1, h2⟩
/-- one[1], one[2] -/
theorem spot_get {σ : L2.St} {H0 H : Hp} {te : TE} {x : Addr} (h : IsSpot H0 H x) (hx : Ev te σ H (.ref x)) : (∃ v : Int, Ev (tOp (rIxL K) te (tC (.int 0))) σ H (.int v)) ∧ (∃ v : Int, Ev (tOp (rIxL K) te (tC (.int 1))) σ H (.int v)) ∧ ∃ v : Int, Ev (tOp (rIxL K) te (tC (.int 2))) σ H (.int v) := by
  obtain ⟨p, s, t, r, h1, _⟩ := h.at_
  exact ⟨⟨p, ev_op hx ev_c (rv_ixL (sq_of h1) (atI_nat (j := 0) rfl))⟩, ⟨s, ev_op hx ev_c (rv_ixL (sq_of h1) (atI_nat (j := 1) rfl))⟩, ⟨t, ev_op hx ev_c (rv_ixL (sq_of h1) (atI_nat (j := 2) rfl))⟩⟩
/-- one[1] = .., one[2] = .. -/
theorem s_spot {σ : L2.St} {H0 H : Hp} {D : L2.Ends} {te ta : TE} {x rp sp : Addr} {c m j : Nat} {v : Int} (B : Bld H0 H rp sp c m) (h : IsSpot H0 H x) (hj : j = 1 ∨ j = 2) (hv : Ev te σ H (.int v)) (hx : Ev ta σ H (.ref x))
    (k : ∀ H1, Bld H0 H1 rp sp c m → (∀ y, IsSpot H0 H y → IsSpot H0 H1 y) → (∀ y o, y ≠ x → H y = some o → H1 y = some o) → D.nx σ H1) : tAsg te (gSub ta (tC (.int (j : Int))) rSetL) D σ H := by
  obtain ⟨p, s, t, r, h1, h2⟩ := h.at_
  refine s_setL (xs := .int p :: .int s :: .int t :: r) (j := j) h1 hv hx ev_c (by simp; omega) fun H1 e1 => ?_
  have hx1 := e1 _ _ h1
  rcases hj with rfl | rfl
  · refine k _ ((B.to e1).upd (s' := v) (t' := t) (r' := r) h.new hx1 (fun z => z) (fun l z => ⟨l, z⟩)) (fun y hy => (hy.to e1).upd h2) fun y o hyx ho => ?_
    show L2.upd H1 x _ y = some o
    rw [upd_ne hyx]
    exact e1 _ _ ho
  · refine k _ ((B.to e1).upd (s' := s) (t' := v) (r' := r) h.new hx1 (fun z => z) (fun l z => ⟨l, z⟩)) (fun y hy => (hy.to e1).upd h2) fun y o hyx ho => ?_
    show L2.upd H1 x _ y = some o
    rw [upd_ne hyx]
    exact e1 _ _ ho
theorem q_spot {σ : L2.St} {H0 H : Hp} {D : L2.Ends} {tz : TS} {te ta : TE} {x rp sp : Addr} {c m j : Nat} {v : Int} (B : Bld H0 H rp sp c m) (h : IsSpot H0 H x) (hj : j = 1 ∨ j = 2) (hv : Ev te σ H (.int v)) (hx : Ev ta σ H (.ref x))
    (k : ∀ H1, Bld H0 H1 rp sp c m → (∀ y, IsSpot H0 H y → IsSpot H0 H1 y) → (∀ y o, y ≠ x → H y = some o → H1 y = some o) → tz D σ H1) : tSeq (tAsg te (gSub ta (tC (.int (j : Int))) rSetL)) tz D σ H := s_spot (D := { D with nx := tz D }) B h hj hv hx k
def spSwap (K : PySem.W.Frag) : Sp := fun vs H Q _ => ∃ (x y rp sp : Addr) (c m : Nat) (H0 : Hp), vs = [.ref x, .ref y] ∧ Bld H0 H rp sp c m ∧ IsSpot H0 H x ∧ IsSpot H0 H y ∧ ∀ H2, Bld H0 H2 rp sp c m → Q .non H2
theorem sc_l_ledger_swap : FnScope ["_law_one", "_law_two", "_law_held"] ["_law_one", "_law_two"] (defScope s_l_ledger_swap) := ⟨rfl, rfl, rfl, by decide +kernel, rfl, by decide +kernel, by decide +kernel⟩
theorem fn_l_ledger_swap (T : TX K mg) : ∃ fd, FunD K "_law_ledger_swap" "_law_ledger_swap" (defArgs s_l_ledger_swap) (defBody s_l_ledger_swap) (defScope s_l_ledger_swap) [] [] (He.ga K "_law_ledger_swap") fd ∧ FnOk P w K mg base CX0 (1) (He.ga K "_law_ledger_swap") fd ["_law_one", "_law_two"] (spSwap K) := by
  obtain ⟨fd, F⟩ := fd_l_ledger_swap T
  refine ⟨fd, F, My.FunD.ok0 F sc_l_ledger_swap (fun vs H Q E h => ?_) (fun cdv A outer s0 H vs Q E hr h => ?_)⟩
  · obtain ⟨x, y, rp, sp, c, m, H0, rfl, B, hx, hy, hQ⟩ := h
    rfl
  obtain ⟨x, y, rp, sp, c, m, H0, rfl, B, hx, hy, hQ⟩ := h
  have hu := hu_of hr
  refine ⟨_, (pss_cons (ps_set (i := 2) sc_l_ledger_swap.nd rfl (Or.inl rfl) (pe_lst (pa_cons (pe_ix (ixL K) (pv 0) pe_int (fun _ _ => rfl)) (pa_cons (pe_ix (ixL K) (pv 0) pe_int (fun _ _ => rfl)) pa_nil))))
      (pss_cons (ps_asg (pe_ix (ixL K) (pv 1) pe_int (fun _ _ => rfl)) (pg_sub (pv 0) pe_int set_list))
      (pss_cons (ps_asg (pe_ix (ixL K) (pv 1) pe_int (fun _ _ => rfl)) (pg_sub (pv 0) pe_int set_list))
      (pss_cons (ps_asg (pe_ix (ixL K) (pv 2) pe_int (fun _ _ => rfl)) (pg_sub (pv 1) pe_int set_list))
      (pss_one (ps_asg (pe_ix (ixL K) (pv 2) pe_int (fun _ _ => rfl)) (pg_sub (pv 1) pe_int set_list))))))), ?_⟩
  obtain ⟨_, ⟨v1, q1⟩, v2, q2⟩ := spot_get (K := K) (te := tVar 0) (σ := [some (.ref x), some (.ref y), none]) hx (ev_var rfl)
  refine q_asgL (el_lst (ea_cons q1 (ea_cons q2 ea_nil)) (by simp)) fun h H1 nh e1 h1 => ?_
  have nhx : ∀ z, IsSpot H0 H z → h ≠ z := fun z hz e => by
    obtain ⟨p, s, t, r, h3, _⟩ := hz.at_
    rw [e, h3] at nh
    cases nh
  obtain ⟨_, ⟨w1, r1⟩, _⟩ := spot_get (K := K) (te := tVar 1) (σ := [some (.ref x), some (.ref y), some (.ref h)]) (hy.to e1) (ev_var rfl)
  refine q_spot (j := 1) (B.to e1) (hx.to e1) (.inl rfl) r1 (ev_var rfl) fun H2 B2 S2 F2 => ?_
  obtain ⟨_, _, w2, r2⟩ := spot_get (K := K) (te := tVar 1) (σ := [some (.ref x), some (.ref y), some (.ref h)]) (S2 _ (hy.to e1)) (ev_var rfl)
  refine q_spot (j := 2) B2 (S2 _ (hx.to e1)) (.inr rfl) r2 (ev_var rfl) fun H3 B3 S3 F3 => ?_
  have h3 := F3 h _ (nhx x hx) (F2 h _ (nhx x hx) h1)
  refine q_spot (j := 1) B3 (S3 _ (S2 _ (hy.to e1))) (.inl rfl) (ev_op (ev_var rfl) ev_c (rv_ixL (sq_of h3) (atI_nat (j := 0) rfl))) (ev_var rfl) fun H4 B4 S4 F4 => ?_
  have h4 := F4 h _ (nhx y hy) h3
  exact s_spot (j := 2) B4 (S4 _ (S3 _ (S2 _ (hy.to e1)))) (.inr rfl) (ev_op (ev_var rfl) ev_c (rv_ixL (sq_of h4) (atI_nat (j := 1) rfl))) (ev_var rfl) fun H5 B5 S5 F5 => hQ H5 B5
theorem ok_l_ledger_swap (T : TX K mg) : DefOk P w K mg base (1) "_law_ledger_swap" ["_law_one", "_law_two"] [] (spSwap K) := by
  obtain ⟨fd, F, h⟩ := fn_l_ledger_swap (P := P) (w := w) (base := base) T
  exact DefOk.of F (gl_l_ledger_swap T) (F.bindsN fun _ _ _ _ _ _ us hl => match us, hl with | [_, _], _ => rfl) h
end

section
variable {P : Program} {w : World} {K : PySem.W.Frag} {mg : Str → Option Value} {base : Heap}
theorem el_cat {σ : L2.St} {H : Hp} {ta tb : TE} {a b : Addr} {xs zs : List V} (ha : Ev ta σ H (.ref a)) (hb : Ev tb σ H (.ref b)) (h1 : H a = some (.lst xs)) (h2 : H b = some (.lst zs)) (hl : xs.length + zs.length ≤ 100000) : EvL (tOp rCat ta tb) σ H (xs ++ zs) := fun H1 e Q q =>
  ha H1 e _ fun H2 e2 => hb H2 (e.trans e2) _ fun H3 e3 => ⟨a, b, xs, zs, rfl, rfl, ((e.trans e2).trans e3) _ _ h1, ((e.trans e2).trans e3) _ _ h2, sz_of hl, fun p hp => q p _ (fresh_back (e2.trans e3) hp) ((e2.trans e3).trans (Ex.new hp)) upd_same⟩
def spSpoil (K : PySem.W.Frag) : Sp := fun vs H Q _ => ∃ (s rp sp : Addr) (ns : List Int) (a : Int) (c m : Nat) (H0 : Hp), vs = [.ref s, .int a, .ref rp, .ref sp] ∧ SqL K H0 s (ns.map V.int) ∧ ns.length ≤ 63 ∧ 0 ≤ a ∧ a ≤ 1000 ∧ Bld H0 H rp sp c m ∧ 0 < c + m ∧ c + m ≤ 500 ∧ ∀ H2, Bld H0 H2 rp sp c m → Q .non H2
theorem Bld.spots {H0 H : Hp} {rp sp : Addr} {c m : Nat} (B : Bld H0 H rp sp c m) : ∃ as bs : List Addr, H rp = some (.lst (as.map V.ref)) ∧ H sp = some (.lst (bs.map V.ref)) ∧ as.length = c ∧ bs.length = m ∧ (∀ x ∈ as ++ bs, IsSpot H0 H x) ∧ ∀ x ∈ as, ∃ p s t l : Int, H x = some (spotV p s t [.int l]) ∧ 0 ≤ p ∧ p < m := by
  obtain ⟨e0, ⟨as, k1, k2, k3⟩, ⟨bs, g1, g2, g3, g4⟩, fr, fs⟩ := B
  refine ⟨as, bs, k1, g1, k2, g2, fun x hx => ?_, fun x hx => (k3 x hx).2⟩
  rcases List.mem_append.mp hx with hx | hx
  · obtain ⟨n, p, s, t, l, h, _⟩ := k3 x hx
    exact ⟨n, p, s, t, _, h, .inr ⟨l, rfl⟩⟩
  · obtain ⟨n, p, s, t, h⟩ := g3 x hx
    exact ⟨n, p, s, t, _, h, .inl rfl⟩
theorem refs_inj : ∀ {as bs : List Addr}, as.map V.ref = bs.map V.ref → as = bs
  | [], [], _ => rfl
  | [], _ :: _, h => by cases h
  | _ :: _, [], h => by cases h
  | a :: as, b :: bs, h => by
    rw [List.map_cons, List.map_cons] at h
    injection h with h1 h2
    injection h1 with h1
    rw [h1, refs_inj h2]
theorem given_filter {α : Type} {xs : List α} {p : α → Bool} {g : α → V} {f : Nat → Bool} {v : Nat → V} (hf : ∀ i (h : i < xs.length), f i = p xs[i]) (hv : ∀ i (h : i < xs.length), v i = g xs[i]) : ∀ i, i ≤ xs.length → given i f v = ((xs.take i).filter p).map g
  | 0, _ => rfl
  | i + 1, h => by
    have hi : i < xs.length := h
    have ih := given_filter hf hv i (by omega)
    rw [List.take_succ_eq_append_getElem hi, List.filter_append, List.map_append, ← ih]
    cases hp : p xs[i] with
    | true =>
      rw [given_yes (by rw [hf i hi, hp]), hv i hi]
      simp [hp]
    | false =>
      rw [given_no (by rw [hf i hi, hp])]
      simp [hp]
theorem getD_at {xs : List Addr} {i : Nat} (h : i < xs.length) : xs.getD i 0 = xs[i] := by
  show (xs[i]?).getD 0 = _
  rw [List.getElem?_eq_getElem h]
  rfl
theorem s_swap {σ : L2.St} {H0 H : Hp} {D : L2.Ends} {t : TA} {x y rp sp : Addr} {c m : Nat} (ht : EvA t σ H [.ref x, .ref y]) (B : Bld H0 H rp sp c m) (hx : IsSpot H0 H x) (hy : IsSpot H0 H y) (k : ∀ H2, Bld H0 H2 rp sp c m → D.nx σ H2) : tDrop (tCall (spSwap K) [] E0 t) D σ H :=
  ht H (Ex.refl H) _ fun H1 e1 => ⟨x, y, rp, sp, c, m, H0, rfl, B.to e1, hx.to e1, hy.to e1, fun H2 B2 => k H2 B2⟩
theorem refs_at {as : List Addr} {i : Int} (h0 : 0 ≤ i) (h1 : i < as.length) : ∃ x ∈ as, atI (as.map V.ref) i = some (.ref x) := by
  obtain ⟨n, rfl⟩ : ∃ n : Nat, i = n := ⟨i.toNat, by omega⟩
  have hn : n < as.length := by omega
  refine ⟨as[n], List.getElem_mem hn, ?_⟩
  show (ixN _ (n : Int)).bind _ = _
  rw [ixN_nat (by rw [List.length_map]; exact hn)]
  show (as.map V.ref)[n]? = _
  rw [List.getElem?_map, List.getElem?_eq_getElem hn]
  rfl
/-- rows[i] = one of rows -/
theorem Bld.move {H0 H : Hp} {rp sp x : Addr} {c m i : Nat} {as : List Addr} (B : Bld H0 H rp sp c m) (ha : H rp = some (.lst (as.map V.ref))) (hx : H0 x = none ∧ ∃ p s t l : Int, H x = some (spotV p s t [.int l]) ∧ 0 ≤ p ∧ p < m) : Bld H0 (L2.upd H rp (.lst ((as.map V.ref).set i (.ref x)))) rp sp c m := by
  obtain ⟨e0, ⟨as2, k1, k2, k3⟩, ⟨bs, g1, g2, g3, g4⟩, fr, fs⟩ := B
  obtain rfl : as2 = as := by
    rw [ha] at k1
    have := Option.some.inj k1
    injection this with this
    exact (refs_inj this).symm
  have hsp : ∀ {p s t : Int} {r : List V} {y : Addr}, H y = some (spotV p s t r) → y ≠ rp := fun h z => by
    rw [z, ha] at h
    exact spot_refs (Option.some.inj h).symm
  refine ⟨e0.mut fr, ⟨as2.set i x, ?_, by rw [List.length_set]; exact k2, fun y hy => ?_⟩, ?_, fr, fs⟩
  · rw [upd_same, List.map_set]
  · have hy' : H0 y = none ∧ ∃ p s t l : Int, H y = some (spotV p s t [.int l]) ∧ 0 ≤ p ∧ p < m := by
      rcases List.mem_or_eq_of_mem_set hy with h | h
      · exact k3 y h
      · rw [h]
        exact hx
    obtain ⟨n, p, s, t, l, h, hp⟩ := hy'
    exact ⟨n, p, s, t, l, by rw [upd_ne (hsp h)]; exact h, hp⟩
  · by_cases hrs : sp = rp
    · subst hrs
      have hno : ∀ y ∈ as2, False := fun y hy' => by
        rw [ha] at g1
        have := Option.some.inj g1
        injection this with this
        have hyb : V.ref y ∈ bs.map V.ref := this ▸ List.mem_map_of_mem hy'
        obtain ⟨y2, hy2, e⟩ := List.mem_map.mp hyb
        obtain rfl : y2 = y := by injection e
        obtain ⟨_, p, s, t, l, h, _⟩ := k3 y2 hy'
        obtain ⟨_, p2, s2, t2, h2⟩ := g3 y2 hy2
        rw [h] at h2
        have := (spot_inj (Option.some.inj h2)).2.2.2
        cases this
      refine ⟨as2.set i x, by rw [upd_same, List.map_set], ?_, fun y hy => ?_, fun k h => ?_⟩
      · rw [List.length_set]
        rw [ha] at g1
        have := Option.some.inj g1
        injection this with this
        have hl := congrArg List.length this
        simp only [List.length_map] at hl
        omega
      · cases as2 with
        | nil => cases hy
        | cons z r => exact (hno z List.mem_cons_self).elim
      · cases as2 with
        | nil => cases h
        | cons z r => exact (hno z List.mem_cons_self).elim
    · exact ⟨bs, by rw [upd_ne hrs]; exact g1, g2, fun y hy => let ⟨n, p, s, t, h⟩ := g3 y hy; ⟨n, p, s, t, by rw [upd_ne (hsp h)]; exact h⟩, g4.off ha⟩
theorem sc_l_ledger_spoil : FnScope ["_law_script", "_law_at", "_law_rows", "_law_sweep", "_law_spots", "_law_kind", "_law_one", "_law_spot", "_law_two", "_law_pick", "_law_row", "_law_goal"] ["_law_script", "_law_at", "_law_rows", "_law_sweep"] (defScope s_l_ledger_spoil) := ⟨rfl, rfl, rfl, by decide +kernel, rfl, by decide +kernel, by decide +kernel⟩
theorem fn_l_ledger_spoil (T : TX K mg) : ∃ fd, FunD K "_law_ledger_spoil" "_law_ledger_spoil" (defArgs s_l_ledger_spoil) (defBody s_l_ledger_spoil) (defScope s_l_ledger_spoil) [] [] (He.ga K "_law_ledger_spoil") fd ∧ FnOk P w K mg base CX0 (3) (He.ga K "_law_ledger_spoil") fd ["_law_script", "_law_at", "_law_rows", "_law_sweep"] (spSpoil K) := by
  obtain ⟨fd, F⟩ := fd_l_ledger_spoil T
  refine ⟨fd, F, My.FunD.ok0 F sc_l_ledger_spoil (fun vs H Q E h => ?_) (fun cdv A outer s0 H vs Q E hr h => ?_)⟩
  · obtain ⟨s, rp, sp, ns, a, c, m, H0, rfl, hS0, hl, ha0, ha1, B, hcm, hcm2, hQ⟩ := h
    rfl
  obtain ⟨s, rp, sp, ns, a, c, m, H0, rfl, hS0, hl, ha0, ha1, B, hcm, hcm2, hQ⟩ := h
  have hu := hu_of hr
  refine ⟨_, (pss_cons (ps_set (i := 4) sc_l_ledger_spoil.nd rfl (Or.inl rfl) (pe_op op_cat (pv 2) (pv 3)))
      (pss_cons (ps_set (i := 5) sc_l_ledger_spoil.nd rfl (Or.inl rfl) (pe_callN (ok_l_number (P := P) (w := w) (base := base) T) hr (pa_cons (pv 0) (pa_cons (pv 1) (pa_cons pe_int (pa_cons pe_int pa_nil))))))
      (pss_cons (ps_set (i := 6) sc_l_ledger_spoil.nd rfl (Or.inr rfl) (pe_ix (ixL K) (pv 4) (pe_callN (ok_l_number (P := P) (w := w) (base := base) T) hr (pa_cons (pv 0) (pa_cons (pv 1) (pa_cons pe_int (pa_cons (pe_callB (lenQ K) (by rfl) (fr_len T) PySem.boot_len (pa_cons (pv 4) pa_nil)) pa_nil))))) (fun _ _ => rfl)))
      (pss_one (ps_if (pt_cmpR op_eq (pv 5) pe_int (nomark _)) (pss_one (ps_asg (pe_callN (ok_l_number (P := P) (w := w) (base := base) T) hr (pa_cons (pv 0) (pa_cons (pv 1) (pa_cons pe_int (pa_cons pe_int pa_nil))))) (pg_sub (pv 6) pe_int set_list))) (pss_one (ps_if (pt_cmpR op_eq (pv 5) pe_int (nomark _)) (pss_one (ps_asg (pe_op op_add (pe_ix (ixL K) (pv 6) pe_int (fun _ _ => rfl)) pe_int) (pg_sub (pv 6) pe_int set_list))) (pss_one (ps_if (pt_cmpR op_eq (pv 5) pe_int (nomark _)) (pss_one (ps_asg (pe_callN (ok_l_number (P := P) (w := w) (base := base) T) hr (pa_cons (pv 0) (pa_cons (pv 1) (pa_cons pe_int (pa_cons pe_int pa_nil))))) (pg_sub (pv 6) pe_int set_list))) (pss_one (ps_if (pt_cmpR op_eq (pv 5) pe_int (nomark _)) (pss_one (ps_asg (pe_op op_add (pe_ix (ixL K) (pv 6) pe_int (fun _ _ => rfl)) pe_int) (pg_sub (pv 6) pe_int set_list))) (pss_one (ps_if (pt_cmpR op_lt (pv 5) pe_int (nomark _)) (pss_cut (ps_if (pt_cmpR op_gt (pv 5) pe_int (nomark _)) (pss_one (ps_setLc (i := 4) (own := [("_law_spot", 7)]) rfl sc_l_ledger_spoil.nd rfl rfl (sw_true rfl rfl rfl (by decide +kernel)) (pi_list (pv 4)) (blkOk_by (own := [("_law_spot", 7)]) (N := ["_law_script", "_law_at", "_law_rows", "_law_sweep", "_law_spots", "_law_kind", "_law_one", "_law_spot", "_law_two", "_law_pick", "_law_row", "_law_goal"]) (sc := defScope s_l_ledger_spoil) (by decide +kernel)) (fun _ _ _ _ _ => (pg_name (i := 7) sc_l_ledger_spoil.nd rfl (Or.inl rfl))) (fun _ _ _ _ _ => (pts_one (pt_cmpR op_eq (pe_ix (ixL K) (pv 7) pe_int (fun _ _ => rfl)) (pe_ix (ixL K) (pv 6) pe_int (fun _ _ => rfl)) (nomark _)))) (fun _ _ _ _ _ => (pv 7)))) pss_nil)
      (pss_one (ps_expr (pe_callN (ok_l_ledger_swap (P := P) (w := w) (base := base) T) hr (pa_cons (pv 6) (pa_cons (pe_ix (ixL K) (pv 4) (pe_callN (ok_l_number (P := P) (w := w) (base := base) T) hr (pa_cons (pv 0) (pa_cons (pv 1) (pa_cons pe_int (pa_cons (pe_callB (lenQ K) (by rfl) (fr_len T) PySem.boot_len (pa_cons (pv 4) pa_nil)) pa_nil))))) (fun _ _ => rfl)) pa_nil)))))) (pss_one (ps_if (pt_cmpR op_eq (pv 5) pe_int (nomark _)) (pss_cons (ps_set (i := 8) sc_l_ledger_spoil.nd rfl (Or.inl rfl) (pe_ix (ixL K) (pv 4) (pe_callN (ok_l_number (P := P) (w := w) (base := base) T) hr (pa_cons (pv 0) (pa_cons (pv 1) (pa_cons pe_int (pa_cons (pe_callB (lenQ K) (by rfl) (fr_len T) PySem.boot_len (pa_cons (pv 4) pa_nil)) pa_nil))))) (fun _ _ => rfl)))
      (pss_cons (ps_asg (pe_ix (ixL K) (pv 8) pe_int (fun _ _ => rfl)) (pg_sub (pv 6) pe_int set_list))
      (pss_one (ps_asg (pe_ix (ixL K) (pv 8) pe_int (fun _ _ => rfl)) (pg_sub (pv 6) pe_int set_list))))) (pss_one (ps_if (pt_cmpR op_gt (pe_callB (lenQ K) (by rfl) (fr_len T) PySem.boot_len (pa_cons (pv 2) pa_nil)) pe_int (nomark _)) (pss_cons (ps_set (i := 9) sc_l_ledger_spoil.nd rfl (Or.inl rfl) (pe_callN (ok_l_number (P := P) (w := w) (base := base) T) hr (pa_cons (pv 0) (pa_cons (pv 1) (pa_cons pe_int (pa_cons (pe_callB (lenQ K) (by rfl) (fr_len T) PySem.boot_len (pa_cons (pv 2) pa_nil)) pa_nil))))))
      (pss_cons (ps_set (i := 10) sc_l_ledger_spoil.nd rfl (Or.inl rfl) (pe_ix (ixL K) (pv 2) (pv 9) (fun _ _ => rfl)))
      (pss_one (ps_if (pt_cmpR op_eq (pv 5) pe_int (nomark _)) (pss_cons (ps_asg (pe_ix (ixL K) (pv 10) pe_int (fun _ _ => rfl)) (pg_sub (pv 6) pe_int set_list))
      (pss_one (ps_asg (pe_op op_add (pv 9) pe_int) (pg_sub (pv 6) pe_int set_list)))) (pss_one (ps_if (pt_cmpR op_eq (pv 5) pe_int (nomark _)) (pss_one (ps_asg (pe_op op_add (pe_ix (ixL K) (pv 10) pe_int (fun _ _ => rfl)) pe_int) (pg_sub (pv 10) pe_int set_list))) (pss_cons (ps_set (i := 11) sc_l_ledger_spoil.nd rfl (Or.inl rfl) (pe_callN (ok_l_number (P := P) (w := w) (base := base) T) hr (pa_cons (pv 0) (pa_cons (pv 1) (pa_cons pe_int (pa_cons (pe_callB (lenQ K) (by rfl) (fr_len T) PySem.boot_len (pa_cons (pv 2) pa_nil)) pa_nil))))))
      (pss_cons (ps_asg (pe_ix (ixL K) (pv 2) (pv 11) (fun _ _ => rfl)) (pg_sub (pv 2) (pv 9) set_list))
      (pss_one (ps_asg (pv 10) (pg_sub (pv 2) (pv 11) set_list))))))))))) pss_nil))))))))))))))))), ?_⟩
  obtain ⟨as, bs, hA, hB, hal, hbl, hsp, hrow⟩ := B.spots
  have num : ∀ {σ : L2.St} {H1 : Hp} {k z : Int} {tz : TE}, σ[0]? = some (some (.ref s)) → σ[1]? = some (some (.int a)) → Ex H0 H1 → Ev tz σ H1 (.int z) → 0 ≤ k → k ≤ 1000 → 0 < z → z ≤ 1000 → Ev (tCall (spNum K) [] E0 (tCons (tVar 0) (tCons (tVar 1) (tCons (tC (.int k)) (tCons tz tNil))))) σ H1 (.int (lawNum ns a k z)) := fun r0 r1 e hz k0 k1 z0 z1 =>
    ev_call (ea_cons (ev_var r0) (ea_cons (ev_var r1) (ea_cons ev_c (ea_cons hz ea_nil)))) (sv_num (ex_l e hS0) hl (numok ha0 ha1 k0 k1 z0 z1))
  refine q_asgL (el_cat (ev_var rfl) (ev_var rfl) hA hB (by simp; omega)) fun q H1 nq e1 h1 => ?_
  rw [← List.map_append] at h1
  have hql : ((as ++ bs).map V.ref).length = c + m := by simp [hal, hbl]
  have B1 := B.to e1
  refine q_asg (num rfl rfl B1.ex ev_c (by decide) (by decide) (by decide) (by decide)) fun H2 e2 => ?_
  have B2 := B1.to e2
  generalize lawNum ns a 0 12 = kd
  have n1 := lawNum_nn ns a 1 ((c + m : Nat) : Int) (by omega)
  have l1 := lawNum_lt ns a 1 ((c + m : Nat) : Int) (by omega)
  obtain ⟨x, hxm, hxa⟩ := refs_at (as := as ++ bs) n1 (by rw [List.length_append, hal, hbl]; exact l1)
  refine q_asg (v := .ref x) (ev_op (ev_var rfl) (num rfl rfl B2.ex (ev_is (ev_cb (ea_cons (ev_var rfl) ea_nil) (rc_lenL (sq_of (e2 _ _ h1)))) (by rw [hql])) (by decide) (by decide) (by omega) (by omega)) (rv_ixL (sq_of (e2 _ _ h1)) hxa)) fun H3 e3 => ?_
  have B3 := B2.to e3
  have E3 := (e1.trans e2).trans e3
  have h3 := (e2.trans e3) _ _ h1
  have S3 : ∀ y ∈ as ++ bs, IsSpot H0 H3 y := fun y hy => (hsp y hy).to E3
  have hx3 := S3 x hxm
  have done : ∀ H2, Bld H0 H2 rp sp c m → Q .non H2 := hQ
  refine s_if (et_test (ev_op (ev_var rfl) ev_c (rv_eq rfl))) (fun hb H4 e4 => ?_) (fun hb H4 e4 => ?_)
  · exact s_spot (j := 1) (B3.to e4) (hx3.to e4) (.inl rfl) (num rfl rfl (B3.to e4).ex ev_c (by decide) (by decide) (by decide) (by decide)) (ev_var rfl) fun H5 B5 _ _ => done H5 B5
  have B4 := B3.to e4
  have hx4 := hx3.to e4
  refine s_if (et_test (ev_op (ev_var rfl) ev_c (rv_eq rfl))) (fun hb H5 e5 => ?_) (fun hb H5 e5 => ?_)
  · obtain ⟨_, ⟨v, hv⟩, _⟩ := spot_get (K := K) (te := tVar 6) (σ := [some (.ref s), some (.int a), some (.ref rp), some (.ref sp), some (.ref q), some (.int kd), some (.ref x), none, none, none, none, none]) (hx4.to e5) (ev_var rfl)
    exact s_spot (j := 1) (B4.to e5) (hx4.to e5) (.inl rfl) (ev_op hv ev_c rv_I0) (ev_var rfl) fun H6 B6 _ _ => done H6 B6
  have B5 := B4.to e5
  have hx5 := hx4.to e5
  refine s_if (et_test (ev_op (ev_var rfl) ev_c (rv_eq rfl))) (fun hb H6 e6 => ?_) (fun hb H6 e6 => ?_)
  · exact s_spot (j := 2) (B5.to e6) (hx5.to e6) (.inr rfl) (num rfl rfl (B5.to e6).ex ev_c (by decide) (by decide) (by decide) (by decide)) (ev_var rfl) fun H7 B7 _ _ => done H7 B7
  have B6 := B5.to e6
  have hx6 := hx5.to e6
  refine s_if (et_test (ev_op (ev_var rfl) ev_c (rv_eq rfl))) (fun hb H7 e7 => ?_) (fun hb H7 e7 => ?_)
  · obtain ⟨_, _, v, hv⟩ := spot_get (K := K) (te := tVar 6) (σ := [some (.ref s), some (.int a), some (.ref rp), some (.ref sp), some (.ref q), some (.int kd), some (.ref x), none, none, none, none, none]) (hx6.to e7) (ev_var rfl)
    exact s_spot (j := 2) (B6.to e7) (hx6.to e7) (.inr rfl) (ev_op hv ev_c rv_I0) (ev_var rfl) fun H8 B8 _ _ => done H8 B8
  have B7 := B6.to e7
  have hx7 := hx6.to e7
  have E7 := ((e4.trans e5).trans e6).trans e7
  have h7 := E7 _ _ h3
  have S7 : ∀ y ∈ as ++ bs, IsSpot H0 H7 y := fun y hy => (S3 y hy).to E7
  refine s_if (et_test (ev_op (ev_var rfl) ev_c rv_I0)) (fun hb H8 e8 => ?_) (fun hb H8 e8 => ?_)
  · refine q_cut (M := fun σ' H' => Ex H7 H' ∧ ∃ (q2 : Addr) (zs : List Addr) (o7 : Option V), 0 < zs.length ∧ zs.length ≤ 500 ∧ (∀ y ∈ zs, y ∈ as ++ bs) ∧ H' q2 = some (.lst (zs.map V.ref)) ∧ σ' = [some (.ref s), some (.int a), some (.ref rp), some (.ref sp), some (.ref q2), some (.int kd), some (.ref x), o7, none, none, none, none])
      (s_when (et_test (ev_op (ev_var rfl) ev_c rv_I0)) (fun hc H9 e9 => ?_) (fun hc H9 e9 => ⟨e8.trans e9, q, as ++ bs, none, by rw [List.length_append]; omega, by rw [List.length_append]; omega, fun _ h => h, (e8.trans e9) _ _ h7, rfl⟩)) ?_
    · have hfs : ∃ fs : Addr → Int, ∀ y ∈ as ++ bs, ∃ (s t : Int) (r : List V), H7 y = some (spotV (fs y) s t r) := by
        classical
        refine ⟨fun y => if h : ∃ p s t r, H7 y = some (spotV p s t r) then h.choose else 0, fun y hy => ?_⟩
        obtain ⟨p, s, t, r, h, _⟩ := (S7 y hy).at_
        have hex : ∃ p s t r, H7 y = some (spotV p s t r) := ⟨p, s, t, r, h⟩
        simp only [dif_pos hex]
        exact hex.choose_spec
      obtain ⟨fs, hfs⟩ := hfs
      have E9 := e8.trans e9
      have hcol : ∀ {y : Addr} {te : TE} {σ : L2.St} {Hc : Hp}, y ∈ as ++ bs → Ex H7 Hc → Ev te σ Hc (.ref y) → Ev (tOp (rIxL K) te (tC (.int 0))) σ Hc (.int (fs y)) := fun hy e hv => by
        obtain ⟨s, t, r, h⟩ := hfs _ hy
        exact ev_op hv ev_c (rv_ixL (sq_of (e _ _ h)) (atI_nat (j := 0) rfl))
      have hgiv := given_filter (xs := as ++ bs) (p := fun y => decide (V.int (fs y) = V.int (fs x))) (g := V.ref) (f := fun i => decide (V.int (fs ((as ++ bs).getD i 0)) = V.int (fs x))) (v := fun i => V.ref ((as ++ bs).getD i 0)) (fun i h => by simp only [getD_at h]) (fun i h => by simp only [getD_at h]) (as ++ bs).length (Nat.le_refl _)
      rw [List.take_length] at hgiv
      have hlm : ((as ++ bs).map V.ref).length = (as ++ bs).length := List.length_map _
      have hcomp := el_lcL (te := tVar 7) (t := tTest (tOp rEq (tOp (rIxL K) (tVar 7) (tC (.int 0))) (tOp (rIxL K) (tVar 6) (tC (.int 0))))) (K := K) (tl := tVar 4) (j := 7) (vs := [7]) (σ := [some (.ref s), some (.int a), some (.ref rp), some (.ref sp), some (.ref q), some (.int kd), some (.ref x), none, none, none, none, none]) (H := H9) (a := q)
        (xs := (as ++ bs).map V.ref) (fun i => decide (V.int (fs ((as ++ bs).getD i 0)) = V.int (fs x))) (fun i => V.ref ((as ++ bs).getD i 0)) (ev_var rfl) (sq_of (E9 _ _ h7)) (by rw [hql]; omega) (fun _ => rfl) (fun i y H10 e10 hy => by
          rw [List.getElem?_map] at hy
          obtain ⟨y', hy', rfl⟩ := Option.map_eq_some_iff.mp hy
          obtain ⟨hi, rfl⟩ := List.getElem?_eq_some_iff.mp hy'
          have hd : (as ++ bs).getD i 0 = (as ++ bs)[i] := getD_at hi
          rw [hd]
          exact et_test (ev_op (hcol (List.getElem_mem hi) (E9.trans e10) (ev_var rfl)) (hcol hxm (E9.trans e10) (ev_var rfl)) (rv_eq rfl))) (fun i y H10 e10 hy _ => by
          rw [List.getElem?_map] at hy
          obtain ⟨y', hy', rfl⟩ := Option.map_eq_some_iff.mp hy
          obtain ⟨hi, rfl⟩ := List.getElem?_eq_some_iff.mp hy'
          have hd : (as ++ bs).getD i 0 = (as ++ bs)[i] := getD_at hi
          rw [hd]
          exact ev_var rfl)
      rw [hlm, hgiv] at hcomp
      refine s_asgL hcomp fun q2 H10 nq2 e10 h10 => ⟨E9.trans e10, q2, (as ++ bs).filter fun y => decide (V.int (fs y) = V.int (fs x)), none, ?_, ?_, fun y hy => (List.mem_filter.mp hy).1, h10, rfl⟩
      · exact List.length_pos_of_mem (List.mem_filter.mpr ⟨hxm, by simp⟩)
      · have := List.length_filter_le (fun y => decide (V.int (fs y) = V.int (fs x))) (as ++ bs)
        rw [List.length_append] at this
        omega
    · rintro σ' H9 ⟨E9, q2, zs, o7, z0, z1, hzm, hq2, rfl⟩
      have n2 := lawNum_nn ns a 2 (zs.length : Int) (by omega)
      have l2 := lawNum_lt ns a 2 (zs.length : Int) (by omega)
      obtain ⟨y, hym, hya⟩ := refs_at (as := zs) n2 l2
      have B9 := B7.to E9
      exact s_swap (ea_cons (ev_var rfl) (ea_cons (ev_op (ev_var rfl) (num rfl rfl B9.ex (ev_is (ev_cb (ea_cons (ev_var rfl) ea_nil) (rc_lenL (sq_of hq2))) (by rw [List.length_map])) (by decide) (by decide) (by omega) (by omega)) (rv_ixL (sq_of hq2) hya)) ea_nil)) B9 (hx7.to E9) ((S7 y (hzm y hym)).to E9) done
  have B8 := B7.to e8
  have hx8 := hx7.to e8
  have h8 := e8 _ _ h7
  have n2 := lawNum_nn ns a 2 ((c + m : Nat) : Int) (by omega)
  have l2 := lawNum_lt ns a 2 ((c + m : Nat) : Int) (by omega)
  refine s_if (et_test (ev_op (ev_var rfl) ev_c (rv_eq rfl))) (fun hb H9 e9 => ?_) (fun hb H9 e9 => ?_)
  · obtain ⟨y, hym, hya⟩ := refs_at (as := as ++ bs) n2 (by rw [List.length_append, hal, hbl]; exact l2)
    refine q_asg (v := .ref y) (ev_op (ev_var rfl) (num rfl rfl (B8.to e9).ex (ev_is (ev_cb (ea_cons (ev_var rfl) ea_nil) (rc_lenL (sq_of (e9 _ _ h8)))) (by rw [hql])) (by decide) (by decide) (by omega) (by omega)) (rv_ixL (sq_of (e9 _ _ h8)) hya)) fun H10 e10 => ?_
    have B10 := (B8.to e9).to e10
    have hx10 := (hx8.to e9).to e10
    have hy10 := (((S7 y hym).to e8).to e9).to e10
    obtain ⟨_, ⟨w1, r1⟩, _⟩ := spot_get (K := K) (te := tVar 8) (σ := [some (.ref s), some (.int a), some (.ref rp), some (.ref sp), some (.ref q), some (.int kd), some (.ref x), none, some (.ref y), none, none, none]) hy10 (ev_var rfl)
    refine q_spot (j := 1) B10 hx10 (.inl rfl) r1 (ev_var rfl) fun H11 B11 S11 _ => ?_
    obtain ⟨_, _, w2, r2⟩ := spot_get (K := K) (te := tVar 8) (σ := [some (.ref s), some (.int a), some (.ref rp), some (.ref sp), some (.ref q), some (.int kd), some (.ref x), none, some (.ref y), none, none, none]) (S11 _ hy10) (ev_var rfl)
    exact s_spot (j := 2) B11 (S11 _ hx10) (.inr rfl) r2 (ev_var rfl) fun H12 B12 _ _ => done H12 B12
  have B9 := B8.to e9
  have hx9 := hx8.to e9
  have E9 := (E3.trans E7).trans (e8.trans e9)
  have A9 := E9 _ _ hA
  refine s_when (et_test (ev_op (ev_is (ev_cb (ea_cons (ev_var rfl) ea_nil) (rc_lenL (sq_of A9))) (by rw [List.length_map, hal])) ev_c rv_I0)) (fun hb H10 e10 => ?_) (fun hb H10 e10 => done H10 (B9.to e10))
  have hc0 : (0 : Int) < (c : Int) := of_decide_eq_true hb
  have rc := lawNum_nn ns a 2 (c : Int) hc0
  have rl := lawNum_lt ns a 2 (c : Int) hc0
  have A10 := e10 _ _ A9
  have B10 := B9.to e10
  have rowc : ∀ {Hc : Hp}, Ex H10 Hc → ∀ y ∈ as, H0 y = none ∧ ∃ p s t l : Int, Hc y = some (spotV p s t [.int l]) ∧ 0 ≤ p ∧ p < m := fun e y hy => ⟨(hsp y (List.mem_append_left _ hy)).new, let ⟨p, s, t, l, h, hp⟩ := hrow y hy; ⟨p, s, t, l, ((E9.trans e10).trans e) _ _ h, hp⟩⟩
  refine q_asg (num rfl rfl B10.ex (ev_is (ev_cb (ea_cons (ev_var rfl) ea_nil) (rc_lenL (sq_of A10))) (by rw [List.length_map, hal])) (by decide) (by decide) (by omega) (by omega)) fun H11 e11 => ?_
  obtain ⟨pk, hpk⟩ : ∃ pk : Nat, lawNum ns a 2 (c : Int) = (pk : Int) := ⟨(lawNum ns a 2 (c : Int)).toNat, by omega⟩
  rw [hpk] at rc rl ⊢
  obtain ⟨y, hym, hya⟩ := refs_at (as := as) rc (by rw [hal]; exact rl)
  refine q_asg (v := .ref y) (ev_op (ev_var rfl) (ev_var rfl) (rv_ixL (sq_of (e11 _ _ A10)) hya)) fun H12 e12 => ?_
  have B12 := (B10.to e11).to e12
  have hx12 := ((hx9.to e10).to e11).to e12
  obtain ⟨yn, yp, ys, yt, yl, hyc, hyp⟩ := rowc (e11.trans e12) y hym
  refine s_if (et_test (ev_op (ev_var rfl) ev_c (rv_eq rfl))) (fun hb H13 e13 => ?_) (fun hb H13 e13 => ?_)
  · refine q_spot (j := 1) (v := yl) (B12.to e13) (hx12.to e13) (.inl rfl) (ev_op (ev_var rfl) ev_c (rv_ixL (sq_of (e13 _ _ hyc)) (atI_nat (j := 3) rfl))) (ev_var rfl) fun H14 B14 S14 _ => ?_
    exact s_spot (j := 2) B14 (S14 _ (hx12.to e13)) (.inr rfl) (ev_op (ev_var rfl) ev_c rv_I0) (ev_var rfl) fun H15 B15 _ _ => done H15 B15
  refine s_if (et_test (ev_op (ev_var rfl) ev_c (rv_eq rfl))) (fun hb H14 e14 => ?_) (fun hb H14 e14 => ?_)
  · have hy14 := (e13.trans e14) _ _ hyc
    exact s_setL (xs := [.int yp, .int ys, .int yt, .int yl]) (j := 3) hy14 (ev_op (ev_op (ev_var rfl) ev_c (rv_ixL (sq_of hy14) (atI_nat (j := 3) rfl))) ev_c rv_I0) (ev_var rfl) ev_c (by simp) fun H15 e15 =>
      done _ ((((B12.to e13).to e14).to e15).upd (s' := ys) (t' := yt) (r' := [.int (yl + 1)]) yn (e15 _ _ hy14) (fun z => by cases z) (fun l z => ⟨yl + 1, rfl⟩))
  · have A14 := ((e11.trans e12).trans (e13.trans e14)) _ _ A10
    have B14 := (B12.to e13).to e14
    have g0 := lawNum_nn ns a 3 (c : Int) hc0
    have gl := lawNum_lt ns a 3 (c : Int) hc0
    refine q_asg (num rfl rfl B14.ex (ev_is (ev_cb (ea_cons (ev_var rfl) ea_nil) (rc_lenL (sq_of A14))) (by rw [List.length_map, hal])) (by decide) (by decide) (by omega) (by omega)) fun H15 e15 => ?_
    obtain ⟨gk, hgk⟩ : ∃ gk : Nat, lawNum ns a 3 (c : Int) = (gk : Int) := ⟨(lawNum ns a 3 (c : Int)).toNat, by omega⟩
    rw [hgk] at g0 gl ⊢
    obtain ⟨z, hzm, hza⟩ := refs_at (as := as) g0 (by rw [hal]; exact gl)
    have A15 := e15 _ _ A14
    refine q_setL (j := pk) A15 (ev_op (ev_var rfl) (ev_var rfl) (rv_ixL (sq_of A15) hza)) (ev_var rfl) (ev_var rfl) (by rw [List.length_map]; omega) fun H16 e16 => ?_
    have A16 := e16 _ _ A15
    have E16 := ((e11.trans e12).trans (e13.trans e14)).trans (e15.trans e16)
    have B16 := ((B14.to e15).to e16).move (i := pk) A16 (rowc E16 z hzm)
    have hym16 := rowc E16 y hym
    have hyrp : y ≠ rp := fun e => by
      obtain ⟨_, p, s, t, l, h, _⟩ := hym16
      rw [e, A16] at h
      exact spot_refs (Option.some.inj h).symm
    have A17 : (L2.upd H16 rp (.lst ((as.map V.ref).set pk (.ref z)))) rp = some (.lst ((as.set pk z).map V.ref)) := by rw [upd_same, List.map_set]
    have hy17 : H0 y = none ∧ ∃ p s t l : Int, (L2.upd H16 rp (.lst ((as.map V.ref).set pk (.ref z)))) y = some (spotV p s t [.int l]) ∧ 0 ≤ p ∧ p < m := by
      obtain ⟨n, p, s, t, l, h, hp⟩ := hym16
      exact ⟨n, p, s, t, l, by rw [upd_ne hyrp]; exact h, hp⟩
    generalize L2.upd H16 rp (.lst ((as.map V.ref).set pk (.ref z))) = Hm at B16 A17 hy17 ⊢
    refine s_setL (j := gk) A17 (ev_var rfl) (ev_var rfl) (ev_var rfl) (by rw [List.length_map, List.length_set]; omega) fun H18 e18 => done _ ((B16.to e18).move (e18 _ _ A17) ?_)
    obtain ⟨n, p, s, t, l, h, hp⟩ := hy17
    exact ⟨n, p, s, t, l, e18 _ _ h, hp⟩
theorem ok_l_ledger_spoil (T : TX K mg) : DefOk P w K mg base (3) "_law_ledger_spoil" ["_law_script", "_law_at", "_law_rows", "_law_sweep"] [] (spSpoil K) := by
  obtain ⟨fd, F, h⟩ := fn_l_ledger_spoil (P := P) (w := w) (base := base) T
  exact DefOk.of F (gl_l_ledger_spoil T) (F.bindsN fun _ _ _ _ _ _ us hl => match us, hl with | [_, _, _, _], _ => rfl) h
end

section
variable {P : Program} {w : World} {K : PySem.W.Frag} {mg : Str → Option Value} {base : Heap}
structure RL (H0 H : Hp) (rp : Addr) (c m : Nat) : Prop where
  ex : Ex H0 H
  rs : ∃ as : List Addr, H rp = some (.lst (as.map V.ref)) ∧ as.length = c ∧ ∀ x ∈ as, H0 x = none ∧ ∃ p s t l : Int, H x = some (spotV p s t [.int l]) ∧ 0 ≤ p ∧ p < m
  fr : H0 rp = none
theorem RL.to {H0 H H' : Hp} {rp : Addr} {c m : Nat} (B : RL H0 H rp c m) (e : Ex H H') : RL H0 H' rp c m := by
  obtain ⟨e0, ⟨as, h1, h2, h3⟩, fr⟩ := B
  exact ⟨e0.trans e, ⟨as, e _ _ h1, h2, fun x hx => let ⟨n, p, s, t, l, h, hp⟩ := h3 x hx; ⟨n, p, s, t, l, e _ _ h, hp⟩⟩, fr⟩
theorem RL.other {H0 H : Hp} {rp q : Addr} {c m : Nat} {o : HO} {ys : List V} {ps : List (List Int)} (B : RL H0 H rp c m) (hq : H q = some (.lst ys)) (ht : TupsAt K H ys ps) (hn : H0 q = none) (hr : rp ≠ q) : RL H0 (L2.upd H q o) rp c m := by
  obtain ⟨e0, ⟨as, h1, h2, h3⟩, fr⟩ := B
  refine ⟨e0.mut hn, ⟨as, by rw [upd_ne hr]; exact h1, h2, fun x hx => ?_⟩, fr⟩
  obtain ⟨n, p, s, t, l, h, hp⟩ := h3 x hx
  have hxq : x ≠ q := fun z => by
    rw [z, hq] at h
    have := Option.some.inj h
    unfold spotV at this
    injection this with this
    cases ps with
    | nil =>
      cases ys with
      | nil => cases this
      | cons _ _ => exact ht.elim
    | cons _ _ =>
      cases ys with
      | nil => cases this
      | cons _ _ =>
        obtain ⟨⟨a, ha, _⟩, _⟩ := ht
        rw [ha] at this
        injection this with h1 _
        cases h1
  exact ⟨n, p, s, t, l, by rw [upd_ne hxq]; exact h, hp⟩
/-- rows.append([p, ..]) -/
theorem RL.more {H0 H : Hp} {rp x : Addr} {c m : Nat} {as : List Addr} {p s t l : Int} (B : RL H0 H rp c m) (ha : H rp = some (.lst (as.map V.ref))) (hn : H0 x = none) (hx : H x = some (spotV p s t [.int l])) (h0 : 0 ≤ p) (h1 : p < m) : RL H0 (L2.upd H rp (.lst (as.map V.ref ++ [.ref x]))) rp (c + 1) m := by
  obtain ⟨e0, ⟨as2, k1, k2, k3⟩, fr⟩ := B
  obtain rfl : as2 = as := by
    rw [ha] at k1
    have := Option.some.inj k1
    injection this with this
    exact (refs_inj this).symm
  have hsp : ∀ {p s t : Int} {r : List V} {y : Addr}, H y = some (spotV p s t r) → y ≠ rp := fun h z => by
    rw [z, ha] at h
    exact spot_refs (Option.some.inj h).symm
  refine ⟨e0.mut fr, ⟨as2 ++ [x], by rw [upd_same, List.map_append]; rfl, by simp [k2], fun y hy => ?_⟩, fr⟩
  rcases List.mem_append.mp hy with hy | hy
  · obtain ⟨n, p, s, t, l, h, hp⟩ := k3 y hy
    exact ⟨n, p, s, t, l, by rw [upd_ne (hsp h)]; exact h, hp⟩
  · obtain rfl : y = x := by simpa using hy
    exact ⟨hn, p, s, t, l, by rw [upd_ne (hsp hx)]; exact hx, h0, h1⟩
theorem eight_at {i : Int} (h0 : 0 ≤ i) (h1 : i < 8) : ∃ v : Int, atI [V.int 0, V.int 0, V.int 1, V.int 1, V.int 1, V.int 2, V.int 2, V.int 9] i = some (V.int v) ∧ 0 ≤ v ∧ v ≤ 9 := by
  have : i = 0 ∨ i = 1 ∨ i = 2 ∨ i = 3 ∨ i = 4 ∨ i = 5 ∨ i = 6 ∨ i = 7 := by omega
  rcases this with rfl | rfl | rfl | rfl | rfl | rfl | rfl | rfl
  · exact ⟨0, rfl, by decide, by decide⟩
  · exact ⟨0, rfl, by decide, by decide⟩
  · exact ⟨1, rfl, by decide, by decide⟩
  · exact ⟨1, rfl, by decide, by decide⟩
  · exact ⟨1, rfl, by decide, by decide⟩
  · exact ⟨2, rfl, by decide, by decide⟩
  · exact ⟨2, rfl, by decide, by decide⟩
  · exact ⟨9, rfl, by decide, by decide⟩
def spBuild (K : PySem.W.Frag) : Sp := fun vs H Q _ => ∃ (s : Addr) (ns : List Int), vs = [.ref s] ∧ SqL K H s (ns.map V.int) ∧ ns.length ≤ 63 ∧ ∀ (rs : List Row) (sw : List Swp) (m : Nat) (t a b : Addr) (H2 : Hp), Ex H H2 → SqT K H2 t [.int (m : Int), .ref a, .ref b] → World3 K H2 a b rs sw m → sw.length = m → rs.length ≤ 100 → m ≤ 100 → (∃ ys zs, H2 a = some (.lst ys) ∧ TupsAt K H2 ys (rs.map rowL) ∧ H2 b = some (.lst zs) ∧ TupsAt K H2 zs (sw.map swpL)) → (∀ k (h : k < sw.length), sw[k].1 = (k : Int)) → Q (.ref t) H2
theorem q_asgTu {te : TE} {σ : L2.St} {H : Hp} {D : L2.Ends} {tz : TS} {i : Nat} {r : List Int} (h : EvTu K te σ H r) (k : ∀ t H1, Ex H H1 → SqT K H1 t (r.map V.int) → tz D (σ.set i (some (.ref t))) H1) : tSeq (tAsg te (gName i)) tz D σ H := h H (Ex.refl H) _ fun v H1 e1 ⟨t, hv, hs⟩ => by
  subst hv
  exact k t H1 e1 hs
/-- a comprehension of new lists of three ints -/
theorem q_swp {ta : TA} {te : TE} {n : Int} {j i0 : Nat} {vs : List Nat} {σ : L2.St} {H : Hp} {D : L2.Ends} {tz : TS} (h : EvA ta σ H [.int n]) (hn : 0 ≤ n ∧ n ≤ 40000) (hw : ∀ x, wipe ((wipe σ vs).set j (some x)) vs = wipe σ vs)
    (he : ∀ (i : Nat) H1, Ex H H1 → (i : Int) < n → ∃ x y : Int, EvL te ((wipe σ vs).set j (some (.int (i : Int)))) H1 [.int (i : Int), .int x, .int y])
    (k : ∀ sp (bs : List Addr) H1, H sp = none → Ex H H1 → H1 sp = some (.lst (bs.map V.ref)) → bs.length = n.toNat → (∀ x ∈ bs, H x = none ∧ ∃ p s t : Int, H1 x = some (spotV p s t [])) → Nm H1 bs → tz D (σ.set i0 (some (.ref sp))) H1) :
    tSeq (tAsg (tLc (iRng1 ta) (gName j) tYes te vs) (gName i0)) tz D σ H := h H (Ex.refl H) _ fun H1 e1 => ⟨n, rfl, by omega, by omega, fun Dl hD =>
  lc_range (lo := 0) (n := n.toNat) (fun i H' => Ex H1 H' ∧ ∃ bs : List Addr, H' Dl = some (.lst (bs.map V.ref)) ∧ bs.length = i ∧ (∀ x ∈ bs, H1 x = none ∧ ∃ p s t : Int, H' x = some (spotV p s t [])) ∧ Nm H' bs) ⟨Ex.new hD, [], upd_same, rfl, by simp, fun k h => by cases h⟩ (fun i H' hi p => by
    have e0 : (0 : Int) + (i : Int) = (i : Int) := Int.zero_add _
    rw [e0]
    refine ⟨hw _, ?_⟩
    obtain ⟨E, bs, hb, hl, hc, hnm⟩ := p
    show te ((wipe σ vs).set j (some (.int (i : Int)))) H' fun y H4 => ∃ acc, H4 Dl = some (.lst acc) ∧ acc.length < sizeLine ∧ (Ex H1 (L2.upd H4 Dl (.lst (acc ++ [y]))) ∧ ∃ bs : List Addr, (L2.upd H4 Dl (.lst (acc ++ [y]))) Dl = some (.lst (bs.map V.ref)) ∧ bs.length = i + 1 ∧ (∀ x ∈ bs, H1 x = none ∧ ∃ p s t : Int, (L2.upd H4 Dl (.lst (acc ++ [y]))) x = some (spotV p s t [])) ∧ Nm (L2.upd H4 Dl (.lst (acc ++ [y]))) bs)
    obtain ⟨x, y, hxy⟩ := he i H1 e1 (by omega)
    refine hxy H' E _ fun q H4 nq e4 h4 => ⟨bs.map V.ref, e4 _ _ hb, sz_lt (by rw [List.length_map]; omega), (E.trans e4).mut hD, bs ++ [q], by rw [upd_same, List.map_append]; rfl, by simp [hl], fun z hz => ?_, fun k hk => ?_⟩
    all_goals have hb4 := e4 _ _ hb
    rotate_left
    · by_cases hkb : k < bs.length
      · rw [List.getElem_append_left hkb]
        exact ((hnm.to e4).off hb4) k hkb
      · have hkl : k = bs.length := by rw [List.length_append, List.length_singleton] at hk; omega
        subst hkl
        have hqD : q ≠ Dl := fun e => by
          rw [e, hb] at nq
          cases nq
        exact ⟨x, y, by rw [List.getElem_append_right (Nat.le_refl _), upd_ne (by simpa using hqD)]; simpa [hl, spotV] using h4⟩
    rcases List.mem_append.mp hz with hz | hz
    · obtain ⟨nz, p, s, t, h⟩ := hc z hz
      have hzD : z ≠ Dl := fun e => by
        rw [e, hb] at h
        exact spot_refs (Option.some.inj h).symm
      exact ⟨nz, p, s, t, by rw [upd_ne hzD]; exact e4 _ _ h⟩
    · obtain rfl : z = q := by simpa using hz
      have hzD : z ≠ Dl := fun e => by
        rw [e, hb] at nq
        cases nq
      exact ⟨fresh_back E nq, (i : Int), x, y, by rw [upd_ne hzD]; exact h4⟩) fun H' p => by
      obtain ⟨E, bs, hb, hl, hc, hnm⟩ := p
      exact k Dl bs H' (fresh_back e1 hD) (e1.trans E) hb hl (fun x hx => let ⟨nx, r⟩ := hc x hx; ⟨fresh_back e1 nx, r⟩) hnm⟩
/-- sweep[i] = a new list -/
theorem Bld.moveS {H0 H : Hp} {rp sp x : Addr} {c m i : Nat} {bs : List Addr} (B : Bld H0 H rp sp c m) (hr : rp ≠ sp) (ha : H sp = some (.lst (bs.map V.ref))) (hx : H0 x = none ∧ ∃ s t : Int, H x = some (spotV (i : Int) s t [])) : Bld H0 (L2.upd H sp (.lst ((bs.map V.ref).set i (.ref x)))) rp sp c m := by
  obtain ⟨e0, ⟨as, k1, k2, k3⟩, ⟨bs2, g1, g2, g3, g4⟩, fr, fs⟩ := B
  obtain rfl : bs2 = bs := by
    rw [ha] at g1
    have := Option.some.inj g1
    injection this with this
    exact (refs_inj this).symm
  have hsp : ∀ {p s t : Int} {r : List V} {y : Addr}, H y = some (spotV p s t r) → y ≠ sp := fun h z => by
    rw [z, ha] at h
    exact spot_refs (Option.some.inj h).symm
  refine ⟨e0.mut fs, ⟨as, by rw [upd_ne hr]; exact k1, k2, fun y hy => let ⟨n, p, s, t, l, h, hp⟩ := k3 y hy; ⟨n, p, s, t, l, by rw [upd_ne (hsp h)]; exact h, hp⟩⟩, ⟨bs2.set i x, by rw [upd_same, List.map_set], by rw [List.length_set]; exact g2, fun y hy => ?_, ?_⟩, fr, fs⟩
  rotate_left
  · obtain ⟨_, s, t, h⟩ := hx
    exact (g4.set h).off ha
  rcases List.mem_or_eq_of_mem_set hy with h | h
  · obtain ⟨n, p, s, t, h⟩ := g3 y h
    exact ⟨n, p, s, t, by rw [upd_ne (hsp h)]; exact h⟩
  · subst h
    obtain ⟨n, s, t, h⟩ := hx
    exact ⟨n, _, s, t, by rw [upd_ne (hsp h)]; exact h⟩
theorem sl_setL {te ta tb : TE} {σ : L2.St} {H : Hp} {D : L2.Ends} {l : Addr} {xs zs : List V} {j : Nat} (hl : H l = some (.lst xs)) (h : EvL te σ H zs) (ho : Ev ta σ H (.ref l)) (hi : Ev tb σ H (.int (j : Int))) (hj : j < xs.length)
    (k : ∀ p H1, H p = none → Ex H H1 → H1 p = some (.lst zs) → D.nx σ (upd H1 l (.lst (xs.set j (.ref p))))) : tAsg te (gSub ta tb rSetL) D σ H := h H (Ex.refl H) _ fun p H1 np e1 h1 => ho H1 e1 _ fun H2 e2 => hi H2 (e1.trans e2) _ fun H3 e3 =>
  ⟨l, xs, (j : Int), j, rfl, rfl, ((e1.trans e2).trans e3) l _ hl, ixN_nat hj, k p H3 np ((e1.trans e2).trans e3) ((e2.trans e3) _ _ h1)⟩
theorem s_spoil {σ : L2.St} {H0 H : Hp} {D : L2.Ends} {t : TA} {s rp sp : Addr} {ns : List Int} {a : Int} {c m : Nat} (ht : EvA t σ H [.ref s, .int a, .ref rp, .ref sp]) (hS : SqL K H0 s (ns.map V.int)) (hl : ns.length ≤ 63) (ha0 : 0 ≤ a) (ha1 : a ≤ 1000) (B : Bld H0 H rp sp c m) (h0 : 0 < c + m) (h1 : c + m ≤ 500)
    (k : ∀ H2, Bld H0 H2 rp sp c m → D.nx σ H2) : tDrop (tCall (spSpoil K) [] E0 t) D σ H := ht H (Ex.refl H) _ fun H1 e1 => ⟨s, rp, sp, ns, a, c, m, H0, rfl, hS, hl, ha0, ha1, B.to e1, h0, h1, fun H2 B2 => k H2 B2⟩
theorem s_ret3 {t1 t2 t3 : TE} {σ : L2.St} {H : Hp} {D : L2.Ends} {m : Int} {rs1 rs2 : List (List Int)} (h1 : Ev t1 σ H (.int m)) (h2 : EvTL K t2 σ H rs1) (h3 : EvTL K t3 σ H rs2)
    (k : ∀ t a b ys zs H1, Ex H H1 → H1 t = some (.tup [.int m, .ref a, .ref b]) → H1 a = some (.lst ys) → TupsAt K H1 ys rs1 → H1 b = some (.lst zs) → TupsAt K H1 zs rs2 → D.rt (.ref t) H1) : tRet (tTup (tCons t1 (tCons t2 (tCons t3 tNil)))) D σ H :=
  h1 H (Ex.refl H) _ fun H1 e1 => h2 H1 e1 _ fun a ys H2 _ e2 ha hat => h3 H2 (e1.trans e2) _ fun b zs H3 _ e3 hb hbt => ⟨by show 3 ≤ sizeLine; decide, fun t nt =>
    k t a b ys zs _ (((e1.trans e2).trans e3).trans (Ex.new nt)) upd_same ((Ex.new nt) _ _ (e3 _ _ ha)) ((hat.ex e3).ex (Ex.new nt)) ((Ex.new nt) _ _ hb) (hbt.ex (Ex.new nt))⟩
theorem choose_list {α β : Type} {P : α → β → Prop} : ∀ {xs : List α}, (∀ x ∈ xs, ∃ r, P x r) → ∃ rs : List β, rs.length = xs.length ∧ ∀ i (h : i < xs.length) (h' : i < rs.length), P xs[i] rs[i]
  | [], _ => ⟨[], rfl, fun i h => by simp at h⟩
  | x :: xs, hx => by
    obtain ⟨r, hr⟩ := hx x List.mem_cons_self
    obtain ⟨rs, hl, hp⟩ := choose_list (xs := xs) fun y hy => hx y (List.mem_cons_of_mem _ hy)
    refine ⟨r :: rs, by simp [hl], fun i h h' => ?_⟩
    cases i with
    | zero => exact hr
    | succ i => exact hp i (by simpa using h) (by simpa using h')
theorem prs_get {H : Hp} {acc : List V} {ps : List (Int × Int)} {i : Int} (ht : TupsAt K H acc (ps.map prL)) (h0 : 0 ≤ i) (h1 : i < ps.length) : ∃ (t : Addr) (x y : Int), atI acc i = some (.ref t) ∧ SqT K H t ((prL (x, y)).map V.int) := by
  obtain ⟨n, rfl⟩ : ∃ n : Nat, i = n := ⟨i.toNat, by omega⟩
  obtain ⟨t, g1, g2⟩ := ht.get (i := n) (by rw [List.length_map]; omega)
  rw [List.getElem_map] at g2
  exact ⟨t, _, _, atI_nat g1, g2⟩
theorem q_left {s : Addr} {ns : List Int} {a st : Int} {σ : L2.St} {H : Hp} {ta : TA} {n : Nat} {tz : TS} {D : L2.Ends} (ht : EvA ta σ H [.ref s, .int a, .int st]) (hS : SqL K H s (ns.map V.int)) (hl : ns.length ≤ 63) (ha0 : 0 ≤ a) (ha1 : a ≤ 1000)
    (q : ∀ (x : Int) H1, Ex H H1 → tz D (σ.set n (some (.int x))) H1) : tSeq (tAsg (tCall (spLeft K) [] E0 ta) (gName n)) tz D σ H :=
  ht H (Ex.refl H) _ fun H1 e1 => ⟨s, ns, a, st, rfl, ex_l e1 hS, hl, ha0, ha1, fun x H2 e2 => q x H2 (e1.trans e2)⟩
theorem sc_l_ledger_build : FnScope ["_law_script", "_law_many", "_law_count", "_law_lies", "_law_rows", "_law_last", "_law_k", "_law_at", "_law_pick", "_law_place", "_law_found", "_law_left", "_law_sweep", "_law_n", "_law_row", "_law_spot"] ["_law_script"] (defScope s_l_ledger_build) := ⟨rfl, rfl, rfl, by decide +kernel, rfl, by decide +kernel, by decide +kernel⟩
theorem fn_l_ledger_build (T : TX K mg) : ∃ fd, FunD K "_law_ledger_build" "_law_ledger_build" (defArgs s_l_ledger_build) (defBody s_l_ledger_build) (defScope s_l_ledger_build) [] [] (He.ga K "_law_ledger_build") fd ∧ FnOk P w K mg base CX0 (4) (He.ga K "_law_ledger_build") fd ["_law_script"] (spBuild K) := by
  obtain ⟨fd, F⟩ := fd_l_ledger_build T
  refine ⟨fd, F, My.FunD.ok0 F sc_l_ledger_build (fun vs H Q E h => ?_) (fun cdv A outer s0 H vs Q E hr h => ?_)⟩
  · obtain ⟨s, ns, rfl, hS, hl, hQ⟩ := h
    rfl
  obtain ⟨s, ns, rfl, hS, hl, hQ⟩ := h
  have hu := hu_of hr
  refine ⟨_, (pss_cons (ps_set (i := 1) sc_l_ledger_build.nd rfl (Or.inl rfl) (pe_callN (ok_l_number (P := P) (w := w) (base := base) T) hr (pa_cons (pv 0) (pa_cons pe_int (pa_cons pe_int (pa_cons pe_int pa_nil))))))
      (pss_cut (ps_if (pt_cmpR op_eq (pe_callN (ok_l_number (P := P) (w := w) (base := base) T) hr (pa_cons (pv 0) (pa_cons pe_int (pa_cons pe_int (pa_cons pe_int pa_nil))))) pe_int (nomark _)) (pss_one (ps_set (i := 1) sc_l_ledger_build.nd rfl (Or.inl rfl) (pe_op op_add pe_int (pe_callN (ok_l_number (P := P) (w := w) (base := base) T) hr (pa_cons (pv 0) (pa_cons pe_int (pa_cons pe_int (pa_cons pe_int pa_nil)))))))) pss_nil)
      (pss_cons (ps_set (i := 2) sc_l_ledger_build.nd rfl (Or.inl rfl) pe_int)
      (pss_cut (ps_if (pt_cmpR op_gt (pv 1) pe_int (nomark _)) (pss_one (ps_set (i := 2) sc_l_ledger_build.nd rfl (Or.inl rfl) (pe_callN (ok_l_number (P := P) (w := w) (base := base) T) hr (pa_cons (pv 0) (pa_cons pe_int (pa_cons pe_int (pa_cons pe_int pa_nil))))))) pss_nil)
      (pss_cons (ps_set (i := 3) sc_l_ledger_build.nd rfl (Or.inl rfl) (pe_ix (ixL K) (pe_lst (pa_cons pe_int (pa_cons pe_int (pa_cons pe_int (pa_cons pe_int (pa_cons pe_int (pa_cons pe_int (pa_cons pe_int (pa_cons pe_int pa_nil))))))))) (pe_callN (ok_l_number (P := P) (w := w) (base := base) T) hr (pa_cons (pv 0) (pa_cons pe_int (pa_cons pe_int (pa_cons pe_int pa_nil))))) (fun _ _ => rfl)))
      (pss_cons (ps_set (i := 4) sc_l_ledger_build.nd rfl (Or.inl rfl) (pe_lst pa_nil))
      (pss_cons (ps_set (i := 5) sc_l_ledger_build.nd rfl (Or.inr rfl) (pe_lc (own := [("_law_k", 6)]) rfl sc_l_ledger_build.nd (pi_range1 rfl (fr_range T) (pa_cons (pv 1) pa_nil)) (blkOk_by (own := [("_law_k", 6)]) (N := ["_law_script", "_law_many", "_law_count", "_law_lies", "_law_rows", "_law_last", "_law_k", "_law_at", "_law_pick", "_law_place", "_law_found", "_law_left", "_law_sweep", "_law_n", "_law_row", "_law_spot"]) (sc := defScope s_l_ledger_build) (by decide +kernel)) (fun _ _ _ _ _ => (pg_name (i := 6) sc_l_ledger_build.nd rfl (Or.inl rfl))) (fun _ _ _ _ _ => pts_nil) (fun _ _ _ _ _ => (pe_tup (pa_cons pe_int (pa_cons pe_int pa_nil))))))
      (pss_cut (ps_for PassesOwn.never rfl (pi_range2 rfl (fr_range T) (pa_cons pe_int (pa_cons (pe_op op_add pe_int (pv 2)) pa_nil))) (pg_name (i := 7) sc_l_ledger_build.nd rfl (Or.inl rfl)) (pss_cons (ps_set (i := 8) sc_l_ledger_build.nd rfl (Or.inl rfl) (pe_callN (ok_l_number (P := P) (w := w) (base := base) T) hr (pa_cons (pv 0) (pa_cons (pv 7) (pa_cons pe_int (pa_cons (pe_op op_mul pe_int (pv 1)) pa_nil))))))
      (pss_cons (ps_set (i := 9) sc_l_ledger_build.nd rfl (Or.inl rfl) (pe_op op_fdiv (pv 8) pe_int))
      (pss_cut (ps_if (pt_cmpR op_eq (pe_op op_mod (pe_callTy call_int1 (by rfl) (fr_int T) (by decide +kernel) (pa_cons (pv 8) pa_nil)) pe_int) pe_int (nomark _)) (pss_one (ps_set (i := 9) sc_l_ledger_build.nd rfl (Or.inl rfl) (pe_op op_mod (pe_callTy call_int1 (by rfl) (fr_int T) (by decide +kernel) (pa_cons (pv 9) pa_nil)) (pe_callB (call_min2 rfl) (by rfl) (fr_min T) (by decide +kernel) (pa_cons pe_int (pa_cons (pv 1) pa_nil)))))) pss_nil)
      (pss_cons (ps_set (i := 10) sc_l_ledger_build.nd rfl (Or.inl rfl) (pe_ix (ixL K) (pv 5) (pv 9) (fun _ _ => rfl)))
      (pss_cut (ps_if (PW.pt (pw_and (pt_cmpR op_eq (pv 3) pe_int (nomark _)) (pw_and1 (pt_cmpR op_eq (pe_callN (ok_l_number (P := P) (w := w) (base := base) T) hr (pa_cons (pv 0) (pa_cons (pv 7) (pa_cons pe_int (pa_cons pe_int pa_nil))))) pe_int (nomark _))))) (pss_one (ps_set (i := 10) sc_l_ledger_build.nd rfl (Or.inl rfl) (pe_tup (pa_cons (pe_callN (ok_l_number (P := P) (w := w) (base := base) T) hr (pa_cons (pv 0) (pa_cons (pv 7) (pa_cons pe_int (pa_cons pe_int pa_nil))))) (pa_cons (pe_callN (ok_l_number (P := P) (w := w) (base := base) T) hr (pa_cons (pv 0) (pa_cons (pv 7) (pa_cons pe_int (pa_cons pe_int pa_nil))))) pa_nil))))) pss_nil)
      (pss_cons (ps_set (i := 11) sc_l_ledger_build.nd rfl (Or.inl rfl) (pe_callN (ok_l_ledger_left (P := P) (w := w) (base := base) T) hr (pa_cons (pv 0) (pa_cons (pv 7) (pa_cons (pe_ix (ixT K) (pv 10) pe_int (fun _ _ => rfl)) pa_nil)))))
      (pss_cons (ps_expr (pe_bm PySem.F.plainAttrs_list PySem.F.slot_list_append PySem.F.type_list_append mt_append (pv 4) (pa_cons (pe_lst (pa_cons (pv 9) (pa_cons (pe_ix (ixT K) (pv 10) pe_int (fun _ _ => rfl)) (pa_cons (pe_ix (ixT K) (pv 10) pe_int (fun _ _ => rfl)) (pa_cons (pv 11) pa_nil))))) pa_nil)))
      (pss_one (ps_asg (pe_tup (pa_cons (pv 11) (pa_cons (pv 7) pa_nil))) (pg_sub (pv 5) (pv 9) set_list)))))))))))
      (pss_cons (ps_setLc (i := 12) (own := [("_law_k", 6)]) rfl sc_l_ledger_build.nd rfl rfl (sw_true rfl rfl rfl (by decide +kernel)) (pi_range1 rfl (fr_range T) (pa_cons (pv 1) pa_nil)) (blkOk_by (own := [("_law_k", 6)]) (N := ["_law_script", "_law_many", "_law_count", "_law_lies", "_law_rows", "_law_last", "_law_k", "_law_at", "_law_pick", "_law_place", "_law_found", "_law_left", "_law_sweep", "_law_n", "_law_row", "_law_spot"]) (sc := defScope s_l_ledger_build) (by decide +kernel)) (fun _ _ _ _ _ => (pg_name (i := 6) sc_l_ledger_build.nd rfl (Or.inl rfl))) (fun _ _ _ _ _ => pts_nil) (fun _ _ _ _ _ => (pe_lst (pa_cons (pv 6) (pa_cons (pe_ix (ixT K) (pe_ix (ixL K) (pv 5) (pv 6) (fun _ _ => rfl)) pe_int (fun _ _ => rfl)) (pa_cons (pe_ix (ixT K) (pe_ix (ixL K) (pv 5) (pv 6) (fun _ _ => rfl)) pe_int (fun _ _ => rfl)) pa_nil))))))
      (pss_cut (ps_if (pt_cmpR op_eq (pv 3) pe_int (nomark _)) (pss_one (ps_for PassesOwn.never rfl (pi_range1 rfl (fr_range T) (pa_cons (pe_callB (call_min2 rfl) (by rfl) (fr_min T) (by decide +kernel) (pa_cons (pv 1) (pa_cons pe_int pa_nil))) pa_nil)) (pg_name (i := 6) sc_l_ledger_build.nd rfl (Or.inl rfl)) (pss_one (ps_if (pt_cmpR op_eq (pe_callN (ok_l_number (P := P) (w := w) (base := base) T) hr (pa_cons (pv 0) (pa_cons (pe_op op_add pe_int (pv 6)) (pa_cons pe_int (pa_cons pe_int pa_nil))))) pe_int (nomark _)) (pss_one (ps_asg (pe_lst (pa_cons (pv 6) (pa_cons (pe_callN (ok_l_number (P := P) (w := w) (base := base) T) hr (pa_cons (pv 0) (pa_cons (pe_op op_add pe_int (pv 6)) (pa_cons pe_int (pa_cons pe_int pa_nil))))) (pa_cons (pe_callN (ok_l_number (P := P) (w := w) (base := base) T) hr (pa_cons (pv 0) (pa_cons (pe_op op_add pe_int (pv 6)) (pa_cons pe_int (pa_cons pe_int pa_nil))))) pa_nil)))) (pg_sub (pv 12) (pv 6) set_list))) pss_nil)))) (pss_one (ps_if (pt_cmpR op_gt (pv 1) pe_int (nomark _)) (pss_one (ps_for PassesOwn.never rfl (pi_range1 rfl (fr_range T) (pa_cons (pv 3) pa_nil)) (pg_name (i := 13) sc_l_ledger_build.nd rfl (Or.inl rfl)) (pss_one (ps_expr (pe_callN (ok_l_ledger_spoil (P := P) (w := w) (base := base) T) hr (pa_cons (pv 0) (pa_cons (pe_op op_add pe_int (pv 13)) (pa_cons (pv 4) (pa_cons (pv 12) pa_nil))))))))) pss_nil)))
      (pss_one (ps_ret (pe_tup (pa_cons (pv 1) (pa_cons (pe_lc (own := [("_law_row", 14)]) rfl sc_l_ledger_build.nd (pi_list (pv 4)) (blkOk_by (own := [("_law_row", 14)]) (N := ["_law_script", "_law_many", "_law_count", "_law_lies", "_law_rows", "_law_last", "_law_k", "_law_at", "_law_pick", "_law_place", "_law_found", "_law_left", "_law_sweep", "_law_n", "_law_row", "_law_spot"]) (sc := defScope s_l_ledger_build) (by decide +kernel)) (fun _ _ _ _ _ => (pg_name (i := 14) sc_l_ledger_build.nd rfl (Or.inl rfl))) (fun _ _ _ _ _ => pts_nil) (fun _ _ _ _ _ => (pe_tup (pa_cons (pe_ix (ixL K) (pv 14) pe_int (fun _ _ => rfl)) (pa_cons (pe_ix (ixL K) (pv 14) pe_int (fun _ _ => rfl)) (pa_cons (pe_ix (ixL K) (pv 14) pe_int (fun _ _ => rfl)) (pa_cons (pe_ix (ixL K) (pv 14) pe_int (fun _ _ => rfl)) pa_nil))))))) (pa_cons (pe_lc (own := [("_law_spot", 15)]) rfl sc_l_ledger_build.nd (pi_list (pv 12)) (blkOk_by (own := [("_law_spot", 15)]) (N := ["_law_script", "_law_many", "_law_count", "_law_lies", "_law_rows", "_law_last", "_law_k", "_law_at", "_law_pick", "_law_place", "_law_found", "_law_left", "_law_sweep", "_law_n", "_law_row", "_law_spot"]) (sc := defScope s_l_ledger_build) (by decide +kernel)) (fun _ _ _ _ _ => (pg_name (i := 15) sc_l_ledger_build.nd rfl (Or.inl rfl))) (fun _ _ _ _ _ => pts_nil) (fun _ _ _ _ _ => (pe_tup (pa_cons (pe_ix (ixL K) (pv 15) pe_int (fun _ _ => rfl)) (pa_cons (pe_ix (ixL K) (pv 15) pe_int (fun _ _ => rfl)) (pa_cons (pe_ix (ixL K) (pv 15) pe_int (fun _ _ => rfl)) pa_nil)))))) pa_nil)))))))))))))))), ?_⟩
  have num : ∀ {σ : L2.St} {H1 : Hp} {a k z : Int} {ta tz : TE}, σ[0]? = some (some (.ref s)) → Ex H H1 → Ev ta σ H1 (.int a) → 0 ≤ a → a ≤ 1000 → Ev tz σ H1 (.int z) → 0 ≤ k → k ≤ 1000 → 0 < z → z ≤ 1000 → Ev (tCall (spNum K) [] E0 (tCons (tVar 0) (tCons ta (tCons (tC (.int k)) (tCons tz tNil))))) σ H1 (.int (lawNum ns a k z)) := fun r0 e ha a0 a1 hz k0 k1 z0 z1 =>
    ev_call (ea_cons (ev_var r0) (ea_cons ha (ea_cons ev_c (ea_cons hz ea_nil)))) (sv_num (ex_l e hS) hl (numok a0 a1 k0 k1 z0 z1))
  have c0 := lawNum_nn ns 0 12 6 (by decide)
  have c1 := lawNum_lt ns 0 12 6 (by decide)
  have d0 := lawNum_nn ns 0 1 59 (by decide)
  have d1 := lawNum_lt ns 0 1 59 (by decide)
  have f0 := lawNum_nn ns 0 5 25 (by decide)
  have f1 := lawNum_lt ns 0 5 25 (by decide)
  refine q_asg (num rfl (Ex.refl H) ev_c (by decide) (by decide) ev_c (by decide) (by decide) (by decide) (by decide)) fun H1 e1 => ?_
  refine q_cut (M := fun σ' H' => Ex H H' ∧ ∃ m : Nat, m ≤ 70 ∧ σ' = [some (.ref s), some (.int (m : Int)), none, none, none, none, none, none, none, none, none, none, none, none, none, none])
    (s_if (et_test (ev_op (num rfl e1 ev_c (by decide) (by decide) ev_c (by decide) (by decide) (by decide) (by decide)) ev_c (rv_eq rfl))) (fun hb H2 e2 => ?_) (fun hb H2 e2 => ?_)) ?_
  · refine s_asg (ev_op ev_c (num rfl (e1.trans e2) ev_c (by decide) (by decide) ev_c (by decide) (by decide) (by decide) (by decide)) rv_I0) fun H3 e3 => ⟨(e1.trans e2).trans e3, (6 + lawNum ns 0 1 59).toNat, by omega, ?_⟩
    rw [show (((6 + lawNum ns 0 1 59).toNat : Nat) : Int) = 6 + lawNum ns 0 1 59 by omega]
    rfl
  · refine ⟨e1.trans e2, (lawNum ns 0 12 6).toNat, by omega, ?_⟩
    rw [show (((lawNum ns 0 12 6).toNat : Nat) : Int) = lawNum ns 0 12 6 by omega]
    rfl
  clear e1
  rintro σ' H1 ⟨e1, m, hm, rfl⟩
  refine q_asg ev_c fun H2 e2 => ?_
  have E2 := e1.trans e2
  refine q_cut (M := fun σ' H' => Ex H H' ∧ ∃ ct : Nat, ct ≤ 25 ∧ (m = 0 → ct = 0) ∧ σ' = [some (.ref s), some (.int (m : Int)), some (.int (ct : Int)), none, none, none, none, none, none, none, none, none, none, none, none, none])
    (s_if (et_test (ev_op (ev_var rfl) ev_c rv_I0)) (fun hb H3 e3 => ?_) (fun hb H3 e3 => ?_)) ?_
  · have hm0 : (0 : Int) < (m : Int) := of_decide_eq_true hb
    refine s_asg (num rfl (E2.trans e3) ev_c (by decide) (by decide) ev_c (by decide) (by decide) (by decide) (by decide)) fun H4 e4 => ⟨(E2.trans e3).trans e4, (lawNum ns 0 5 25).toNat, by omega, by omega, ?_⟩
    rw [show (((lawNum ns 0 5 25).toNat : Nat) : Int) = lawNum ns 0 5 25 by omega]
    rfl
  · exact ⟨E2.trans e3, 0, by omega, fun _ => rfl, rfl⟩
  clear E2 e2 e1
  rintro σ' H2 ⟨E2, ct, hct, hct0, rfl⟩
  obtain ⟨li, hli, li0, li1⟩ := eight_at (lawNum_nn ns 0 13 8 (by decide)) (lawNum_lt ns 0 13 8 (by decide))
  refine q_asg (v := .int li) (ev_opL1 (el_lst (ea_cons ev_c (ea_cons ev_c (ea_cons ev_c (ea_cons ev_c (ea_cons ev_c (ea_cons ev_c (ea_cons ev_c (ea_cons ev_c ea_nil)))))))) (by simp)) (fun H3 e3 => num rfl (E2.trans e3) ev_c (by decide) (by decide) ev_c (by decide) (by decide) (by decide) (by decide)) fun q H3 hq _ => rv_ixL (sq_of hq) hli) fun H3 e3 => ?_
  have E3 := E2.trans e3
  refine q_asgL (el_lst ea_nil (by simp)) fun rp H4 nrp e4 h4 => ?_
  have E4 := E3.trans e4
  have nrp0 := fresh_back E3 nrp
  refine q_asgTL (K := K) (rs := (List.replicate m ((0 : Int), (0 : Int))).map prL) (etl_rng (n := (m : Int)) (ea_cons (ev_var rfl) ea_nil) (by omega) (by simp) (fun _ => rfl) fun i r H5 e5 hi hr => ?_) fun lp acc0 H5 nlp e5 h5 ht5 => ?_
  · rw [List.getElem?_map, List.getElem?_replicate] at hr
    rw [if_pos (by omega)] at hr
    obtain rfl := Option.some.inj hr
    exact etu_U (eu_tup (ea_cons ev_c (ea_cons ev_c ea_nil)) (by simp)) rfl
  have nlp0 := fresh_back E4 nlp
  have hrl : rp ≠ lp := fun z => by
    rw [← z, h4] at nlp
    cases nlp
  have R5 : RL H H5 rp 0 m := ⟨E4.trans e5, ⟨[], e5 _ _ h4, rfl, by simp⟩, nrp0⟩
  refine q_forR2' (lo := 1) (n := 1 + (ct : Int)) (ea_cons ev_c (ea_cons (ev_op ev_c (ev_var rfl) rv_I0) ea_nil)) (by omega)
    (fun i σ' H' => RL H H' rp i m ∧ (∃ (acc : List V) (ps : List (Int × Int)), H' lp = some (.lst acc) ∧ TupsAt K H' acc (ps.map prL) ∧ ps.length = m) ∧ ∃ o7 o8 o9 o10 o11, σ' = [some (.ref s), some (.int (m : Int)), some (.int (ct : Int)), some (.int li), some (.ref rp), some (.ref lp), none, o7, o8, o9, o10, o11, none, none, none, none])
    (fun σ' H' => RL H H' rp ct m ∧ (∃ (acc : List V) (ps : List (Int × Int)), H' lp = some (.lst acc) ∧ TupsAt K H' acc (ps.map prL) ∧ ps.length = m) ∧ ∃ o7 o8 o9 o10 o11, σ' = [some (.ref s), some (.int (m : Int)), some (.int (ct : Int)), some (.int li), some (.ref rp), some (.ref lp), none, o7, o8, o9, o10, o11, none, none, none, none]) ?_ ?_ ?_ ?_
  · exact fun H6 e6 => ⟨R5.to e6, ⟨acc0, _, e6 _ _ h5, ht5.ex e6, by simp⟩, _, _, _, _, _, rfl⟩
  · rintro i σ' H6 hi ⟨R6, ⟨acc, ps, hac, hat, hpl⟩, o7, o8, o9, o10, o11, rfl⟩
    have hm0 : 0 < m := by
      apply Nat.pos_of_ne_zero
      intro z
      have := hct0 z
      omega
    have pk0 := lawNum_nn ns (1 + (i : Int)) 0 (2 * (m : Int)) (by omega)
    have pk1 := lawNum_lt ns (1 + (i : Int)) 0 (2 * (m : Int)) (by omega)
    refine q_asg (num rfl R6.ex (ev_var rfl) (by omega) (by omega) (ev_op ev_c (ev_var rfl) (rv_I (by unfold CMul; omega))) (by decide) (by decide) (by omega) (by omega)) fun H7 e7 => ?_
    generalize lawNum ns (1 + (i : Int)) 0 (2 * (m : Int)) = pk at pk0 pk1 ⊢
    refine q_asg (ev_op (ev_var rfl) ev_c (rv_I (by unfold CDiv; decide))) fun H8 e8 => ?_
    have E8 := e7.trans e8
    refine q_cut (M := fun σ' H' => Ex H6 H' ∧ ∃ pl : Int, 0 ≤ pl ∧ pl < m ∧ σ' = [some (.ref s), some (.int (m : Int)), some (.int (ct : Int)), some (.int li), some (.ref rp), some (.ref lp), none, some (.int (1 + (i : Int))), some (.int pk), some (.int pl), o10, o11, none, none, none, none])
      (s_if (et_test (ev_op (ev_op (ev_cb (ea_cons (ev_var rfl) ea_nil) rc_int) ev_c (rv_I (by decide))) ev_c (rv_eq rfl))) (fun hb H9 e9 => ?_) (fun hb H9 e9 => ⟨E8.trans e9, pk / 2, by omega, by omega, rfl⟩)) ?_
    · have hmn : (0 : Int) < (if (m : Int) < 3 then (m : Int) else 3) ∧ (if (m : Int) < 3 then (m : Int) else 3) ≤ m := by
        split <;> omega
      have q0 := Int.emod_nonneg (pk / 2) (show (if (m : Int) < 3 then (m : Int) else 3) ≠ 0 by omega)
      have q1 := Int.emod_lt_of_pos (pk / 2) hmn.1
      exact s_asg (ev_op (ev_cb (ea_cons (ev_var rfl) ea_nil) rc_int) (ev_cb (ea_cons ev_c (ea_cons (ev_var rfl) ea_nil)) rc_min2) (rv_I hmn.1)) fun H10 e10 => ⟨(E8.trans e9).trans e10, _, q0, by omega, rfl⟩
    · rintro σ' H9 ⟨E9, pl, pl0, pl1, rfl⟩
      obtain ⟨t, fx, fy, hta, hts⟩ := prs_get (hat.ex E9) pl0 (by rw [hpl]; exact pl1)
      refine q_asgTu (etu_of (ev_op (ev_var rfl) (ev_var rfl) (rv_ixL (sq_of (E9 _ _ hac)) hta)) hts) fun t1 H10 e10 hs10 => ?_
      have E10 := E9.trans e10
      have R10 := R6.to E10
      refine q_cut (M := fun σ' H' => Ex H6 H' ∧ ∃ (t : Addr) (x y : Int), SqT K H' t [.int x, .int y] ∧ σ' = [some (.ref s), some (.int (m : Int)), some (.int (ct : Int)), some (.int li), some (.ref rp), some (.ref lp), none, some (.int (1 + (i : Int))), some (.int pk), some (.int pl), some (.ref t), o11, none, none, none, none])
        (s_if (et_and (et_test (ev_op (ev_var rfl) ev_c (rv_eq rfl))) fun _ => et_test (ev_op (num rfl R10.ex (ev_var rfl) (by omega) (by omega) ev_c (by decide) (by decide) (by decide) (by decide)) ev_c (rv_eq rfl))) (fun hb H11 e11 => ?_) (fun hb H11 e11 => ⟨E10.trans e11, t1, fx, fy, ex_t e11 hs10, rfl⟩)) ?_
      · exact s_asgU (eu_tup (ea_cons (num rfl (R10.to e11).ex (ev_var rfl) (by omega) (by omega) ev_c (by decide) (by decide) (by decide) (by decide)) (ea_cons (num rfl (R10.to e11).ex (ev_var rfl) (by omega) (by omega) ev_c (by decide) (by decide) (by decide) (by decide)) ea_nil)) (by simp)) fun t2 H12 _ e12 h12 => ⟨(E10.trans e11).trans e12, t2, _, _, st_of h12, rfl⟩
      · rintro σ' H11 ⟨E11, t2, x, y, hs11, rfl⟩
        have R11 := R6.to E11
        refine q_left (ea_cons (ev_var rfl) (ea_cons (ev_var rfl) (ea_cons (ev_op (ev_var rfl) ev_c (rv_ixT hs11 (atI_nat (j := 0) rfl))) ea_nil))) (ex_l R11.ex hS) hl (by omega) (by omega) fun lf H12 e12 => ?_
        have R12 := R11.to e12
        have hs12 := ex_t e12 hs11
        obtain ⟨as, ha12, hal, -⟩ := R12.rs
        refine q_appL ha12 (ev_var rfl) (el_lst (ea_cons (ev_var rfl) (ea_cons (ev_op (ev_var rfl) ev_c (rv_ixT hs12 (atI_nat (j := 0) rfl))) (ea_cons (ev_op (ev_var rfl) ev_c (rv_ixT hs12 (atI_nat (j := 1) rfl))) (ea_cons (ev_var rfl) ea_nil)))) (by simp)) (by rw [List.length_map]; omega) fun x1 H13 nx1 e13 h13 => ?_
        have R13 := R12.to e13
        have nx0 := fresh_back R12.ex nx1
        have R14 := R13.more (e13 _ _ ha12) nx0 h13 pl0 pl1
        have ac13 := ((E11.trans e12).trans e13) _ _ hac
        have at13 := hat.ex ((E11.trans e12).trans e13)
        have ac14 : (L2.upd H13 rp (.lst (as.map V.ref ++ [.ref x1]))) lp = some (.lst acc) := by
          rw [upd_ne hrl.symm]
          exact ac13
        have at14 : TupsAt K (L2.upd H13 rp (.lst (as.map V.ref ++ [.ref x1]))) acc (ps.map prL) := at13.keep (e13 _ _ ha12) (by simp) (by simp)
        generalize L2.upd H13 rp (.lst (as.map V.ref ++ [.ref x1])) = Ha at R14 ac14 at14 ⊢
        obtain ⟨pn, rfl⟩ : ∃ pn : Nat, pl = pn := ⟨pl.toNat, by omega⟩
        have hal2 := at14.len
        rw [List.length_map] at hal2
        refine su_setL (j := pn) ac14 (eu_tup (ea_cons (ev_var rfl) (ea_cons (ev_var rfl) ea_nil)) (by simp)) (ev_var rfl) (ev_var rfl) (by omega) fun t3 H15 e15 h15 => ?_
        have ac15 := e15 _ _ ac14
        refine ⟨(R14.to e15).other ac15 (at14.ex e15) nlp0 hrl, ⟨_, ps.set pn (lf, 1 + (i : Int)), upd_same, ?_, by rw [List.length_set]; exact hpl⟩, _, _, _, _, _, rfl⟩
        rw [List.map_set]
        exact ((at14.ex e15).keep ac15 (by simp) (by simp)).set (sqt_keep ac15 (by simp) (by simp) (st_of h15))
  · rintro σ' H6 ⟨R6, h, o7, o8, o9, o10, o11, rfl⟩
    rw [show (1 + (ct : Int) - 1).toNat = ct by omega] at R6
    exact ⟨R6, h, _, _, _, _, _, rfl⟩
  · rintro σ' H6 ⟨R6, ⟨acc, ps, hac, hat, hpl⟩, o7, o8, o9, o10, o11, rfl⟩
    have hlast : ∀ {σ : L2.St} {Hc : Hp} {k : Nat}, k < m → Ex H6 Hc → σ[5]? = some (some (.ref lp)) → σ[6]? = some (some (.int (k : Int))) → ∃ x y : Int, Ev (tOp (rIxT K) (tOp (rIxL K) (tVar 5) (tVar 6)) (tC (.int 0))) σ Hc (.int x) ∧ Ev (tOp (rIxT K) (tOp (rIxL K) (tVar 5) (tVar 6)) (tC (.int 1))) σ Hc (.int y) := fun {σ Hc k} hk e r5 r6 => by
      obtain ⟨t, x, y, h1, h2⟩ := prs_get (hat.ex e) (show (0 : Int) ≤ (k : Int) by omega) (by omega)
      have hb := ev_op (ev_var r5) (ev_var r6) (rv_ixL (K := K) (sq_of (e _ _ hac)) h1)
      exact ⟨x, y, ev_op hb ev_c (rv_ixT h2 (atI_nat (j := 0) rfl)), ev_op hb ev_c (rv_ixT h2 (atI_nat (j := 1) rfl))⟩
    refine q_swp (n := (m : Int)) (ea_cons (ev_var rfl) ea_nil) (by omega) (fun _ => rfl) (fun k H7 e7 hk => ?_) fun sp bs H7 nsp e7 h7 hbl hbs hnm => ?_
    · obtain ⟨x, y, hx, hy⟩ := hlast (k := k) (σ := [some (.ref s), some (.int (m : Int)), some (.int (ct : Int)), some (.int li), some (.ref rp), some (.ref lp), some (.int (k : Int)), o7, o8, o9, o10, o11, none, none, none, none]) (by omega) e7 rfl rfl
      exact ⟨x, y, el_lst (ea_cons (ev_var rfl) (ea_cons hx (ea_cons hy ea_nil))) (by simp)⟩
    have R7 := R6.to e7
    have B7 : Bld H H7 rp sp ct m := ⟨R7.ex, R7.rs, ⟨bs, h7, by omega, fun x hx => let ⟨nx, r⟩ := hbs x hx; ⟨fresh_back R6.ex nx, r⟩, hnm⟩, R7.fr, fresh_back R6.ex nsp⟩
    have hrs : rp ≠ sp := fun z => by
      obtain ⟨as, h, _⟩ := R6.rs
      rw [← z, h] at nsp
      cases nsp
    refine q_cut (M := fun σ' H' => Bld H H' rp sp ct m ∧ ∃ o6 o13, σ' = [some (.ref s), some (.int (m : Int)), some (.int (ct : Int)), some (.int li), some (.ref rp), some (.ref lp), o6, o7, o8, o9, o10, o11, some (.ref sp), o13, none, none])
      (s_if (et_test (ev_op (ev_var rfl) ev_c (rv_eq rfl))) (fun hb H8 e8 => ?_) (fun hb H8 e8 => ?_)) ?_
    · have hmn : (0 : Int) ≤ (if (6 : Int) < (m : Int) then (6 : Int) else (m : Int)) ∧ (if (6 : Int) < (m : Int) then (6 : Int) else (m : Int)) ≤ m ∧ (if (6 : Int) < (m : Int) then (6 : Int) else (m : Int)) ≤ 6 := by
        split <;> omega
      refine s_forR1 (n := if (6 : Int) < (m : Int) then (6 : Int) else (m : Int)) (ea_cons (ev_cb (ea_cons (ev_var rfl) (ea_cons ev_c ea_nil)) rc_min2) ea_nil) (by omega) (fun i σ' H' => Bld H H' rp sp ct m ∧ ∃ o6, σ' = [some (.ref s), some (.int (m : Int)), some (.int (ct : Int)), some (.int li), some (.ref rp), some (.ref lp), o6, o7, o8, o9, o10, o11, some (.ref sp), none, none, none]) ?_ ?_ ?_
      · exact fun H9 e9 => ⟨(B7.to e8).to e9, _, rfl⟩
      · rintro i σ' H9 hi ⟨B9, o6, rfl⟩
        refine s_when (et_test (ev_op (num rfl B9.ex (ev_op ev_c (ev_var rfl) rv_I0) (by omega) (by omega) ev_c (by decide) (by decide) (by decide) (by decide)) ev_c (rv_eq rfl))) (fun hc H10 e10 => ?_) (fun hc H10 e10 => ⟨B9.to e10, _, rfl⟩)
        have B10 := B9.to e10
        obtain ⟨as2, bs2, hA, hB, hal, hbl2, -, -⟩ := B10.spots
        refine sl_setL (j := i) hB (el_lst (ea_cons (ev_var rfl) (ea_cons (num rfl B10.ex (ev_op ev_c (ev_var rfl) rv_I0) (by omega) (by omega) ev_c (by decide) (by decide) (by decide) (by decide)) (ea_cons (num rfl B10.ex (ev_op ev_c (ev_var rfl) rv_I0) (by omega) (by omega) ev_c (by decide) (by decide) (by decide) (by decide)) ea_nil))) (by simp)) (ev_var rfl) (ev_var rfl) (by rw [List.length_map]; omega) fun q H11 nq e11 h11 => ⟨(B10.to e11).moveS hrs (e11 _ _ hB) ⟨fresh_back B10.ex nq, _, _, h11⟩, _, rfl⟩
      · rintro σ' H9 ⟨B9, o6, rfl⟩
        exact ⟨B9, _, _, rfl⟩
    · refine s_when (et_test (ev_op (ev_var rfl) ev_c rv_I0)) (fun hc H9 e9 => ?_) (fun hc H9 e9 => ⟨(B7.to e8).to e9, _, _, rfl⟩)
      have hm0 : (0 : Int) < (m : Int) := of_decide_eq_true hc
      refine s_forR1 (n := li) (ea_cons (ev_var rfl) ea_nil) (by omega) (fun i σ' H' => Bld H H' rp sp ct m ∧ ∃ o13, σ' = [some (.ref s), some (.int (m : Int)), some (.int (ct : Int)), some (.int li), some (.ref rp), some (.ref lp), none, o7, o8, o9, o10, o11, some (.ref sp), o13, none, none]) ?_ ?_ ?_
      · exact fun H10 e10 => ⟨((B7.to e8).to e9).to e10, _, rfl⟩
      · rintro i σ' H10 hi ⟨B10, o13, rfl⟩
        exact s_spoil (ea_cons (ev_var rfl) (ea_cons (ev_op ev_c (ev_var rfl) rv_I0) (ea_cons (ev_var rfl) (ea_cons (ev_var rfl) ea_nil)))) hS hl (by omega) (by omega) B10 (by omega) (by omega) fun H11 B11 => ⟨B11, _, rfl⟩
      · rintro σ' H10 ⟨B10, o13, rfl⟩
        exact ⟨B10, _, _, rfl⟩
    · rintro σ' H8 ⟨B8, o6, o13, rfl⟩
      obtain ⟨as, hA, hal, hrow⟩ := B8.rs
      obtain ⟨bs2, hB, hbl2, hswp, hnm⟩ := B8.ss
      obtain ⟨rs, hrl', hrs2⟩ := choose_list (P := fun x (r : Row) => H8 x = some (spotV r.1 r.2.1 r.2.2.1 [.int r.2.2.2]) ∧ 0 ≤ r.1 ∧ r.1 < m) (xs := as) fun x hx => let ⟨_, p, s, t, l, h, hp⟩ := hrow x hx; ⟨(p, s, t, l), h, hp⟩
      obtain ⟨sw, hsl, hsw2⟩ := choose_list (P := fun x (r : Swp) => H8 x = some (spotV r.1 r.2.1 r.2.2 [])) (xs := bs2) fun x hx => let ⟨_, p, s, t, h⟩ := hswp x hx; ⟨(p, s, t), h⟩
      refine s_ret3 (K := K) (rs1 := rs.map rowL) (rs2 := sw.map swpL) (ev_var rfl) (etl_list (xs := as.map V.ref) (ev_var rfl) (sq_of hA) (by simp [hrl']) (by simp; omega) (fun _ => rfl) fun i x r H9 e9 hx hr => ?_) (etl_list (xs := bs2.map V.ref) (ev_var rfl) (sq_of hB) (by simp [hsl]) (by simp; omega) (fun _ => rfl) fun i x r H9 e9 hx hr => ?_) fun t a b ys zs H9 e9 ht ha hat2 hb hbt => ?_
      · rw [List.getElem?_map] at hx hr
        obtain ⟨x', hx', rfl⟩ := Option.map_eq_some_iff.mp hx
        obtain ⟨r', hr', rfl⟩ := Option.map_eq_some_iff.mp hr
        obtain ⟨hi, rfl⟩ := List.getElem?_eq_some_iff.mp hx'
        obtain ⟨hi2, rfl⟩ := List.getElem?_eq_some_iff.mp hr'
        have hc := sq_of (K := K) (e9 _ _ (hrs2 i hi hi2).1)
        exact etu_U (eu_tup (ea_cons (ev_op (ev_var rfl) ev_c (rv_ixL hc (atI_nat (j := 0) rfl))) (ea_cons (ev_op (ev_var rfl) ev_c (rv_ixL hc (atI_nat (j := 1) rfl))) (ea_cons (ev_op (ev_var rfl) ev_c (rv_ixL hc (atI_nat (j := 2) rfl))) (ea_cons (ev_op (ev_var rfl) ev_c (rv_ixL hc (atI_nat (j := 3) rfl))) ea_nil)))) (by simp)) rfl
      · rw [List.getElem?_map] at hx hr
        obtain ⟨x', hx', rfl⟩ := Option.map_eq_some_iff.mp hx
        obtain ⟨r', hr', rfl⟩ := Option.map_eq_some_iff.mp hr
        obtain ⟨hi, rfl⟩ := List.getElem?_eq_some_iff.mp hx'
        obtain ⟨hi2, rfl⟩ := List.getElem?_eq_some_iff.mp hr'
        have hc := sq_of (K := K) (e9 _ _ (hsw2 i hi hi2))
        exact etu_U (eu_tup (ea_cons (ev_op (ev_var rfl) ev_c (rv_ixL hc (atI_nat (j := 0) rfl))) (ea_cons (ev_op (ev_var rfl) ev_c (rv_ixL hc (atI_nat (j := 1) rfl))) (ea_cons (ev_op (ev_var rfl) ev_c (rv_ixL hc (atI_nat (j := 2) rfl))) ea_nil))) (by simp)) rfl
      · refine hQ rs sw m t a b H9 (B8.ex.trans e9) (st_of ht) ⟨⟨ys, sq_of ha, hat2⟩, ⟨zs, sq_of hb, hbt⟩, fun r hr => ?_, by omega, by omega, by omega⟩ (by omega) (by omega) (by omega) ⟨ys, zs, ha, hat2, hb, hbt⟩ fun k hk => ?_
        rotate_left
        · obtain ⟨s1, t1, hq⟩ := hnm k (by omega)
          have hq2 := hsw2 k (by omega) hk
          rw [hq] at hq2
          exact (spot_inj (Option.some.inj hq2)).1.symm
        obtain ⟨i, hi, rfl⟩ := List.getElem_of_mem hr
        exact (hrs2 i (by omega) hi).2
theorem ok_l_ledger_build (T : TX K mg) : DefOk P w K mg base (4) "_law_ledger_build" ["_law_script"] [] (spBuild K) := by
  obtain ⟨fd, F, h⟩ := fn_l_ledger_build (P := P) (w := w) (base := base) T
  exact DefOk.of F (gl_l_ledger_build T) (F.bindsN fun _ _ _ _ _ _ us hl => match us, hl with | [_], _ => rfl) h
end

/-! ### enumerate(a list, start=k) -/
def IteS (K : PySem.W.Frag) (k : Int) (a : Addr) : It :=
  ⟨fun i H => ∃ (xs : List V) (x : V), SqL K H a xs ∧ xs[i]? = some x, fun i H v H' => ∃ T x, v = .ref T ∧ H T = none ∧ H' = upd H T (.tup [.int (k + (i : Nat)), x]) ∧ ∀ xs, SqL K H a xs → xs[i]? = some x, fun i H => ∃ xs : List V, SqL K H a xs ∧ xs.length = i⟩
theorem cls_ne {h : Heap} {a b : Addr} {o o' : Obj} (h1 : h.get? a = some o) (h2 : h.get? b = some o') (hc : o.cls ≠ o'.cls) : a ≠ b := fun z => by
  subst z
  rw [h1] at h2
  exact hc (congrArg Obj.cls (Option.some.inj h2))
theorem turn_enumS {P : Program} {w : World} {K : PySem.W.Frag} {elts : List Expr} {kk : Nat} {tpos : Pos} (k : Int) (a e it : Addr) :
    Turn P w K (.Tuple elts kk tpos) (IteS K k a) [e, it] e (fun i h => (∃ old, IsEnum h e it (k + (i : Nat)) old) ∧ h.IsListIter it a i ∧ e ≠ it) where
  mem := by simp
  obj := fun i h st b hb => by
    obtain ⟨⟨old, he⟩, ⟨o, ho, hc, hd⟩, _⟩ := st
    rcases (show b = e ∨ b = it by simpa using hb) with z | z <;> subst z
    · exact ⟨_, he, fun v q => nomatch q⟩
    · exact ⟨o, ho, fun v q => by rw [hd] at q; cases q⟩
  keep := fun i h h' st kp => by
    obtain ⟨⟨old, he⟩, hi, hne⟩ := st
    exact ⟨⟨old, kp e (by simp) _ he⟩, hi.at fun o q => kp it (by simp) o q, hne⟩
  item := by
    intro X hP hw hK hc i pins s σ H E I hf st hg
    subst hP hw hK
    obtain ⟨⟨old, he⟩, hit, hne⟩ := st
    obtain ⟨xs, x, hq, hx⟩ := hg
    obtain ⟨its, rv, p, hz⟩ := I.list hq
    obtain ⟨u, hu, ru⟩ := rv.get hx
    have hel : e < s.heap.objs.size := Heap.lt_size he
    obtain ⟨oi, hoi, hci, hdi⟩ := id hit
    have hil : it < s.heap.objs.size := Heap.lt_size hoi
    obtain ⟨ol, hol, hcl, _⟩ := id p.isList
    have hai : a ≠ it := cls_ne hol hoi (by rw [hcl, hci]; intro z; exact absurd (Value.type.inj z) (by decide))
    have hae : e ≠ a := cls_ne he hol (by rw [hcl]; intro z; exact absurd (Value.type.inj z) (by decide))
    have hsz : i < its.toArray.size := by
      have := (List.getElem?_eq_some_iff.mp hu).1
      simpa using this
    refine wpAny_pyNext_enum_itemC (Draws.list (show X.A.in1.handled = none from I.ok.hd hc) it a hai its.toArray) he ⟨hit, p.isList⟩ hsz hne (by simp [hne, hae]) fun y h' tk hy ho hit' hT hsz' hk => ?_
    have hyu : y = u := by
      have h2 : its.toArray[i]? = some u := by simpa using hu
      rw [h2] at hy
      exact (Option.some.inj hy).symm
    subst hyu
    refine ⟨_, rfl, wpAny_letOwnedTupleGo_enum (s := { s with heap := h', toks := tk + 1 }) ho fun h'' he' sb => ?_⟩
    have hT2 : h''.get? s.heap.objs.size = some { cls := .type "tuple", data := .seq #[.int (k + (i : Nat)) tk, y] } := (sb.2 _ (Nat.ne_of_gt hel)).trans hT
    have new : ObjOk X.prog X.w (upd H s.heap.objs.size (.tup [.int (k + (i : Nat)), x])) h'' s.heap.objs.size (.tup [.int (k + (i : Nat)), x]) :=
      ⟨by show 2 ≤ sizeLine; decide, [.int (k + (i : Nat)) tk, y], .cons ⟨_, rfl⟩ (.cons ru .nil), ⟨_, hT2, rfl, _, rfl⟩⟩
    have I1 : Inv X pins σ (upd H s.heap.objs.size (.tup [.int (k + (i : Nat)), x])) { s with heap := h'', toks := tk + 1 } :=
      I.turnedNew (ch := [e, it]) (fun b ob hb q => (sb.2 b (fun z => hb (by simp [z]))).trans (hk b ob (fun z => hb (by simp [z])) (fun z => hb (by simp [z])) q)) hf (Nat.le_refl _) new
    refine ⟨.ref s.heap.objs.size, _, I1, rfl, ⟨_, x, rfl, I.hok.fresh (Nat.le_refl _), rfl, fun ys hy => by rw [I.list_inj hy hq]; exact hx⟩, ⟨⟨y, ?_⟩, hit'.1.at fun o q => (sb.2 it (Ne.symm hne)).trans q, hne⟩, fun b hb => ?_⟩
    · rw [show k + ((i + 1 : Nat) : Int) = k + (i : Nat) + 1 by omega]
      exact he'
    · have hb' : b < s.heap.objs.size := by
        rcases (show b = e ∨ b = it by simpa using hb) with z | z <;> subst z
        · exact hel
        · exact hil
      rw [upd_ne (Nat.ne_of_lt hb')]
      exact (hf b hb).1
  done := by
    intro X hP hw hK hc i pins s σ H E I hf st hg
    subst hP hw hK
    obtain ⟨⟨old, he⟩, hit, hne⟩ := st
    obtain ⟨xs, hq, hx⟩ := hg
    obtain ⟨its, rv, p, hz⟩ := I.list hq
    obtain ⟨f0, f1, f2, f3, f4, f5⟩ := hf it (by simp)
    have hl := rv.length
    obtain ⟨oi, hoi, hci, hdi⟩ := id hit
    obtain ⟨ol, hol, hcl, _⟩ := id p.isList
    have hai : a ≠ it := cls_ne hol hoi (by rw [hcl, hci]; intro z; exact absurd (Value.type.inj z) (by decide))
    have hi : i = its.toArray.size := by simp; omega
    subst hi
    exact wpAny_pyNext_enum_endD (Draws.list (show X.A.in1.handled = none from I.ok.hd hc) it a hai its.toArray) he ⟨hit, p.isList⟩ fun h' eb => ⟨rfl, I.turned (t' := s.toks) (fun b o hb q => eb b o hb q) f0 f1 f3 f4 f5⟩
  self := fun A i s Q E st h => by
    obtain ⟨⟨_, he⟩, _⟩ := st
    exact wpAny_pyIter_enum he h
def iEnumS (K : PySem.W.Frag) (k : Int) (ta : TA) : TI := fun σ H R => ta σ H fun vs H1 => ∃ a xs, vs = [.ref a] ∧ SqL K H1 a xs ∧ R (IteS K k a) H1
theorem callWith_typeK {M : Model} {A : Around} {E : Value → Shared → Prop} {s : Shared} {env : Env} {pos : Pos} {T : String} {e : Expr} {kws : List Keyword} {Q : Value → Shared → Prop}
    (h : wpAny M A (spliced (backTo pos (starEach [e] env))) (fun vs s1 => wpAny M A (evalAll ((backToKw pos (keywordEach kws env)).map (·.2)))
      (fun kvs s2 => wpAny M A (call (.type T) vs (((backToKw pos (keywordEach kws env)).filterMap (·.1)).zip kvs)) Q E s2) E s1) E s)
    {x : Sem Value} (he : backTo pos (starEach [e] env) = [(false, x)])
    (hall : (backToKw pos (keywordEach kws env)).all (·.1.isSome) = true) (hkw : (backToKw pos (keywordEach kws env)).any (·.1.isNone) = false) :
    wpAny M A (callWith pos (.type T) [] (backTo pos (starEach [e] env)) (backToKw pos (keywordEach kws env))) Q E s := by
  have hpl : (backTo pos (starEach [e] env)).any (·.1) = false := by rw [he]; rfl
  have h2 : wpAny M A (evalArgs (.type T) true (backTo pos (starEach [e] env)) (backToKw pos (keywordEach kws env))) (fun a s1 => wpAny M A (call (.type T) ([] ++ a.pos) a.kw) Q E s1) E s := by
    rw [he] at h ⊢
    unfold evalArgs
    refine wpAny_bind (wpAny_mono h (fun vs s' h' => wpAny_holding ?_) fun _ _ x => x)
    rw [if_pos hall]
    refine wpAny_bind (wpAny_mono h' (fun kvs s2 h2 => ?_) fun _ _ x => x)
    exact wpAny_bind (wpAny_pure (wpAny_pure h2))
  unfold callWith
  refine wpAny_bind (wpAny_holding (wpAny_mono h2 (fun a s1 h1 => wpAny_bind (wpAny_standAt ?_)) fun _ _ x => x))
  simp only [hpl, hkw, Bool.or_false]
  exact wpAny_bind (wpAny_pure (wpAny_bind (wpAny_mono h1 (fun r s2 hr => wpAny_bind (wpAny_holding (wpAny_point (wpAny_pure hr)))) fun _ _ x => x)))
theorem pi_enumS {X : Cx} {e : Expr} {ta : TA} {p pos tpos cp kp : Pos} {elts : List Expr} {kk j : Nat} {k : Int} (hk0 : -(2 ^ 63) ≤ k) (hk1 : k < 2 ^ 63) (hg : Gl X "enumerate") (hm : X.mg "enumerate" = none) (ha : PA X [e] ta) (hs : starEach [e] X.env = [(false, eval e X.env)] := by rfl) :
    PI X (.Tuple elts kk tpos) (.Call (.Name "enumerate" p) [e] [⟨some "start", .Constant (.int k) j cp, kp⟩] pos) (iEnumS X.K k ta) := by
  refine ⟨fun pins s σ H R I h => ?_⟩
  refine wpAny_Call_Name_kw (ld_blt I hg hm boot_enumerate ?_)
  refine callWith_typeK (thn (ha.run pos pins s σ H _ I h) fun us s1 ⟨vs, H1, I1, r1, q1⟩ => thn ((pk_cons (nm := some "start") (kpos := kp) (pe_int (X := X) (i := k) (j := j) (pos := cp)) pk_nil).run pos pins s1 σ H1 (fun zs H2 => zs = [.int k] ∧ H2 = H1) I1 ⟨rfl, rfl⟩) fun ws s2 ⟨zs, H2, I2, r2, q2⟩ => ?_) (by rw [hs]; rfl) rfl rfl
  obtain ⟨rfl, rfl⟩ := q2
  obtain ⟨a, xs, ex, hq, q⟩ := q1
  subst ex
  cases r1 with
  | cons r rr =>
    cases rr
    cases r
    cases r2 with
    | cons r3 rr3 =>
      cases rr3
      obtain ⟨tk, rfl⟩ := r3
      obtain ⟨its, rv, p', hz⟩ := I2.list hq
      show wpAny _ _ (call (.type "enumerate") [.ref a] [(Str.ofString "start", .int k tk)]) _ _ _
      refine enum_begins_start (begins_list a its.toArray) p'.isList hk0 hk1 fun h' he hit hsz hk => wpAny_pyIter_enum he ?_
      have I3 : Inv X pins σ H2 { s2 with heap := h' } := I2.kept (t' := s2.toks) hk
      refine ⟨s2.heap.objs.size + 1, [s2.heap.objs.size + 1, s2.heap.objs.size], _, _, H2, rfl, I3, turn_enumS k a (s2.heap.objs.size + 1) s2.heap.objs.size, ⟨⟨.none, by rw [show k + ((0 : Nat) : Int) = k by omega]; exact he⟩, ⟨_, hit, rfl, rfl⟩, Nat.succ_ne_self _⟩, fun b hb => ?_, q⟩
      have hle : s2.heap.objs.size ≤ b := by
        rcases (show b = s2.heap.objs.size + 1 ∨ b = s2.heap.objs.size by simpa using hb) with z | z <;> subst z
        · exact Nat.le_add_right _ _
        · exact Nat.le_refl _
      exact I2.fpOk hle (I2.hok.fresh hle)
section
variable {K : PySem.W.Frag} {σ : L2.St} {H H' : Hp} {ta : TA} {D : Ends} {te tb td ty tv : TE} {tu tw tz : TS} {g : TG}
/-- for over enumerate(a list, start=k), behind it a word B -/
theorem q_forES {a : Addr} {xs : List V} {k : Int} (h : EvA ta σ H [.ref a]) (hx : SqL K H a xs) (Pv : Nat → L2.St → Hp → Prop) (B : L2.St → Hp → Prop) (h0 : ∀ H1, Ex H H1 → Pv 0 σ H1) (hl : ∀ i σ' H', Pv i σ' H' → SqL K H' a xs)
    (hs : ∀ (i : Nat) (x : V) (T : Addr) σ' H', xs[i]? = some x → Pv i σ' H' → H' T = none → g (.ref T) σ' (upd H' T (.tup [.int (k + (i : Nat)), x])) fun σ2 H2 => tu { D with nx := Pv (i + 1), ct := Pv (i + 1), bk := B } σ2 H2)
    (hd : ∀ σ' H', Pv xs.length σ' H' → B σ' H') (hb : ∀ σ' H', B σ' H' → tz D σ' H') : tCut (tFor (iEnumS K k ta) g tu) tz D σ H :=
  ⟨B, h H (Ex.refl H) _ fun H1 e1 => ⟨a, xs, rfl, ex_l e1 hx, fun i m σ' H' => m = xs.length - i ∧ i ≤ xs.length ∧ Pv i σ' H', ⟨xs.length, rfl, Nat.zero_le _, h0 H1 e1⟩, by
    rintro i m σ' H' ⟨rfl, hi, p⟩
    have qx := hl i σ' H' p
    by_cases hlt : i < xs.length
    · refine .inr ⟨⟨xs, _, qx, List.getElem?_eq_getElem hlt⟩, Pv (i + 1), fun σ2 H2 p' => ⟨xs.length - (i + 1), by omega, rfl, hlt, p'⟩, ?_⟩
      rintro v H2 ⟨T, x, rfl, hT, rfl, f1⟩
      exact hs i x T σ' H' (f1 xs qx) p hT
    · have : i = xs.length := by omega
      subst this
      exact .inl ⟨⟨xs, qx, rfl⟩, hd σ' H' p⟩⟩, hb⟩
/-- .. in a comprehension that makes tuples of ints -/
theorem etl_enumS {a : Addr} {xs : List V} {n m : Nat} {vs : List Nat} {rs : List (List Int)} {k : Int} (h : EvA ta σ H [.ref a]) (hx : SqL K H a xs) (hl : rs.length = xs.length) (hz : rs.length ≤ 50000)
    (hw : ∀ x y, wipe (((wipe σ vs).set n (some x)).set m (some y)) vs = wipe σ vs)
    (he : ∀ (i : Nat) (x : V) (r : List Int) H1, Ex H H1 → xs[i]? = some x → rs[i]? = some r → EvTu K te (((wipe σ vs).set n (some (.int (k + (i : Nat))))).set m (some x)) H1 r) :
    EvTL K (tLc (iEnumS K k ta) (gTup K 2 (gCons (gName n) (gCons (gName m) gNil))) tYes te vs) σ H rs := fun H0 e Q q => h H0 e _ fun H1 e1 =>
  ⟨a, xs, rfl, ex_l (e.trans e1) hx, fun Dl hD =>
    ⟨fun i j Hi => j = xs.length - i ∧ i ≤ xs.length ∧ Tw K H1 rs Dl i Hi, ⟨xs.length, rfl, Nat.zero_le _, hD, Ex.new hD, [], upd_same, trivial⟩, by
      rintro i j Hi ⟨rfl, hi, p⟩
      have qx := ex_l ((e.trans e1).trans p.2.1) hx
      by_cases hlt : i < xs.length
      · refine .inr ⟨⟨xs, _, qx, List.getElem?_eq_getElem hlt⟩, Tw K H1 rs Dl (i + 1), fun H' p' => ⟨xs.length - (i + 1), by omega, rfl, hlt, p'⟩, fun u Hu yy => ?_⟩
        obtain ⟨T, x', rfl, hT, rfl, f1⟩ := yy
        have gx := f1 xs qx
        obtain ⟨pn, pe, acc, hacc, hat⟩ := p
        have hTD : T ≠ Dl := fun z => by
          rw [z, hacc] at hT
          cases hT
        have p2 : Tw K H1 rs Dl i (upd Hi T (.tup [.int (k + (i : Nat)), x'])) := ⟨pn, pe.trans (Ex.new hT), acc, by rw [upd_ne hTD.symm]; exact hacc, hat.ex (Ex.new hT)⟩
        have hr : rs[i]? = some (rs[i]'(by omega)) := List.getElem?_eq_getElem (by omega)
        exact ⟨T, [.int (k + (i : Nat)), x'], rfl, st_of upd_same, rfl, .int (k + (i : Nat)), [x'], rfl, x', [], rfl, rfl, hw _ _, tw_turn p2 hr hz (he i x' _ H1 (e.trans e1) gx hr)⟩
      · have ei : i = xs.length := by omega
        subst ei
        obtain ⟨pn, pe, acc, hacc, hat⟩ := p
        rw [← hl, List.take_length] at hat
        exact .inl ⟨⟨xs, qx, rfl⟩, q Dl acc Hi (fresh_back e1 pn) (e1.trans pe) hacc hat⟩⟩⟩
end

/-! ### sorted of tuples of ints -/
def leL (a b : List Int) : Bool := decide (a ≤ b)
def sortL (rs : List (List Int)) : List (List Int) := rs.mergeSort leL
theorem sortL_perm (rs : List (List Int)) : (sortL rs).Perm rs := List.mergeSort_perm rs leL
theorem sortL_srt (rs : List (List Int)) : (sortL rs).Pairwise fun a b => leL a b = true :=
  List.pairwise_mergeSort (le := leL) (fun a b c h1 h2 => decide_eq_true (List.le_trans (of_decide_eq_true h1) (of_decide_eq_true h2))) (fun a b => by
    rcases List.le_total a b with h | h
    · rw [show leL a b = true from decide_eq_true h]; rfl
    · rw [show leL b a = true from decide_eq_true h, Bool.or_true]) rs
theorem leL_anti {a b : List Int} (h1 : leL a b = true) (h2 : leL b a = true) : a = b := List.le_antisymm (of_decide_eq_true h1) (of_decide_eq_true h2)
theorem sortL_one {ss rs : List (List Int)} (h1 : ss.Pairwise fun a b => leL a b = true) (h2 : ss.Perm rs) : ss = sortL rs :=
  List.Perm.eq_of_pairwise (fun _ _ _ _ => leL_anti) h1 (sortL_srt rs) (h2.trans (sortL_perm rs).symm)
theorem sortL_iff {rs ss : List (List Int)} : sortL rs = sortL ss ↔ rs.Perm ss :=
  ⟨fun h => (sortL_perm rs).symm.trans (h ▸ sortL_perm ss), fun h => sortL_one (sortL_srt rs) ((sortL_perm rs).trans h)⟩
theorem not_ltL {a b : List Int} : decide (b < a) = false ↔ leL a b = true := by
  rw [decide_eq_false_iff_not, leL, decide_eq_true_iff]
  exact List.not_lt
theorem swo_L (k : Value → List Int) : SrtO.Swo fun v u => decide (k v < k u) :=
  ⟨fun x y h => decide_eq_false (List.lt_asymm (of_decide_eq_true h)), fun x y z h1 h2 => not_ltL.mpr (decide_eq_true (List.le_trans (of_decide_eq_true (not_ltL.mp h1)) (of_decide_eq_true (not_ltL.mp h2))))⟩
section
variable {prog : Program} {w : World} {A : Around} {E : Value → Shared → Prop} {s : Shared} {Q : Bool → Shared → Prop}
theorem lexL {b : Bool} {xs ys : List Value} {ns ms : List Int} (i : Nat) (hx : IntsAre xs ns) (hy : IntsAre ys ms) (hl : ns.length = ms.length) (h : Q (decide (ns < ms)) s) : PySem.W.KatLex prog w A b false Q (xs.zip ys) i s := by
  induction hx generalizing ys ms i with
  | nil =>
    cases hy with
    | nil => exact PySem.W.kat_nil h
    | cons q u hy => cases hl
  | @cons p t xs ns hx ih =>
    cases hy with
    | nil => cases hl
    | @cons q u ys ms hy =>
      refine PySem.W.kat_cons (wpAny_eqBool_int ?_)
      by_cases e : p = q
      · subst e
        rw [beq_self_eq_true]
        have d : decide (p :: ns < p :: ms) = decide (ns < ms) := decide_eq_decide.mpr (by rw [List.cons_lt_cons_iff]; exact ⟨fun z => z.elim (fun z => absurd z (Int.lt_irrefl _)) fun z => z.2, fun z => .inr ⟨rfl, z⟩⟩)
        rw [d] at h
        exact PySem.W.kat_yes (ih (i + 1) hy (Nat.succ.inj hl) h)
      · rw [show (p == q) = false from beq_eq_false_iff_ne.mpr e]
        have d : decide (p :: ns < q :: ms) = decide (p < q) := decide_eq_decide.mpr (by rw [List.cons_lt_cons_iff]; exact ⟨fun z => z.elim id fun z => absurd z.1 e, .inl⟩)
        rw [d] at h
        exact PySem.W.kat_no (TS.oneLt_ints _ h)
/-- tuples of d ints -/
def TupsD (h : Heap) (d : Nat) (vs : List Value) : Prop := ∀ v ∈ vs, ∃ ns, TS.TupInts h v ns ∧ ns.length = d
theorem firstsD {h : Heap} {d : Nat} (hd : 1 ≤ d) : ∀ {vs : List Value}, TupsD h d vs → ∃ fs, PySem.W.KatTups h vs fs ∧ fs.length = vs.length ∧ ∀ f ∈ fs, ∃ n t, f = Value.int n t
  | [], _ => ⟨[], PySem.W.KatTups.nil, rfl, fun f hf => by cases hf⟩
  | v :: vs, x => by
    obtain ⟨fs, k, hl, hi⟩ := firstsD hd (vs := vs) fun u hu => x u (List.mem_cons_of_mem _ hu)
    obtain ⟨ns, ⟨a, xs, rfl, ⟨o, ho, hc, n, hdt⟩, i⟩, hn⟩ := x v List.mem_cons_self
    cases q : xs.toList with
    | nil =>
      have l := i.length
      rw [q, List.length_nil, hn] at l
      omega
    | cons y ys =>
      have hy : ∃ m t, y = Value.int m t := i.all y (by rw [q]; exact List.mem_cons_self)
      refine ⟨y :: fs, PySem.W.KatTups.cons ho hc hdt ?_ k, by rw [List.length_cons, hl, List.length_cons], fun f hf => ?_⟩
      · rw [← Array.getElem?_toList, q]; rfl
      · rcases List.mem_cons.mp hf with rfl | hf
        · exact hy
        · exact hi f hf
theorem TupsD.keeps {h h' : Heap} {d : Nat} {vs : List Value} (x : TupsD h d vs) (k : ∀ b o, h.get? b = some o → o.cls = .type "tuple" → h'.get? b = some o) : TupsD h' d vs := fun v hv =>
  let ⟨ns, t, r⟩ := x v hv; ⟨ns, t.keeps k, r⟩
theorem tupsD_cmp {d : Nat} {vs : List Value} {k : Value → List Int} (x : TupsD s.heap d vs) (hk : ∀ v ∈ vs, TS.TupInts s.heap v (k v)) : SrtO.Cmp prog w A s (tuples' true) (fun p => p.1 ∈ vs) (SrtO.lt2 fun v u => decide (k v < k u)) := by
  intro p q hm hm'
  have l1 : (k p.1).length = d := by
    obtain ⟨ns, t, hn⟩ := x _ hm
    rw [← (hk _ hm).ints, t.ints]
    exact hn
  have l2 : (k q.1).length = d := by
    obtain ⟨ns, t, hn⟩ := x _ hm'
    rw [← (hk _ hm').ints, t.ints]
    exact hn
  show wpAny (model prog w) A (keyLt' (tuples' true) p.1 q.1) (fun r s' => s' = s ∧ r = decide (k p.1 < k q.1)) (fun _ _ => False) s
  obtain ⟨a, xs, e1, ⟨o, ho, hc, n, hdt⟩, i⟩ := hk _ hm
  obtain ⟨a', ys, e2, ⟨o', ho', hc', n', hdt'⟩, i'⟩ := hk _ hm'
  generalize k p.1 = ns at l1 i ⊢
  generalize k q.1 = ms at l2 i' ⊢
  rw [e1, e2]
  refine PySem.W.kat_lt ho hdt ho' hdt' ?_
  have sz : decide (xs.size < ys.size) = false := by
    have q1 := i.length
    have q2 := i'.length
    rw [Array.length_toList] at q1 q2
    exact decide_eq_false (by omega)
  rw [sz]
  exact lexL 0 i i' (by omega) ⟨rfl, rfl⟩
theorem tupsD_sortable {a : Addr} {d : Nat} {vs : List Value} {k : Value → List Int} (hd : 1 ≤ d) (h0 : 0 < vs.length) (x : TupsD s.heap d vs) (hk : ∀ v ∈ vs, TS.TupInts s.heap v (k v)) (ha : ∀ o, s.heap.get? a = some o → o.cls ≠ .type "tuple") : SrtO.SortableO prog w A s a vs fun v u => decide (k v < k u) := by
  intro h' keep
  have kp : ∀ b o, s.heap.get? b = some o → o.cls = .type "tuple" → h'.get? b = some o := fun b o e c => keep b o (fun z => by subst z; exact ha o e c) e
  obtain ⟨fs, h1, h2, h3⟩ := firstsD hd (x.keeps kp)
  refine ⟨tuples' true, fun Q E hq => ?_, tupsD_cmp (s := { s with heap := h' }) (x.keeps kp) fun v hv => (hk v hv).keeps kp⟩
  refine PySem.W.kat_kind (T := .type "int") h1 (by omega) (fun f hm => ?_) (by rfl) ?_
  · obtain ⟨x, t, rfl⟩ := h3 f hm
    exact PySem.W.Looks.now
  · rw [show (Value.type "int" != Value.type "tuple") = true by decide +kernel]
    exact hq
end
theorem tups_vals {X : Cx} {pins : List (Addr × Obj)} {σ : L2.St} {H : Hp} {s : Shared} (I : Inv X pins σ H s) : ∀ {xs : List V} {its : List Value} {rs : List (List Int)}, Vals xs its → TupsAt X.K H xs rs → rs = its.map (TS.intsOf s.heap) ∧ ∀ v ∈ its, ∃ a, v = Value.ref a ∧ SqT X.K H a ((TS.intsOf s.heap v).map V.int) ∧ TS.TupInts s.heap v (TS.intsOf s.heap v)
  | _, _, [], .nil, _ => ⟨rfl, fun v hv => by cases hv⟩
  | _, _, r :: rs, .cons rx rr, ⟨⟨a, hv, hs⟩, t⟩ => by
    obtain ⟨h1, h2⟩ := tups_vals I rr t
    subst hv
    cases rx
    obtain ⟨its, rv, hit, hz⟩ := I.tuple hs
    have ti : TS.TupInts s.heap (.ref a) r := ⟨a, its.toArray, rfl, hit, by simpa using rv.ints⟩
    have e := ti.ints
    refine ⟨by rw [List.map_cons, e, ← h1], fun v hv => ?_⟩
    rcases List.mem_cons.mp hv with rfl | hv
    · exact ⟨a, rfl, by rw [e]; exact hs, by rw [e]; exact ti⟩
    · exact h2 v hv
theorem tups_back {K : PySem.W.Frag} {H : Hp} {f : Value → List Int} : ∀ {out : List Value}, (∀ v ∈ out, ∃ a, v = Value.ref a ∧ SqT K H a ((f v).map V.int)) → TupsAt K H (out.map backV) (out.map f)
  | [], _ => trivial
  | v :: out, h => by
    obtain ⟨a, rfl, hs⟩ := h v List.mem_cons_self
    exact ⟨⟨a, rfl, hs⟩, tups_back fun u hu => h u (List.mem_cons_of_mem _ hu)⟩
/-- sorted(xs), xs a list of tuples of d ints, d at least 1 -/
def rSortedT (K : PySem.W.Frag) : List V → Hp → VK → Prop := fun vs H Q => ∃ (a : Addr) (xs : List V) (rs : List (List Int)) (d : Nat), vs = [V.ref a] ∧ SqL K H a xs ∧ TupsAt K H xs rs ∧ 1 ≤ d ∧ (∀ r ∈ rs, r.length = d) ∧
  ∀ ys p, H p = none → TupsAt K H ys (sortL rs) → Q (.ref p) (upd H p (.lst ys))
theorem cr_sortedT {X : Cx} : CallR X (.builtin "sorted") (rSortedT X.K) := by
  intro pins s σ H vs us Q I r h
  obtain ⟨a, xs, rs, d, rfl, hs, ht, hd, hr, q⟩ := h
  obtain ⟨its, rv, hl, hz⟩ := I.list hs
  obtain ⟨u, rfl, ru⟩ := vals1 r
  obtain rfl : u = Value.ref a := ru
  obtain ⟨e1, e2⟩ := tups_vals I rv ht
  have hD : TupsD s.heap d its := fun v hv => ⟨_, (e2 v hv).choose_spec.2.2, hr _ (by rw [e1]; exact List.mem_map_of_mem hv)⟩
  refine SrtO.sorted_ord (swo_L (TS.intsOf s.heap)) hl.isList (by rw [← rv.length]; exact hz) (fun h2 h1 b hb kk => ?_) fun out h1 h2 => ?_
  · refine tupsD_sortable (s := { s with heap := h1 }) hd (by omega) (hD.keeps fun b o e _ => (kk b o e).2) (fun v hv => (e2 v hv).choose_spec.2.2.keeps fun b o e _ => (kk b o e).2) fun o e => ?_
    have e' : some o = some (seqObj "list" its.toArray 0) := e.symm.trans hb
    cases e'
    intro c
    exact absurd (Value.type.inj c) (by decide)
  · have h3 : ∀ v ∈ out, ∃ a, v = Value.ref a ∧ SqT X.K H a ((TS.intsOf s.heap v).map V.int) := fun v hv => let ⟨a, h1, h2, _⟩ := e2 v (h2.perm.mem_iff.mp hv); ⟨a, h1, h2⟩
    obtain ⟨n, hn⟩ := sortedAll_at s.heap its out.toArray
    have hso : out.map (TS.intsOf s.heap) = sortL rs := by
      refine sortL_one ?_ ?_
      · exact List.pairwise_map.mpr (h1.imp fun {x y} h => not_ltL.mp h)
      · rw [e1]
        exact h2.perm.map _
    refine ⟨.ref _, upd H (s.heap.objs.size + 1) (.lst (out.map backV)), I.laid (t' := s.toks) (fun _ _ => sortedAll_old) (Nat.le_succ _) ⟨?_, out, n, vals_back (fun v hv => let ⟨a, h, _⟩ := h3 v hv; ⟨a, h⟩), hn⟩, rfl, q _ _ (I.hok.fresh (Nat.le_succ _)) ?_⟩
    · rw [List.length_map, h2.len, ← rv.length]
      exact hz
    · rw [← hso]
      exact tups_back h3
theorem etl_sorted {K : PySem.W.Frag} {te : TE} {σ : L2.St} {H : Hp} {rs : List (List Int)} {d : Nat} (h : EvTL K te σ H rs) (hd : 1 ≤ d) (hr : ∀ r ∈ rs, r.length = d) : EvTL K (tCB (rSortedT K) (tCons te tNil)) σ H (sortL rs) := fun H1 e Q q =>
  h H1 e _ fun p vs H2 n e2 hp ht => ⟨p, vs, rs, d, rfl, sq_of hp, ht, hd, hr, fun ys p2 np2 ht2 => q p2 ys _ (fresh_back e2 np2) (e2.trans (Ex.new np2)) upd_same (ht2.ex (Ex.new np2))⟩
theorem sortedQ (K : PySem.W.Frag) {X : Cx} (hK : X.K = K := by rfl) : CallR X (.builtin "sorted") (rSortedT K) := by
  subst hK
  exact cr_sortedT

section
variable {P : Program} {w : World} {K : PySem.W.Frag} {mg : Str → Option Value} {base : Heap}
/-- what is left, what is found -/
def leftR (rs : List Row) : List (List Int) := rs.mapIdx fun i r => [r.1, r.2.2.2, 1 + (i : Int)]
def left0 (m : Nat) : List (List Int) := (List.range m).map fun (p : Nat) => [(p : Int), 0, 0]
def leftL (rs : List Row) (m : Nat) : List (List Int) := left0 m ++ leftR rs
def foundR (rs : List Row) : List (List Int) := rs.map fun r => [r.1, r.2.1, r.2.2.1]
def foundL (rs : List Row) (sw : List Swp) : List (List Int) := foundR rs ++ sw.map swpL
theorem leftR_get {rs : List Row} {i : Nat} (h : i < rs.length) : (leftR rs)[i]? = some [rs[i].1, rs[i].2.2.2, 1 + (i : Int)] := by
  rw [leftR, List.getElem?_mapIdx, List.getElem?_eq_getElem h]
  rfl
def spLT (K : PySem.W.Frag) : Sp := fun vs H Q _ => ∃ (a : Addr) (ys : List V) (rs : List Row) (m : Nat), vs = [.int (m : Int), .ref a] ∧ SqL K H a ys ∧ TupsAt K H ys (rs.map rowL) ∧ rs.length ≤ 1000 ∧ m ≤ 1000 ∧
  ∀ p vs' H2, H p = none → Ex H H2 → H2 p = some (.lst vs') → TupsAt K H2 vs' (leftL rs m) → Q (.ref p) H2
def spFT (K : PySem.W.Frag) : Sp := fun vs H Q _ => ∃ (a b : Addr) (ys zs : List V) (rs : List Row) (sw : List Swp), vs = [.ref a, .ref b] ∧ SqL K H a ys ∧ TupsAt K H ys (rs.map rowL) ∧ SqL K H b zs ∧ TupsAt K H zs (sw.map swpL) ∧ rs.length ≤ 1000 ∧ sw.length ≤ 1000 ∧
  ∀ p vs' H2, H p = none → Ex H H2 → H2 p = some (.lst vs') → TupsAt K H2 vs' (foundL rs sw) → Q (.ref p) H2
theorem etl_cat1 {ta tb : TE} {σ : L2.St} {H : Hp} {a : Addr} {ys : List V} {r1 r2 : List (List Int)} (ha : Ev ta σ H (.ref a)) (h1 : H a = some (.lst ys)) (ht : TupsAt K H ys r1) (hl : r1.length + r2.length ≤ 100000) (hb : EvTL K tb σ H r2) : EvTL K (tOp rCat ta tb) σ H (r1 ++ r2) := fun H1 e Q q =>
  ha H1 e _ fun H2 e2 => hb H2 (e.trans e2) _ fun p ws H3 n3 e3 h3 t3 => ⟨a, p, ys, ws, rfl, rfl, ((e.trans e2).trans e3) _ _ h1, h3, sz_of (by rw [ht.len, t3.len]; exact hl), fun d hd => q d (ys ++ ws) _ (fresh_back (e2.trans e3) hd) ((e2.trans e3).trans (Ex.new hd)) upd_same (((ht.ex ((e.trans e2).trans e3)).app t3).ex (Ex.new hd))⟩
theorem etl_cat2 {ta tb : TE} {σ : L2.St} {H : Hp} {r1 r2 : List (List Int)} (ha : EvTL K ta σ H r1) (hb : EvTL K tb σ H r2) (hl : r1.length + r2.length ≤ 100000) : EvTL K (tOp rCat ta tb) σ H (r1 ++ r2) := fun H1 e Q q =>
  ha H1 e _ fun p ws H2 n2 e2 h2 t2 => hb H2 (e.trans e2) _ fun b zs H3 n3 e3 h3 t3 => ⟨p, b, ws, zs, rfl, rfl, e3 _ _ h2, h3, sz_of (by rw [t3.len, t2.len]; exact hl), fun d hd => q d (ws ++ zs) _ (fresh_back (e2.trans e3) hd) ((e2.trans e3).trans (Ex.new hd)) upd_same (((t2.ex e3).app t3).ex (Ex.new hd))⟩
theorem left0_get {m i : Nat} {r : List Int} (hi : i < m) (hr : (left0 m)[i]? = some r) : r = [(i : Int), 0, 0] := by
  rw [left0, List.getElem?_map, List.getElem?_range hi] at hr
  exact (Option.some.inj hr).symm
theorem foundR_get {rs : List Row} {i : Nat} {r : List Int} (hi : i < rs.length) (hr : (foundR rs)[i]? = some r) : r = [rs[i].1, rs[i].2.1, rs[i].2.2.1] := by
  rw [foundR, List.getElem?_map, List.getElem?_eq_getElem hi] at hr
  exact (Option.some.inj hr).symm
/-- [(row[0], row[1], row[2]) for row in rows] -/
theorem etl_foundR {σ : L2.St} {H : Hp} {tl : TE} {a : Addr} {ys : List V} {rs : List Row} {j : Nat} {vs : List Nat} (h : Ev tl σ H (.ref a)) (hS : SqL K H a ys) (ht : TupsAt K H ys (rs.map rowL)) (hl : rs.length ≤ 1000) (hw : ∀ x, wipe ((wipe σ vs).set j (some x)) vs = wipe σ vs) (hj : ∀ x : V, ((wipe σ vs).set j (some x))[j]? = some (some x)) :
    EvTL K (tLc (iList K tl) (gName j) tYes (tTup (tCons (tOp (rIxT K) (tVar j) (tC (.int 0))) (tCons (tOp (rIxT K) (tVar j) (tC (.int 1))) (tCons (tOp (rIxT K) (tVar j) (tC (.int 2))) tNil)))) vs) σ H (foundR rs) := by
  have hyl := ht.len
  rw [List.length_map] at hyl
  refine etl_list h hS (by simp [foundR, hyl]) (by simp [foundR]; omega) hw fun i x r H1 e1 hx hr => ?_
  obtain ⟨hi, t, rfl, hs⟩ := row_get2 (ht.ex e1) hx
  rw [foundR_get hi hr]
  exact etu_U (eu_tup (ea_cons (ev_op (ev_var (hj _)) ev_c (rv_ixT (v := .int rs[i].1) hs rfl)) (ea_cons (ev_op (ev_var (hj _)) ev_c (rv_ixT (v := .int rs[i].2.1) hs rfl)) (ea_cons (ev_op (ev_var (hj _)) ev_c (rv_ixT (v := .int rs[i].2.2.1) hs rfl)) ea_nil))) (by simp)) rfl
theorem etl_swp3 {σ : L2.St} {H : Hp} {tl : TE} {b : Addr} {zs : List V} {sw : List Swp} {j : Nat} {vs : List Nat} (h : Ev tl σ H (.ref b)) (hz : SqL K H b zs) (ht : TupsAt K H zs (sw.map swpL)) (hl : sw.length ≤ 1000) (hw : ∀ x, wipe ((wipe σ vs).set j (some x)) vs = wipe σ vs) (hj : ∀ x : V, ((wipe σ vs).set j (some x))[j]? = some (some x)) :
    EvTL K (tLc (iList K tl) (gName j) tYes (tTup (tCons (tOp (rIxT K) (tVar j) (tC (.int 0))) (tCons (tOp (rIxT K) (tVar j) (tC (.int 1))) (tCons (tOp (rIxT K) (tVar j) (tC (.int 2))) tNil)))) vs) σ H (sw.map swpL) := by
  have hzl := ht.len
  rw [List.length_map] at hzl
  refine etl_list h hz (by simp [hzl]) (by simp; omega) hw fun i x r H1 e1 hx hr => ?_
  obtain ⟨hi, t, rfl, hs⟩ := swp_get (ht.ex e1) hx
  rw [List.getElem?_map, List.getElem?_eq_getElem hi] at hr
  obtain rfl := Option.some.inj hr
  exact etu_U (eu_tup (ea_cons (ev_op (ev_var (hj _)) ev_c (rv_ixT (v := .int sw[i].1) hs rfl)) (ea_cons (ev_op (ev_var (hj _)) ev_c (rv_ixT (v := .int sw[i].2.1) hs rfl)) (ea_cons (ev_op (ev_var (hj _)) ev_c (rv_ixT (v := .int sw[i].2.2) hs rfl)) ea_nil))) (by simp)) rfl
theorem sc_left_tuples : FnScope ["places", "rows", "first", "place", "time", "row"] ["places", "rows"] (defScope s_left_tuples) := ⟨rfl, rfl, rfl, by decide +kernel, rfl, by decide +kernel, by decide +kernel⟩
theorem fn_left_tuples (T : TX K mg) : ∃ fd, FunD K "left_tuples" "left_tuples" (defArgs s_left_tuples) (defBody s_left_tuples) (defScope s_left_tuples) [] [] (He.ga K "left_tuples") fd ∧ FnOk P w K mg base CX0 (1) (He.ga K "left_tuples") fd ["places", "rows"] (spLT K) := by
  obtain ⟨fd, F⟩ := fd_left_tuples T
  refine ⟨fd, F, My.FunD.ok0 F sc_left_tuples (fun vs H Q E h => ?_) (fun cdv A outer s0 H vs Q E hr h => ?_)⟩
  · obtain ⟨a, ys, rs, m, rfl, hS, ht, hl, hm, hQ⟩ := h
    rfl
  obtain ⟨a, ys, rs, m, rfl, hS, ht, hl, hm, hQ⟩ := h
  have hu := hu_of hr
  refine ⟨_, (pss_cons (ps_setLc (i := 2) (own := [("place", 3)]) rfl sc_left_tuples.nd rfl rfl (sw_true rfl rfl rfl (by decide +kernel)) (pi_range1 rfl (fr_range T) (pa_cons (pv 0) pa_nil)) (blkOk_by (own := [("place", 3)]) (N := ["places", "rows", "first", "place", "time", "row"]) (sc := defScope s_left_tuples) (by decide +kernel)) (fun _ _ _ _ _ => (pg_name (i := 3) sc_left_tuples.nd rfl (Or.inl rfl))) (fun _ _ _ _ _ => pts_nil) (fun _ _ _ _ _ => (pe_tup (pa_cons (pv 3) (pa_cons pe_int (pa_cons pe_int pa_nil))))))
      (pss_one (ps_ret (pe_op op_cat (pv 2) (pe_lc (own := [("time", 4), ("row", 5)]) rfl sc_left_tuples.nd (pi_enumS (by decide) (by decide) (by rfl) (fr_enumerate T) (pa_cons (pv 1) pa_nil)) (blkOk_by (own := [("time", 4), ("row", 5)]) (N := ["places", "rows", "first", "place", "time", "row"]) (sc := defScope s_left_tuples) (by decide +kernel)) (fun _ _ _ _ _ => (pg_tupK (n := 2) K rfl (pgs_cons (pg_name (i := 4) sc_left_tuples.nd rfl (Or.inl rfl)) (pgs_cons (pg_name (i := 5) sc_left_tuples.nd rfl (Or.inl rfl)) pgs_nil)))) (fun _ _ _ _ _ => pts_nil) (fun _ _ _ _ _ => (pe_tup (pa_cons (pe_ix (ixT K) (pv 5) pe_int (fun _ _ => rfl)) (pa_cons (pe_ix (ixT K) (pv 5) pe_int (fun _ _ => rfl)) (pa_cons (pv 4) pa_nil)))))))))), ?_⟩
  have hyl := ht.len
  rw [List.length_map] at hyl
  refine q_asgTL (K := K) (rs := left0 m) (etl_rng (n := (m : Int)) (ea_cons (ev_var rfl) ea_nil) (by omega) (by simp [left0]) (fun _ => rfl) fun i r H1 e1 hi hr => ?_) fun d vs H1 nd e1 hd hdt => ?_
  · rw [left0_get (by omega) hr]
    exact etu_U (eu_tup (ea_cons (ev_var rfl) (ea_cons ev_c (ea_cons ev_c ea_nil))) (by simp)) rfl
  · exact etl_cat1 (r2 := leftR rs) (ev_var rfl) hd hdt (by simp [left0, leftR]; omega) (etl_enumS (ea_cons (ev_var rfl) ea_nil) (ex_l e1 hS) (by simp [leftR, hyl]) (by simp [leftR]; omega) (fun _ _ => rfl) fun i x r H2 e2 hx hr => by
      obtain ⟨hi, t, rfl, hs⟩ := row_get2 (ht.ex (e1.trans e2)) hx
      rw [leftR_get hi] at hr
      obtain rfl := Option.some.inj hr
      exact etu_U (eu_tup (ea_cons (ev_op (ev_var rfl) ev_c (rv_ixT (v := .int rs[i].1) hs rfl)) (ea_cons (ev_op (ev_var rfl) ev_c (rv_ixT (v := .int rs[i].2.2.2) hs rfl)) (ea_cons (ev_var rfl) ea_nil))) (by simp)) rfl) H1 (Ex.refl H1) _ fun p ws H2 n2 e2 h2 t2 => hQ p ws H2 (fresh_back e1 n2) (e1.trans e2) h2 t2
theorem ok_left_tuples (T : TX K mg) : DefOk P w K mg base (1) "left_tuples" ["places", "rows"] [] (spLT K) := by
  obtain ⟨fd, F, h⟩ := fn_left_tuples (P := P) (w := w) (base := base) T
  exact DefOk.of F (gl_left_tuples T) (F.bindsN fun _ _ _ _ _ _ us hl => match us, hl with | [_, _], _ => rfl) h
theorem sc_found_tuples : FnScope ["rows", "sweep", "row", "told"] ["rows", "sweep"] (defScope s_found_tuples) := ⟨rfl, rfl, rfl, by decide +kernel, rfl, by decide +kernel, by decide +kernel⟩
theorem fn_found_tuples (T : TX K mg) : ∃ fd, FunD K "found_tuples" "found_tuples" (defArgs s_found_tuples) (defBody s_found_tuples) (defScope s_found_tuples) [] [] (He.ga K "found_tuples") fd ∧ FnOk P w K mg base CX0 (1) (He.ga K "found_tuples") fd ["rows", "sweep"] (spFT K) := by
  obtain ⟨fd, F⟩ := fd_found_tuples T
  refine ⟨fd, F, My.FunD.ok0 F sc_found_tuples (fun vs H Q E h => ?_) (fun cdv A outer s0 H vs Q E hr h => ?_)⟩
  · obtain ⟨a, b, ys, zs, rs, sw, rfl, hS, ht, hS2, ht2, hl, hm, hQ⟩ := h
    rfl
  obtain ⟨a, b, ys, zs, rs, sw, rfl, hS, ht, hS2, ht2, hl, hm, hQ⟩ := h
  have hu := hu_of hr
  refine ⟨_, (pss_one (ps_ret (pe_op op_cat (pe_lc (own := [("row", 2)]) rfl sc_found_tuples.nd (pi_list (pv 0)) (blkOk_by (own := [("row", 2)]) (N := ["rows", "sweep", "row", "told"]) (sc := defScope s_found_tuples) (by decide +kernel)) (fun _ _ _ _ _ => (pg_name (i := 2) sc_found_tuples.nd rfl (Or.inl rfl))) (fun _ _ _ _ _ => pts_nil) (fun _ _ _ _ _ => (pe_tup (pa_cons (pe_ix (ixT K) (pv 2) pe_int (fun _ _ => rfl)) (pa_cons (pe_ix (ixT K) (pv 2) pe_int (fun _ _ => rfl)) (pa_cons (pe_ix (ixT K) (pv 2) pe_int (fun _ _ => rfl)) pa_nil)))))) (pe_lc (own := [("told", 3)]) rfl sc_found_tuples.nd (pi_list (pv 1)) (blkOk_by (own := [("told", 3)]) (N := ["rows", "sweep", "row", "told"]) (sc := defScope s_found_tuples) (by decide +kernel)) (fun _ _ _ _ _ => (pg_name (i := 3) sc_found_tuples.nd rfl (Or.inl rfl))) (fun _ _ _ _ _ => pts_nil) (fun _ _ _ _ _ => (pe_tup (pa_cons (pe_ix (ixT K) (pv 3) pe_int (fun _ _ => rfl)) (pa_cons (pe_ix (ixT K) (pv 3) pe_int (fun _ _ => rfl)) (pa_cons (pe_ix (ixT K) (pv 3) pe_int (fun _ _ => rfl)) pa_nil))))))))), ?_⟩
  exact etl_cat2 (etl_foundR (ev_var rfl) hS ht hl (fun _ => rfl) (fun _ => rfl)) (etl_swp3 (ev_var rfl) hS2 ht2 hm (fun _ => rfl) (fun _ => rfl)) (by simp [foundR]; omega) H (Ex.refl H) _ fun p ws H2 n2 e2 h2 t2 => hQ p ws H2 n2 e2 h2 t2
theorem ok_found_tuples (T : TX K mg) : DefOk P w K mg base (1) "found_tuples" ["rows", "sweep"] [] (spFT K) := by
  obtain ⟨fd, F, h⟩ := fn_found_tuples (P := P) (w := w) (base := base) T
  exact DefOk.of F (gl_found_tuples T) (F.bindsN fun _ _ _ _ _ _ us hl => match us, hl with | [_, _], _ => rfl) h
end

section
variable {P : Program} {w : World} {K : PySem.W.Frag} {mg : Str → Option Value} {base : Heap}
theorem ints_eqv : ∀ a b : List Int, PyData.eqvAll (a.map PyData.int) (b.map PyData.int) = decide (a = b)
  | [], [] => by simp [PyData.eqvAll]
  | [], _ :: _ => by simp [PyData.eqvAll]
  | _ :: _, [] => by simp [PyData.eqvAll]
  | x :: a, y :: b => by
    rw [List.map_cons, List.map_cons, PyData.eqvAll, ints_eqv a b, Bool.eq_iff_iff]
    simp [PyData.eqv]
theorem tups_eqv : ∀ ps qs : List (List Int), PyData.eqv (.list (ps.map tupD)) (.list (qs.map tupD)) = decide (ps = qs)
  | [], [] => by simp [PyData.eqv, PyData.eqvAll]
  | [], q :: qs => by simp [PyData.eqv, PyData.eqvAll]
  | p :: ps, [] => by simp [PyData.eqv, PyData.eqvAll]
  | p :: ps, q :: qs => by
    have h1 : PyData.eqv (tupD p) (tupD q) = decide (p = q) := by rw [tupD, tupD, PyData.eqv, ints_eqv]
    have h2 := tups_eqv ps qs
    rw [PyData.eqv] at h2 ⊢
    rw [List.map_cons, List.map_cons, PyData.eqvAll, h1, h2, Bool.eq_iff_iff]
    simp
theorem ints_lay : ∀ p : List Int, PyData.canLayAll0 (p.map PyData.int) = true ∧ PyData.depthAll (p.map PyData.int) = 0
  | [] => by simp [PyData.canLayAll0, PyData.depthAll]
  | x :: p => by
    obtain ⟨h1, h2⟩ := ints_lay p
    rw [List.map_cons, PyData.canLayAll0, PyData.depthAll, h1, h2]
    simp [PyData.canLay0, PyData.depth]
theorem tups_lay : ∀ ps : List (List Int), PyData.canLayAll0 (ps.map tupD) = true ∧ PyData.depthAll (ps.map tupD) ≤ 1
  | [] => by simp [PyData.canLayAll0, PyData.depthAll]
  | p :: ps => by
    obtain ⟨h1, h2⟩ := tups_lay ps
    obtain ⟨g1, g2⟩ := ints_lay p
    rw [List.map_cons, PyData.canLayAll0, PyData.depthAll, h1]
    have : (tupD p).depth = 1 := by rw [tupD, PyData.depth, g2]
    rw [this]
    refine ⟨by rw [tupD, PyData.canLay0, g1]; rfl, ?_⟩
    omega
theorem tups_sh (ps : List (List Int)) : SeqAt.shaped (.list (ps.map tupD)) = true := by
  obtain ⟨h1, h2⟩ := tups_lay ps
  unfold SeqAt.shaped
  rw [PyData.canLay0, PyData.depth, h1, Bool.true_and, decide_eq_true_iff]
  omega
def lateAt (rs : List Row) (i : Nat) : Bool := match rs[i]? with
  | some r => decide (1 + (i : Int) ≤ r.2.2.1)
  | none => false
theorem lateAt_get {rs : List Row} {i : Nat} (h : i < rs.length) : lateAt rs i = decide (1 + (i : Int) ≤ rs[i].2.2.1) := by
  rw [lateAt, List.getElem?_eq_getElem h]
def onTime (rs : List Row) : Bool := (List.range rs.length).all fun i => !lateAt rs i
theorem onTime_iff {rs : List Row} : onTime rs = true ↔ ∀ i < rs.length, lateAt rs i = false := by
  simp [onTime]
/-- the bags agree -/
def bagsOf (rs : List Row) (sw : List Swp) (m : Nat) : Bool := onTime rs && decide (sortL (leftL rs m) = sortL (foundL rs sw))
theorem left_three {rs : List Row} {m : Nat} : ∀ r ∈ leftL rs m, r.length = 3 := fun r hr => by
  rcases List.mem_append.mp hr with h | h
  · obtain ⟨p, _, rfl⟩ := List.mem_map.mp h
    rfl
  · obtain ⟨i, hi, rfl⟩ := List.mem_mapIdx.mp h
    rfl
theorem found_three {rs : List Row} {sw : List Swp} : ∀ r ∈ foundL rs sw, r.length = 3 := fun r hr => by
  rcases List.mem_append.mp hr with h | h
  · obtain ⟨p, _, rfl⟩ := List.mem_map.mp h
    rfl
  · obtain ⟨p, _, rfl⟩ := List.mem_map.mp h
    rfl
def spBags (K : PySem.W.Frag) : Sp := fun vs H Q _ => ∃ (a b : Addr) (rs : List Row) (sw : List Swp) (m : Nat), vs = [.int (m : Int), .ref a, .ref b] ∧ World3 K H a b rs sw m ∧ RetV (.bl (bagsOf rs sw m)) H Q
theorem etl_left {σ : L2.St} {H : Hp} {ta tb : TE} {a : Addr} {ys : List V} {rs : List Row} {m : Nat} {E : XK} (h1 : Ev ta σ H (.int (m : Int))) (h2 : Ev tb σ H (.ref a)) (hS : SqL K H a ys) (ht : TupsAt K H ys (rs.map rowL)) (hl : rs.length ≤ 1000) (hm : m ≤ 1000) : EvTL K (tCall (spLT K) [] E (tCons ta (tCons tb tNil))) σ H (leftL rs m) := fun H1 e Q q =>
  h1 H1 e _ fun H2 e2 => h2 H2 (e.trans e2) _ fun H3 e3 => ⟨a, ys, rs, m, rfl, ex_l ((e.trans e2).trans e3) hS, ht.ex ((e.trans e2).trans e3), hl, hm, fun p vs' H4 n4 e4 h4 t4 => q p vs' H4 (fresh_back (e2.trans e3) n4) ((e2.trans e3).trans e4) h4 t4⟩
theorem etl_found {σ : L2.St} {H : Hp} {ta tb : TE} {a b : Addr} {ys zs : List V} {rs : List Row} {sw : List Swp} {E : XK} (h1 : Ev ta σ H (.ref a)) (h2 : Ev tb σ H (.ref b)) (hS : SqL K H a ys) (ht : TupsAt K H ys (rs.map rowL)) (hS2 : SqL K H b zs) (ht2 : TupsAt K H zs (sw.map swpL)) (hl : rs.length ≤ 1000) (hm : sw.length ≤ 1000) : EvTL K (tCall (spFT K) [] E (tCons ta (tCons tb tNil))) σ H (foundL rs sw) := fun H1 e Q q =>
  h1 H1 e _ fun H2 e2 => h2 H2 (e.trans e2) _ fun H3 e3 => ⟨a, b, ys, zs, rs, sw, rfl, ex_l ((e.trans e2).trans e3) hS, ht.ex ((e.trans e2).trans e3), ex_l ((e.trans e2).trans e3) hS2, ht2.ex ((e.trans e2).trans e3), hl, hm, fun p vs' H4 n4 e4 h4 t4 => q p vs' H4 (fresh_back (e2.trans e3) n4) ((e2.trans e3).trans e4) h4 t4⟩
theorem sc_bags_agree : FnScope ["places", "rows", "sweep", "time", "row"] ["places", "rows", "sweep"] (defScope s_bags_agree) := ⟨rfl, rfl, rfl, by decide +kernel, rfl, by decide +kernel, by decide +kernel⟩
theorem fn_bags_agree (T : TX K mg) : ∃ fd, FunD K "bags_agree" "bags_agree" (defArgs s_bags_agree) (defBody s_bags_agree) (defScope s_bags_agree) [] [] (He.ga K "bags_agree") fd ∧ FnOk P w K mg base CX0 (2) (He.ga K "bags_agree") fd ["places", "rows", "sweep"] (spBags K) := by
  obtain ⟨fd, F⟩ := fd_bags_agree T
  refine ⟨fd, F, My.FunD.ok0 F sc_bags_agree (fun vs H Q E h => ?_) (fun cdv A outer s0 H vs Q E hr h => ?_)⟩
  · obtain ⟨a, b, rs, sw, m, rfl, hW, hQ⟩ := h
    rfl
  obtain ⟨a, b, rs, sw, m, rfl, hW, hQ⟩ := h
  have hu := hu_of hr
  refine ⟨_, (pss_cut (ps_for PassesOwn.never rfl (pi_enumS (by decide) (by decide) (by rfl) (fr_enumerate T) (pa_cons (pv 1) pa_nil)) (pg_tupK (n := 2) K rfl (pgs_cons (pg_name (i := 3) sc_bags_agree.nd rfl (Or.inl rfl)) (pgs_cons (pg_name (i := 4) sc_bags_agree.nd rfl (Or.inl rfl)) pgs_nil))) (pss_one (ps_if (pt_cmpR op_ge (pe_ix (ixT K) (pv 4) pe_int (fun _ _ => rfl)) (pv 3) (nomark _)) (pss_one (ps_ret pe_bl)) pss_nil)))
      (pss_one (ps_ret (pe_cmpR (eqD K hr.units) (pe_callB (sortedQ K) (by rfl) (fr_sorted T) (by decide +kernel) (pa_cons (pe_callN (ok_left_tuples (P := P) (w := w) (base := base) T) hr (pa_cons (pv 0) (pa_cons (pv 1) pa_nil))) pa_nil)) (pe_callB (sortedQ K) (by rfl) (fr_sorted T) (by decide +kernel) (pa_cons (pe_callN (ok_found_tuples (P := P) (w := w) (base := base) T) hr (pa_cons (pv 1) (pa_cons (pv 2) pa_nil))) pa_nil)) (nomark _))))), ?_⟩
  obtain ⟨ys, hy, hyt⟩ := id hW.rows
  obtain ⟨zs, hz, hzt⟩ := id hW.swps
  obtain ⟨f1, f2, f3⟩ := id hW.few
  have hyl := hyt.len
  rw [List.length_map] at hyl
  refine q_forES (ea_cons (ev_var rfl) ea_nil) hy
    (fun i σ' H' => Ex H H' ∧ (∀ j < i, lateAt rs j = false) ∧ ∃ o3 o4, σ' = [some (.int (m : Int)), some (.ref a), some (.ref b), o3, o4])
    (fun σ' H' => Ex H H' ∧ onTime rs = true ∧ ∃ o3 o4, σ' = [some (.int (m : Int)), some (.ref a), some (.ref b), o3, o4]) ?_ ?_ ?_ ?_ ?_
  · exact fun H1 e1 => ⟨e1, fun j hj => by omega, _, _, rfl⟩
  · exact fun i σ' H' ⟨E, _⟩ => ex_l E hy
  · rintro i x T' σ' H' hx ⟨E, hnb, o3, o4, rfl⟩ hT
    obtain ⟨hi, t, rfl, hs⟩ := row_get2 (hyt.ex E) hx
    have e0 : Ex H' (upd H' T' (.tup [.int (1 + (i : Nat)), .ref t])) := Ex.new hT
    refine ⟨T', [.int (1 + (i : Nat)), .ref t], rfl, st_of upd_same, rfl, .int (1 + (i : Nat)), [.ref t], rfl, .ref t, [], rfl, rfl, ?_⟩
    have E0 := E.trans e0
    have hs0 := ex_t e0 hs
    generalize upd H' T' (.tup [.int (1 + (i : Nat)), .ref t]) = Hb at E0 hs0 ⊢
    refine s_when (et_test (ev_op (ev_op (ev_var rfl) ev_c (rv_ixT (v := .int rs[i].2.2.1) hs0 rfl)) (ev_var rfl) rv_I0)) (fun hb H5 e5 => ?_) (fun hb H5 e5 => ?_)
    · have hb' : 1 + (i : Int) ≤ rs[i].2.2.1 := of_decide_eq_true hb
      have hno : bagsOf rs sw m = false := by
        have : onTime rs = false := by
          rw [← Bool.not_eq_true, onTime_iff]
          intro z
          have := z i hi
          rw [lateAt_get hi, decide_eq_false_iff_not] at this
          exact this hb'
        rw [bagsOf, this, Bool.false_and]
      rw [hno] at hQ
      exact s_ret ev_c fun H6 e6 => hQ H6 ((E0.trans e5).trans e6)
    · have hb' : ¬ 1 + (i : Int) ≤ rs[i].2.2.1 := of_decide_eq_false hb
      refine ⟨E0.trans e5, fun j hj => ?_, _, _, rfl⟩
      rcases Nat.lt_or_ge j i with h | h
      · exact hnb j h
      · rw [show j = i by omega, lateAt_get hi]
        exact decide_eq_false hb'
  · rintro σ' H' ⟨E, hnb, o3, o4, rfl⟩
    rw [hyl] at hnb
    exact ⟨E, onTime_iff.mpr hnb, _, _, rfl⟩
  · rintro σ' H' ⟨E, hon, o3, o4, rfl⟩
    refine s_ret (ev_is (ev_eqD (EvTL.toD (etl_sorted (d := 3) (etl_left (ev_var rfl) (ev_var rfl) (ex_l E hy) (hyt.ex E) f1 f2) (by decide) left_three)) (EvTL.toD (etl_sorted (d := 3) (etl_found (ev_var rfl) (ev_var rfl) (ex_l E hy) (hyt.ex E) (ex_l E hz) (hzt.ex E) f1 f3) (by decide) found_three)) (tups_sh _) (tups_sh _)) (by rw [tups_eqv])) fun H6 e6 => ?_
    have := hQ H6 (E.trans e6)
    rw [bagsOf, hon, Bool.true_and] at this
    exact this
theorem ok_bags_agree (T : TX K mg) : DefOk P w K mg base (2) "bags_agree" ["places", "rows", "sweep"] [] (spBags K) := by
  obtain ⟨fd, F, h⟩ := fn_bags_agree (P := P) (w := w) (base := base) T
  exact DefOk.of F (gl_bags_agree T) (F.bindsN fun _ _ _ _ _ _ us hl => match us, hl with | [_, _, _], _ => rfl) h
end

section
variable {P : Program} {w : World} {K : PySem.W.Frag} {mg : Str → Option Value} {base : Heap}
theorem ev_andV {ta tb : TE} {σ : L2.St} {H : Hp} {a b : Bool} (h1 : Ev ta σ H (.bl a)) (h2 : a = true → Ev tb σ H (.bl b)) : Ev (tAndV ta tb) σ H (.bl (a && b)) := fun H1 e Q q => h1 H1 e _ fun H2 e2 => ⟨a, rfl, by
  cases a with
  | false => exact iteF (q H2 e2)
  | true => exact iteT (h2 rfl H2 (e.trans e2) _ fun H3 e3 => q H3 (e2.trans e3))⟩
theorem ev_orV {ta tb : TE} {σ : L2.St} {H : Hp} {a b : Bool} (h1 : Ev ta σ H (.bl a)) (h2 : a = false → Ev tb σ H (.bl b)) : Ev (tOrV ta tb) σ H (.bl (a || b)) := fun H1 e Q q => h1 H1 e _ fun H2 e2 => ⟨a, rfl, by
  cases a with
  | true => exact iteT (q H2 e2)
  | false => exact iteF (h2 rfl H2 (e.trans e2) _ fun H3 e3 => q H3 (e2.trans e3))⟩
theorem etl_sortedV {te : TE} {σ : L2.St} {H : Hp} {p : Addr} {vs : List V} {rs : List (List Int)} {d : Nat} (h : Ev te σ H (.ref p)) (hs : SqL K H p vs) (ht : TupsAt K H vs rs) (hd : 1 ≤ d) (hr : ∀ r ∈ rs, r.length = d) : EvTL K (tCB (rSortedT K) (tCons te tNil)) σ H (sortL rs) := fun H1 e Q q =>
  h H1 e _ fun H2 e2 => ⟨p, vs, rs, d, rfl, ex_l (e.trans e2) hs, ht.ex (e.trans e2), hd, hr, fun ys p2 np2 ht2 => q p2 ys _ (fresh_back e2 np2) (e2.trans (Ex.new np2)) upd_same (ht2.ex (Ex.new np2))⟩
def spLBags (K : PySem.W.Frag) : Sp := fun vs H Q _ => ∃ (a b : Addr) (rs : List Row) (sw : List Swp) (m : Nat), vs = [.int (m : Int), .ref a, .ref b] ∧ World3 K H a b rs sw m ∧ RetV (.bl (bagsOf rs sw m)) H Q
theorem sc_l_ledger_bags : FnScope ["_law_many", "_law_rows", "_law_sweep", "_law_left", "_law_k", "_law_at", "_law_found", "_law_row", "_law_spot", "_law_late"] ["_law_many", "_law_rows", "_law_sweep"] (defScope s_l_ledger_bags) := ⟨rfl, rfl, rfl, by decide +kernel, rfl, by decide +kernel, by decide +kernel⟩
theorem fn_l_ledger_bags (T : TX K mg) : ∃ fd, FunD K "_law_ledger_bags" "_law_ledger_bags" (defArgs s_l_ledger_bags) (defBody s_l_ledger_bags) (defScope s_l_ledger_bags) [] [] (He.ga K "_law_ledger_bags") fd ∧ FnOk P w K mg base CX0 (1) (He.ga K "_law_ledger_bags") fd ["_law_many", "_law_rows", "_law_sweep"] (spLBags K) := by
  obtain ⟨fd, F⟩ := fd_l_ledger_bags T
  refine ⟨fd, F, My.FunD.ok0 F sc_l_ledger_bags (fun vs H Q E h => ?_) (fun cdv A outer s0 H vs Q E hr h => ?_)⟩
  · obtain ⟨a, b, rs, sw, m, rfl, hW, hQ⟩ := h
    rfl
  obtain ⟨a, b, rs, sw, m, rfl, hW, hQ⟩ := h
  have hu := hu_of hr
  refine ⟨_, (pss_cons (ps_set (i := 3) sc_l_ledger_bags.nd rfl (Or.inl rfl) (pe_op op_cat (pe_lc (own := [("_law_k", 4)]) rfl sc_l_ledger_bags.nd (pi_range1 rfl (fr_range T) (pa_cons (pv 0) pa_nil)) (blkOk_by (own := [("_law_k", 4)]) (N := ["_law_many", "_law_rows", "_law_sweep", "_law_left", "_law_k", "_law_at", "_law_found", "_law_row", "_law_spot", "_law_late"]) (sc := defScope s_l_ledger_bags) (by decide +kernel)) (fun _ _ _ _ _ => (pg_name (i := 4) sc_l_ledger_bags.nd rfl (Or.inl rfl))) (fun _ _ _ _ _ => pts_nil) (fun _ _ _ _ _ => (pe_tup (pa_cons (pv 4) (pa_cons pe_int (pa_cons pe_int pa_nil)))))) (pe_lc (own := [("_law_at", 5)]) rfl sc_l_ledger_bags.nd (pi_range1 rfl (fr_range T) (pa_cons (pe_callB (lenQ K) (by rfl) (fr_len T) PySem.boot_len (pa_cons (pv 1) pa_nil)) pa_nil)) (blkOk_by (own := [("_law_at", 5)]) (N := ["_law_many", "_law_rows", "_law_sweep", "_law_left", "_law_k", "_law_at", "_law_found", "_law_row", "_law_spot", "_law_late"]) (sc := defScope s_l_ledger_bags) (by decide +kernel)) (fun _ _ _ _ _ => (pg_name (i := 5) sc_l_ledger_bags.nd rfl (Or.inl rfl))) (fun _ _ _ _ _ => pts_nil) (fun _ _ _ _ _ => (pe_tup (pa_cons (pe_ix (ixT K) (pe_ix (ixL K) (pv 1) (pv 5) (fun _ _ => rfl)) pe_int (fun _ _ => rfl)) (pa_cons (pe_ix (ixT K) (pe_ix (ixL K) (pv 1) (pv 5) (fun _ _ => rfl)) pe_int (fun _ _ => rfl)) (pa_cons (pe_op op_add (pv 5) pe_int) pa_nil))))))))
      (pss_cons (ps_set (i := 6) sc_l_ledger_bags.nd rfl (Or.inl rfl) (pe_op op_cat (pe_lc (own := [("_law_row", 7)]) rfl sc_l_ledger_bags.nd (pi_list (pv 1)) (blkOk_by (own := [("_law_row", 7)]) (N := ["_law_many", "_law_rows", "_law_sweep", "_law_left", "_law_k", "_law_at", "_law_found", "_law_row", "_law_spot", "_law_late"]) (sc := defScope s_l_ledger_bags) (by decide +kernel)) (fun _ _ _ _ _ => (pg_name (i := 7) sc_l_ledger_bags.nd rfl (Or.inl rfl))) (fun _ _ _ _ _ => pts_nil) (fun _ _ _ _ _ => (pe_tup (pa_cons (pe_ix (ixT K) (pv 7) pe_int (fun _ _ => rfl)) (pa_cons (pe_ix (ixT K) (pv 7) pe_int (fun _ _ => rfl)) (pa_cons (pe_ix (ixT K) (pv 7) pe_int (fun _ _ => rfl)) pa_nil)))))) (pe_lc (own := [("_law_spot", 8)]) rfl sc_l_ledger_bags.nd (pi_list (pv 2)) (blkOk_by (own := [("_law_spot", 8)]) (N := ["_law_many", "_law_rows", "_law_sweep", "_law_left", "_law_k", "_law_at", "_law_found", "_law_row", "_law_spot", "_law_late"]) (sc := defScope s_l_ledger_bags) (by decide +kernel)) (fun _ _ _ _ _ => (pg_name (i := 8) sc_l_ledger_bags.nd rfl (Or.inl rfl))) (fun _ _ _ _ _ => pts_nil) (fun _ _ _ _ _ => (pe_tup (pa_cons (pe_ix (ixT K) (pv 8) pe_int (fun _ _ => rfl)) (pa_cons (pe_ix (ixT K) (pv 8) pe_int (fun _ _ => rfl)) (pa_cons (pe_ix (ixT K) (pv 8) pe_int (fun _ _ => rfl)) pa_nil))))))))
      (pss_cons (ps_setLc (i := 9) (own := [("_law_at", 5)]) rfl sc_l_ledger_bags.nd rfl rfl (sw_true rfl rfl rfl (by decide +kernel)) (pi_range1 rfl (fr_range T) (pa_cons (pe_callB (lenQ K) (by rfl) (fr_len T) PySem.boot_len (pa_cons (pv 1) pa_nil)) pa_nil)) (blkOk_by (own := [("_law_at", 5)]) (N := ["_law_many", "_law_rows", "_law_sweep", "_law_left", "_law_k", "_law_at", "_law_found", "_law_row", "_law_spot", "_law_late"]) (sc := defScope s_l_ledger_bags) (by decide +kernel)) (fun _ _ _ _ _ => (pg_name (i := 5) sc_l_ledger_bags.nd rfl (Or.inl rfl))) (fun _ _ _ _ _ => (pts_one (pt_cmpR op_gt (pe_ix (ixT K) (pe_ix (ixL K) (pv 1) (pv 5) (fun _ _ => rfl)) pe_int (fun _ _ => rfl)) (pv 5) (nomark _)))) (fun _ _ _ _ _ => (pv 5)))
      (pss_one (ps_ret (pe_and (pe_cmpR op_eq (pe_callB (lenQ K) (by rfl) (fr_len T) PySem.boot_len (pa_cons (pv 9) pa_nil)) pe_int (nomark _)) (pe_one (pe_cmpR (eqD K hr.units) (pe_callB (sortedQ K) (by rfl) (fr_sorted T) (by decide +kernel) (pa_cons (pv 3) pa_nil)) (pe_callB (sortedQ K) (by rfl) (fr_sorted T) (by decide +kernel) (pa_cons (pv 6) pa_nil)) (nomark _))))))))), ?_⟩
  obtain ⟨ys, hy, hyt⟩ := id hW.rows
  obtain ⟨zs, hz, hzt⟩ := id hW.swps
  obtain ⟨f1, f2, f3⟩ := id hW.few
  have hyl := hyt.len
  rw [List.length_map] at hyl
  have lenI : ∀ {σ : L2.St} {Hc : Hp}, σ[1]? = some (some (.ref a)) → Ex H Hc → EvA (tCons (tCB (rLenQ K) (tCons (tVar 1) tNil)) tNil) σ Hc [.int (rs.length : Int)] := fun r1 e => ea_cons (ev_is (ev_cb (ea_cons (ev_var r1) ea_nil) (rc_lenL (ex_l e hy))) (by rw [hyl])) ea_nil
  have rowI : ∀ {σ : L2.St} {Hc : Hp} {i : Nat} (hi : i < rs.length), σ[1]? = some (some (.ref a)) → σ[5]? = some (some (.int (i : Int))) → Ex H Hc → ∃ t, Ev (tOp (rIxL K) (tVar 1) (tVar 5)) σ Hc (.ref t) ∧ SqT K Hc t ((rowL rs[i]).map V.int) := fun {σ Hc i} hi r1 r5 e => by
    obtain ⟨t, g1, g2⟩ := row_get (hyt.ex e) hi
    exact ⟨t, ev_op (ev_var r1) (ev_var r5) (rv_ixL (ex_l e hy) (atI_nat g1)), g2⟩
  refine q_asgTL (K := K) (rs := leftL rs m) (etl_cat2 (etl_rng (n := (m : Int)) (ea_cons (ev_var rfl) ea_nil) (by omega) (by simp [left0]) (fun _ => rfl) fun i r H1 e1 hi hr => ?_) (etl_rng (n := (rs.length : Int)) (lenI rfl (Ex.refl H)) (by omega) (by simp [leftR]) (fun _ => rfl) fun i r H1 e1 hi hr => ?_) (by simp [left0, leftR]; omega)) fun p vs H1 np e1 hp hpt => ?_
  · rw [left0_get (by omega) hr]
    exact etu_U (eu_tup (ea_cons (ev_var rfl) (ea_cons ev_c (ea_cons ev_c ea_nil))) (by simp)) rfl
  · have hi' : i < rs.length := by omega
    rw [leftR_get hi'] at hr
    obtain rfl := Option.some.inj hr
    obtain ⟨t, ht, hs⟩ := rowI (σ := [some (.int (m : Int)), some (.ref a), some (.ref b), none, none, some (.int (i : Int)), none, none, none, none]) hi' rfl rfl e1
    exact etu_U (eu_tup (ea_cons (ev_op ht ev_c (rv_ixT (v := .int rs[i].1) hs rfl)) (ea_cons (ev_op ht ev_c (rv_ixT (v := .int rs[i].2.2.2) hs rfl)) (ea_cons (ev_is (ev_op (ev_var rfl) ev_c rv_I0) (by rw [Int.add_comm])) ea_nil))) (by simp)) rfl
  refine q_asgTL (K := K) (rs := foundL rs sw) (etl_cat2 (etl_foundR (ev_var rfl) (ex_l e1 hy) (hyt.ex e1) f1 (fun _ => rfl) (fun _ => rfl)) (etl_swp3 (ev_var rfl) (ex_l e1 hz) (hzt.ex e1) f3 (fun _ => rfl) (fun _ => rfl)) (by simp [foundR]; omega)) fun q us H2 nq e2 hq hqt => ?_
  have E2 := e1.trans e2
  refine q_asgL (el_lcR1 (n := (rs.length : Int)) (lateAt rs) (fun i => .int (i : Int)) (lenI rfl E2) (by omega) (fun _ => rfl) (fun i H3 e3 hi => ?_) (fun i H3 e3 hi hb => ev_var rfl)) fun l H3 nl e3 hl => ?_
  · have hi' : i < rs.length := by omega
    obtain ⟨t, ht, hs⟩ := rowI (σ := [some (.int (m : Int)), some (.ref a), some (.ref b), some (.ref p), none, some (.int (i : Int)), some (.ref q), none, none, none]) hi' rfl rfl (E2.trans e3)
    refine et_test (ev_is (ev_op (ev_op ht ev_c (rv_ixT (v := .int rs[i].2.2.1) hs rfl)) (ev_var rfl) rv_I0) ?_)
    rw [lateAt_get hi']
    congr 1
    exact decide_eq_decide.mpr ⟨fun z => by omega, fun z => by omega⟩
  have E3 := E2.trans e3
  have hnl : decide ((given rs.length (lateAt rs) fun i => V.int (i : Int)).length = 0) = onTime rs := by
    rw [Bool.eq_iff_iff, decide_eq_true_iff, onTime_iff, given_none]
  rw [show ((rs.length : Int)).toNat = rs.length by omega] at hl
  refine s_ret (ev_is (ev_andV (a := onTime rs) (ev_is (ev_op (ev_cb (ea_cons (ev_var rfl) ea_nil) (rc_lenL (sq_of hl))) ev_c (rv_eq rfl)) ?_) fun _ => ev_eqD (EvTL.toD (etl_sortedV (d := 3) (ev_var rfl) (sq_of ((e2.trans e3) _ _ hp)) (hpt.ex (e2.trans e3)) (by decide) left_three)) (EvTL.toD (etl_sortedV (d := 3) (ev_var rfl) (sq_of (e3 _ _ hq)) (hqt.ex e3) (by decide) found_three)) (tups_sh _) (tups_sh _)) (by rw [tups_eqv]; rfl)) fun H4 e4 => hQ H4 (E3.trans e4)
  rw [← hnl]
  simp
theorem ok_l_ledger_bags (T : TX K mg) : DefOk P w K mg base (1) "_law_ledger_bags" ["_law_many", "_law_rows", "_law_sweep"] [] (spLBags K) := by
  obtain ⟨fd, F, h⟩ := fn_l_ledger_bags (P := P) (w := w) (base := base) T
  exact DefOk.of F (gl_l_ledger_bags T) (F.bindsN fun _ _ _ _ _ _ us hl => match us, hl with | [_, _, _], _ => rfl) h
/-- the sweep that the first n rows leave -/
def sweepN (rs : List Row) (n m : Nat) : List Swp := (List.range m).map fun (p : Nat) => ((p : Int), lastAt rs n (p : Int))
theorem sweepN_get {rs : List Row} {n m p : Nat} (h : p < m) : ((sweepN rs n m).map swpL)[p]? = some (swpL ((p : Int), lastAt rs n (p : Int))) := by
  rw [List.getElem?_map, sweepN, List.getElem?_map, List.getElem?_range h]
  rfl
theorem sweepN_set {rs : List Row} {i m pn : Nat} (hi : i < rs.length) (hp : rs[i].1 = (pn : Int)) : (sweepN rs i m).set pn ((pn : Int), rs[i].2.2.2, (i : Int) + 1) = sweepN rs (i + 1) m := by
  refine List.ext_getElem? fun k => ?_
  rw [List.getElem?_set]
  by_cases hk : k < m
  · rw [sweepN, sweepN, List.getElem?_map, List.getElem?_map, List.getElem?_range hk, List.length_map, List.length_range]
    by_cases hpk : pn = k
    · subst hpk
      rw [if_pos rfl, if_pos hk]
      show some _ = some ((pn : Int), lastAt rs (i + 1) (pn : Int))
      rw [← hp, lastAt_hit hi]
    · rw [if_neg hpk]
      show some ((k : Int), lastAt rs i (k : Int)) = some ((k : Int), lastAt rs (i + 1) (k : Int))
      rw [lastAt_miss hi (by rw [hp]; omega)]
  · rw [List.getElem?_eq_none (by simp [sweepN]; omega), List.getElem?_eq_none (by simp [sweepN]; omega)]
    by_cases hpk : pn = k
    · subst hpk
      rw [if_pos rfl, if_neg (by simp [sweepN]; omega)]
    · rw [if_neg hpk]
def spSweep (K : PySem.W.Frag) : Sp := fun vs H Q _ => ∃ (a : Addr) (rs : List Row) (m : Nat) (ys : List V), vs = [.int (m : Int), .ref a] ∧ SqL K H a ys ∧ TupsAt K H ys (rs.map rowL) ∧ RowsOk m rs ∧ rs.length ≤ 1000 ∧ m ≤ 1000 ∧
  ∀ p vs' H2, H p = none → Ex H H2 → H2 p = some (.lst vs') → TupsAt K H2 vs' ((sweepN rs rs.length m).map swpL) → Q (.ref p) H2
theorem sc_l_ledger_sweep : FnScope ["_law_many", "_law_rows", "_law_sweep", "_law_k", "_law_at", "_law_place"] ["_law_many", "_law_rows"] (defScope s_l_ledger_sweep) := ⟨rfl, rfl, rfl, by decide +kernel, rfl, by decide +kernel, by decide +kernel⟩
theorem fn_l_ledger_sweep (T : TX K mg) : ∃ fd, FunD K "_law_ledger_sweep" "_law_ledger_sweep" (defArgs s_l_ledger_sweep) (defBody s_l_ledger_sweep) (defScope s_l_ledger_sweep) [] [] (He.ga K "_law_ledger_sweep") fd ∧ FnOk P w K mg base CX0 (1) (He.ga K "_law_ledger_sweep") fd ["_law_many", "_law_rows"] (spSweep K) := by
  obtain ⟨fd, F⟩ := fd_l_ledger_sweep T
  refine ⟨fd, F, My.FunD.ok0 F sc_l_ledger_sweep (fun vs H Q E h => ?_) (fun cdv A outer s0 H vs Q E hr h => ?_)⟩
  · obtain ⟨a, rs, m, ys, rfl, hS, ht, ok, hl, hm, hQ⟩ := h
    rfl
  obtain ⟨a, rs, m, ys, rfl, hS, ht, ok, hl, hm, hQ⟩ := h
  have hu := hu_of hr
  refine ⟨_, (pss_cons (ps_setLc (i := 2) (own := [("_law_k", 3)]) rfl sc_l_ledger_sweep.nd rfl rfl (sw_true rfl rfl rfl (by decide +kernel)) (pi_range1 rfl (fr_range T) (pa_cons (pv 0) pa_nil)) (blkOk_by (own := [("_law_k", 3)]) (N := ["_law_many", "_law_rows", "_law_sweep", "_law_k", "_law_at", "_law_place"]) (sc := defScope s_l_ledger_sweep) (by decide +kernel)) (fun _ _ _ _ _ => (pg_name (i := 3) sc_l_ledger_sweep.nd rfl (Or.inl rfl))) (fun _ _ _ _ _ => pts_nil) (fun _ _ _ _ _ => (pe_tup (pa_cons (pv 3) (pa_cons pe_int (pa_cons pe_int pa_nil))))))
      (pss_cut (ps_for PassesOwn.never rfl (pi_range1 rfl (fr_range T) (pa_cons (pe_callB (lenQ K) (by rfl) (fr_len T) PySem.boot_len (pa_cons (pv 1) pa_nil)) pa_nil)) (pg_name (i := 4) sc_l_ledger_sweep.nd rfl (Or.inl rfl)) (pss_cons (ps_set (i := 5) sc_l_ledger_sweep.nd rfl (Or.inl rfl) (pe_ix (ixT K) (pe_ix (ixL K) (pv 1) (pv 4) (fun _ _ => rfl)) pe_int (fun _ _ => rfl)))
      (pss_one (ps_asg (pe_tup (pa_cons (pv 5) (pa_cons (pe_ix (ixT K) (pe_ix (ixL K) (pv 1) (pv 4) (fun _ _ => rfl)) pe_int (fun _ _ => rfl)) (pa_cons (pe_op op_add (pv 4) pe_int) pa_nil)))) (pg_sub (pv 2) (pv 5) set_list)))))
      (pss_one (ps_ret (pv 2))))), ?_⟩
  have hyl := ht.len
  rw [List.length_map] at hyl
  refine q_asgTL (K := K) (rs := (sweepN rs 0 m).map swpL) (etl_rng (n := (m : Int)) (ea_cons (ev_var rfl) ea_nil) (by omega) (by simp [sweepN]) (fun _ => rfl) fun i r H1 e1 hi hr => ?_) fun d vs H1 nd e1 hd hdt => ?_
  · rw [sweepN_get (by omega)] at hr
    obtain rfl := Option.some.inj hr
    exact etu_U (eu_tup (ea_cons (ev_var rfl) (ea_cons ev_c (ea_cons ev_c ea_nil))) (by simp)) rfl
  refine q_forR1' (n := (rs.length : Int)) (ea_cons (ev_is (ev_cb (ea_cons (ev_var rfl) ea_nil) (rc_lenL (ex_l e1 hS))) (by rw [hyl])) ea_nil) (by omega)
    (fun i σ' H' => Ex H H' ∧ (∃ acc, H' d = some (.lst acc) ∧ TupsAt K H' acc ((sweepN rs i m).map swpL)) ∧ ∃ o3 o4 o5, σ' = [some (.int (m : Int)), some (.ref a), some (.ref d), o3, o4, o5])
    (fun σ' H' => Ex H H' ∧ (∃ acc, H' d = some (.lst acc) ∧ TupsAt K H' acc ((sweepN rs rs.length m).map swpL)) ∧ ∃ o3 o4 o5, σ' = [some (.int (m : Int)), some (.ref a), some (.ref d), o3, o4, o5]) ?_ ?_ ?_ ?_
  · exact fun H2 e2 => ⟨e1.trans e2, ⟨vs, e2 _ _ hd, hdt.ex e2⟩, _, _, _, rfl⟩
  · rintro i σ' H' hi ⟨E, ⟨acc, hac, hat⟩, o3, o4, o5, rfl⟩
    have hi' : i < rs.length := by omega
    obtain ⟨t, g1, hs⟩ := row_get (ht.ex E) hi'
    have hp := ok rs[i] (List.getElem_mem hi')
    obtain ⟨pn, hpn⟩ : ∃ pn : Nat, rs[i].1 = (pn : Int) := ⟨rs[i].1.toNat, by omega⟩
    refine q_asg (v := .int (pn : Int)) (hpn ▸ ev_op (ev_op (ev_var rfl) (ev_var rfl) (rv_ixL (ex_l E hS) (atI_nat g1))) ev_c (rv_ixT (v := .int rs[i].1) hs rfl)) fun H2 e2 => ?_
    have E2 := E.trans e2
    have hal := hat.len
    refine su_setL (j := pn) (e2 _ _ hac) (eu_tup (ea_cons (ev_var rfl) (ea_cons (ev_op (ev_op (ev_var rfl) (ev_var rfl) (rv_ixL (ex_l E2 hS) (atI_nat g1))) ev_c (rv_ixT (v := .int rs[i].2.2.2) (ex_t e2 hs) rfl)) (ea_cons (ev_op (ev_var rfl) ev_c rv_I0) ea_nil))) (by simp)) (ev_var rfl) (ev_var rfl) (by rw [hal]; simp [sweepN]; omega) fun t2 H4 e4 h4 => ?_
    have hac4 := (e2.trans e4) _ _ hac
    refine ⟨(E2.trans e4).mut nd, ⟨_, upd_same, ?_⟩, _, _, _, rfl⟩
    rw [← sweepN_set hi' hpn, List.map_set]
    exact ((hat.ex (e2.trans e4)).keep hac4 (by simp) (by simp)).set (sqt_keep hac4 (by simp) (by simp) (st_of h4))
  · rintro σ' H' ⟨E, h, o3, o4, o5, rfl⟩
    rw [show ((rs.length : Int)).toNat = rs.length by omega] at h
    exact ⟨E, h, _, _, _, rfl⟩
  · rintro σ' H' ⟨E, ⟨acc, hac, hat⟩, o3, o4, o5, rfl⟩
    exact (show Ev (tVar 2) _ H' (.ref d) from ev_var rfl) H' (Ex.refl H') _ fun H2 e2 => hQ d acc H2 nd (E.trans e2) (e2 _ _ hac) (hat.ex e2)
theorem ok_l_ledger_sweep (T : TX K mg) : DefOk P w K mg base (1) "_law_ledger_sweep" ["_law_many", "_law_rows"] [] (spSweep K) := by
  obtain ⟨fd, F, h⟩ := fn_l_ledger_sweep (P := P) (w := w) (base := base) T
  exact DefOk.of F (gl_l_ledger_sweep T) (F.bindsN fun _ _ _ _ _ _ us hl => match us, hl with | [_, _], _ => rfl) h
end

section
/-! ### the plain law: bags and lies -/
theorem set_perm {α : Type} {y : α} : ∀ {xs : List α} {i : Nat} (h : i < xs.length), (xs[i] :: xs.set i y).Perm (y :: xs)
  | x :: xs, 0, _ => List.Perm.swap _ _ _
  | x :: xs, i + 1, h => by
    have ih := set_perm (y := y) (xs := xs) (i := i) (by simpa using h)
    exact (List.Perm.swap _ _ _).trans ((ih.cons x).trans (List.Perm.swap _ _ _))
theorem lastAt_time (rs : List Row) : ∀ (n : Nat) (p : Int), (lastAt rs n p).2 ≤ n
  | 0, _ => Int.le_refl _
  | n + 1, p => by
    have ih := lastAt_time rs n p
    rw [lastAt]
    split
    · split
      · show (n : Int) + 1 ≤ ((n + 1 : Nat) : Int)
        omega
      · omega
    · omega
abbrev swpT (rs : List Row) (n m : Nat) : List (List Int) := (sweepN rs n m).map swpL
theorem good_get {rs : List Row} {i : Nat} (h : i < rs.length) (hb : badAt rs i = false) : lastAt rs i rs[i].1 = (rs[i].2.1, rs[i].2.2.1) := by
  rw [badAt_get h, Bool.not_eq_false', decide_eq_true_iff] at hb
  exact hb.symm
theorem swpT_len {rs : List Row} {n m : Nat} : (swpT rs n m).length = m := by simp [swpT, sweepN]
theorem pre_perm {rs : List Row} {m : Nat} (ok : RowsOk m rs) : ∀ n, n ≤ rs.length → (∀ j < n, badAt rs j = false) → (left0 m ++ (leftR rs).take n).Perm ((foundR rs).take n ++ swpT rs n m)
  | 0, _, _ => by
    rw [List.take_zero, List.append_nil, List.take_zero, List.nil_append]
    refine List.Perm.of_eq ?_
    rw [left0, swpT, sweepN, List.map_map]
    rfl
  | n + 1, h, hb => by
    have hn : n < rs.length := h
    have ih := pre_perm ok n (by omega) fun j hj => hb j (by omega)
    have hp := ok rs[n] (List.getElem_mem hn)
    obtain ⟨pn, hpn⟩ : ∃ pn : Nat, rs[n].1 = (pn : Int) := ⟨rs[n].1.toNat, by omega⟩
    have hg := good_get hn (hb n (by omega))
    have hlp : pn < (swpT rs n m).length := by rw [swpT_len]; omega
    have hset := set_perm (y := swpL ((pn : Int), rs[n].2.2.2, (n : Int) + 1)) hlp
    rw [← List.map_set, sweepN_set hn hpn] at hset
    have hat : (swpT rs n m)[pn] = [rs[n].1, rs[n].2.1, rs[n].2.2.1] := by
      have := sweepN_get (rs := rs) (n := n) (m := m) (p := pn) (by omega)
      rw [List.getElem?_eq_getElem hlp] at this
      rw [Option.some.inj this, ← hpn, hg]
      rfl
    rw [hat] at hset
    have hL : (leftR rs).take (n + 1) = (leftR rs).take n ++ [swpL ((pn : Int), rs[n].2.2.2, (n : Int) + 1)] := by
      have hl : n < (leftR rs).length := by simp [leftR]; exact hn
      have := leftR_get hn
      rw [List.getElem?_eq_getElem hl] at this
      rw [List.take_succ_eq_append_getElem hl, Option.some.inj this, hpn, Int.add_comm]
      rfl
    have hF : (foundR rs).take (n + 1) = (foundR rs).take n ++ [[rs[n].1, rs[n].2.1, rs[n].2.2.1]] := by
      have hl : n < (foundR rs).length := by simp [foundR]; exact hn
      have := foundR_get hn (List.getElem?_eq_getElem hl)
      rw [List.take_succ_eq_append_getElem hl, this]
    rw [hL, hF, ← List.append_assoc]
    refine (List.Perm.append_right _ ih).trans ?_
    rw [List.append_assoc, List.append_assoc]
    refine List.Perm.append_left _ ?_
    exact (List.perm_append_comm (l₁ := swpT rs n m)).trans hset.symm
theorem lie_iff {rs : List Row} {sw : List Swp} {m : Nat} : lieOf rs sw m = .none ↔ (∀ j < rs.length, badAt rs j = false) ∧ swpBad rs sw m = false := by
  constructor
  · intro h
    have hm : ∀ j < rs.length, badAt rs j = false := by
      unfold lieOf at h
      split at h
      · cases h
      · rename_i hf
        intro j hj
        have := List.find?_eq_none.mp hf j (List.mem_range.mpr hj)
        simpa using this
    refine ⟨hm, ?_⟩
    rw [lie_none hm] at h
    cases hb : swpBad rs sw m with
    | false => rfl
    | true =>
      rw [hb] at h
      cases h
  · rintro ⟨hm, hb⟩
    rw [lie_none hm, hb]
    rfl
def Named (sw : List Swp) : Prop := ∀ k (h : k < sw.length), sw[k].1 = (k : Int)
theorem swp_iff {rs : List Row} {sw : List Swp} {m : Nat} (hm : sw.length = m) (hn : Named sw) : swpBad rs sw m = false ↔ sw = sweepN rs rs.length m := by
  rw [swpBad, Bool.not_eq_false', decide_eq_true_iff]
  constructor
  · intro h
    refine List.ext_getElem (by simp [sweepN, hm]) fun k h1 h2 => ?_
    have := congrArg (fun l : List (Int × Int) => l[k]?) h
    simp only [List.getElem?_map, List.getElem?_eq_getElem h1, List.getElem?_range (show k < m by omega), Option.map_some] at this
    have e := Option.some.inj this
    simp only [sweepN, List.getElem_map, List.getElem_range]
    rw [← e, ← hn k h1]
  · intro h
    rw [h, sweepN, List.map_map]
    rfl
theorem found_drop {rs : List Row} {sw : List Swp} {m n : Nat} (ok : RowsOk m rs) (hp : (leftL rs m).Perm (foundL rs sw)) (hn : n ≤ rs.length) (hb : ∀ j < n, badAt rs j = false) : (swpT rs n m ++ (leftR rs).drop n).Perm ((foundR rs).drop n ++ sw.map swpL) := by
  have h1 := List.Perm.append_right ((leftR rs).drop n) (pre_perm ok n hn hb)
  rw [List.append_assoc, List.take_append_drop] at h1
  have h2 := h1.symm.trans hp
  unfold foundL at h2
  have h3 : foundR rs = (foundR rs).take n ++ (foundR rs).drop n := (List.take_append_drop n _).symm
  rw [List.append_assoc] at h2
  have h4 : foundR rs ++ sw.map swpL = (foundR rs).take n ++ ((foundR rs).drop n ++ sw.map swpL) := by rw [← List.append_assoc, ← h3]
  rw [h4] at h2
  exact (List.perm_append_left_iff _).mp h2
theorem mem_swpT {rs : List Row} {n m : Nat} {r : List Int} (h : r ∈ swpT rs n m) : ∃ q : Nat, q < m ∧ r = [(q : Int), (lastAt rs n q).1, (lastAt rs n q).2] := by
  obtain ⟨x, hx, rfl⟩ := List.mem_map.mp h
  obtain ⟨q, hq, rfl⟩ := List.mem_map.mp hx
  exact ⟨q, List.mem_range.mp hq, rfl⟩
theorem mem_left_drop {rs : List Row} {n : Nat} {p s t : Int} (h : [p, s, t] ∈ (leftR rs).drop n) : 1 + (n : Int) ≤ t := by
  obtain ⟨i, hi, he⟩ := List.getElem_of_mem h
  rw [List.length_drop] at hi
  have hl : (leftR rs).length = rs.length := by simp [leftR]
  have hni : n + i < rs.length := by omega
  rw [List.getElem_drop] at he
  have := leftR_get hni
  rw [List.getElem?_eq_getElem (by omega)] at this
  have e := (Option.some.inj this).symm.trans he
  injection e with _ e
  injection e with _ e
  injection e with e _
  omega
theorem rows_honest {rs : List Row} {sw : List Swp} {m : Nat} (ok : RowsOk m rs) (hon : onTime rs = true) (hp : (leftL rs m).Perm (foundL rs sw)) : ∀ n, n ≤ rs.length → ∀ j < n, badAt rs j = false
  | 0, _, j, hj => by omega
  | n + 1, hn, j, hj => by
    have hn' : n < rs.length := hn
    have ih := rows_honest ok hon hp n (by omega)
    rcases Nat.lt_or_ge j n with h | h
    · exact ih j h
    obtain rfl : j = n := by omega
    have hd := found_drop ok hp (by omega) ih
    have hlF : j < (foundR rs).length := by simp [foundR]; exact hn'
    have hx : [rs[j].1, rs[j].2.1, rs[j].2.2.1] ∈ (foundR rs).drop j := by
      rw [List.drop_eq_getElem_cons hlF, ← foundR_get hn' (List.getElem?_eq_getElem hlF)]
      exact List.mem_cons_self
    have hm := hd.symm.subset (List.mem_append_left _ hx)
    have hto := onTime_iff.mp hon j hn'
    rw [lateAt_get hn', decide_eq_false_iff_not] at hto
    rcases List.mem_append.mp hm with hm | hm
    · obtain ⟨q, hq, he⟩ := mem_swpT hm
      injection he with e1 he
      injection he with e2 he
      injection he with e3 _
      rw [badAt_get hn', e1, Bool.not_eq_false', decide_eq_true_iff, e2, e3]
    · have := mem_left_drop hm
      omega
theorem bags_iff {rs : List Row} {sw : List Swp} {m : Nat} (ok : RowsOk m rs) (hm : sw.length = m) (hn : Named sw) : bagsOf rs sw m = true ↔ lieOf rs sw m = .none := by
  rw [lie_iff, swp_iff hm hn, bagsOf, Bool.and_eq_true, decide_eq_true_iff, sortL_iff]
  constructor
  · rintro ⟨hon, hp⟩
    have hb := rows_honest ok hon hp rs.length (Nat.le_refl _)
    refine ⟨hb, ?_⟩
    have hd := found_drop ok hp (Nat.le_refl _) hb
    have l1 : (leftR rs).length = rs.length := by simp [leftR]
    have l2 : (foundR rs).length = rs.length := by simp [foundR]
    rw [List.drop_of_length_le (by omega), List.drop_of_length_le (by omega), List.append_nil, List.nil_append] at hd
    refine List.ext_getElem (by simp [sweepN, hm]) fun k h1 h2 => ?_
    have hx : swpL sw[k] ∈ sw.map swpL := List.mem_map_of_mem (List.getElem_mem h1)
    obtain ⟨q, hq, he⟩ := mem_swpT (hd.symm.subset hx)
    have hk := hn k h1
    injection he with e1 he
    injection he with e2 he
    injection he with e3 _
    have hqk : q = k := by omega
    subst hqk
    simp only [sweepN, List.getElem_map, List.getElem_range]
    exact Prod.ext e1 (Prod.ext e2 e3)
  · rintro ⟨hb, hsw⟩
    refine ⟨onTime_iff.mpr fun j hj => ?_, ?_⟩
    · have := lastAt_time rs j rs[j].1
      rw [good_get hj (hb j hj)] at this
      rw [lateAt_get hj, decide_eq_false_iff_not]
      have : rs[j].2.2.1 ≤ (j : Int) := this
      omega
    · have h := pre_perm ok rs.length (Nat.le_refl _) hb
      have l1 : (leftR rs).length = rs.length := by simp [leftR]
      have l2 : (foundR rs).length = rs.length := by simp [foundR]
      rw [List.take_of_length_le (by omega), List.take_of_length_le (by omega)] at h
      unfold leftL foundL
      rw [hsw]
      exact h
/-! ### beginnings of a ledger -/
theorem take_get {rs : List Row} {n i : Nat} (h : i < n) : (rs.take n)[i]? = rs[i]? := by
  rw [List.getElem?_take, if_pos h]
theorem lastAt_take {rs : List Row} {n : Nat} : ∀ {i : Nat} {p : Int}, i ≤ n → lastAt (rs.take n) i p = lastAt rs i p
  | 0, _, _ => rfl
  | i + 1, p, h => by
    rw [lastAt, lastAt, take_get (by omega), lastAt_take (by omega)]
theorem badAt_take {rs : List Row} {n i : Nat} (h : i < n) : badAt (rs.take n) i = badAt rs i := by
  unfold badAt
  rw [take_get h]
  split
  · rw [lastAt_take (by omega)]
  · rfl
theorem sweepN_named {rs : List Row} {n m : Nat} : Named (sweepN rs n m) := fun k h => by simp [sweepN]
theorem sweepN_len {rs : List Row} {n m : Nat} : (sweepN rs n m).length = m := by simp [sweepN]
/-- the lie as the law reads it -/
def upTo (lie : PyData) (n : Nat) : Bool := match lie with
  | .none => true
  | .int i => decide ((n : Int) ≤ i)
  | _ => false
theorem begin_iff {rs : List Row} {sw : List Swp} {m n : Nat} (ok : RowsOk m rs) (hn : n ≤ rs.length) : bagsOf (rs.take n) (sweepN (rs.take n) (rs.take n).length m) m = upTo (lieOf rs sw m) n := by
  have okn : RowsOk m (rs.take n) := fun r hr => ok r (List.mem_of_mem_take hr)
  have hl : (rs.take n).length = n := by rw [List.length_take]; omega
  have h1 : bagsOf (rs.take n) (sweepN (rs.take n) (rs.take n).length m) m = true ↔ ∀ j < n, badAt rs j = false := by
    rw [bags_iff okn sweepN_len sweepN_named, lie_iff, (swp_iff sweepN_len sweepN_named).mpr rfl]
    rw [hl]
    exact ⟨fun h j hj => by rw [← badAt_take hj]; exact h.1 j hj, fun h => ⟨fun j hj => by rw [badAt_take hj]; exact h j hj, rfl⟩⟩
  rw [Bool.eq_iff_iff, h1]
  unfold lieOf
  cases hf : (List.range rs.length).find? (badAt rs) with
  | some i =>
    obtain ⟨hb, hi, hm⟩ := List.find?_range_eq_some.mp hf
    show _ ↔ decide ((n : Int) ≤ (i : Int)) = true
    rw [decide_eq_true_iff]
    constructor
    · intro h
      rcases Nat.lt_or_ge i n with z | z
      · rw [h i z] at hb
        cases hb
      · omega
    · intro h j hj
      have := hm j (by omega)
      simpa using this
  | none =>
    have hm : ∀ j < rs.length, badAt rs j = false := fun j hj => by
      have := List.find?_eq_none.mp hf j (List.mem_range.mpr hj)
      simpa using this
    refine ⟨fun _ => ?_, fun _ j hj => hm j (by omega)⟩
    show upTo (if swpBad rs sw m = true then .int rs.length else .none) n = true
    split
    · exact decide_eq_true (by omega)
    · rfl
end

section
variable {P : Program} {w : World} {K : PySem.W.Frag} {mg : Str → Option Value} {base : Heap}
theorem spd_same {d : PyData} {n : Nat} (hn : Dn n d) : SpD K (spSame K n) [d, d] (.bool true) := fun vs H1 hv Q q E => by
  cases hv with
  | cons h1 t1 =>
    cases t1 with
    | cons h2 t2 =>
      cases t2
      exact sv_same h1 h2 hn hn (b := true) (by simp) H1 (Ex.refl H1) Q (fun H2 e => q _ H2 e (.bl true)) E
theorem lie_dn {rs : List Row} {sw : List Swp} {m : Nat} : Dn 2 (lieOf rs sw m) := by
  unfold lieOf
  split
  · exact dn_int
  · split
    · exact dn_int
    · simp [Dn]
theorem q_build {s : Addr} {ns : List Int} {σ : L2.St} {H : Hp} {ta : TA} {n : Nat} {tz : TS} {D : L2.Ends} (ht : EvA ta σ H [.ref s]) (hS : SqL K H s (ns.map V.int)) (hl : ns.length ≤ 63)
    (q : ∀ (rs : List Row) (sw : List Swp) (m : Nat) (t a b : Addr) (H2 : Hp), Ex H H2 → SqT K H2 t [.int (m : Int), .ref a, .ref b] → World3 K H2 a b rs sw m → sw.length = m → rs.length ≤ 100 → m ≤ 100 → (∃ ys zs, H2 a = some (.lst ys) ∧ TupsAt K H2 ys (rs.map rowL) ∧ H2 b = some (.lst zs) ∧ TupsAt K H2 zs (sw.map swpL)) → Named sw → tz D (σ.set n (some (.ref t))) H2) : tSeq (tAsg (tCall (spBuild K) [] E0 ta) (gName n)) tz D σ H :=
  ht H (Ex.refl H) _ fun H1 e1 => ⟨s, ns, rfl, ex_l e1 hS, hl, fun rs sw m t a b H2 e2 h1 h2 h3 h4 h5 h6 h7 => q rs sw m t a b H2 (e1.trans e2) h1 h2 h3 h4 h5 h6 h7⟩
theorem dn_rows {rs : List Row} (h : rs.length ≤ 1000) : Dn 2 (.list ((rs.map rowL).map tupD)) := dn_tupL (by simp; omega) fun p hp => by
  obtain ⟨r, _, rfl⟩ := List.mem_map.mp hp
  simp [rowL]
theorem dn_swps {rs : List Swp} (h : rs.length ≤ 1000) : Dn 2 (.list ((rs.map swpL).map tupD)) := dn_tupL (by simp; omega) fun p hp => by
  obtain ⟨r, _, rfl⟩ := List.mem_map.mp hp
  simp [swpL]
/-- a list with these items, new or not -/
def EvR (K : PySem.W.Frag) (te : TE) (σ : L2.St) (H : Hp) (zs : List V) : Prop := EvP te σ H fun v H1 => ∃ p, v = .ref p ∧ SqL K H1 p zs
theorem evr_L {te : TE} {σ : L2.St} {H : Hp} {zs : List V} (h : EvL te σ H zs) : EvR K te σ H zs := fun H1 e Q q => h H1 e _ fun p H2 _ e2 h2 => q _ H2 e2 ⟨p, rfl, sq_of h2⟩
theorem evr_var {te : TE} {σ : L2.St} {H : Hp} {p : Addr} {zs : List V} (h : Ev te σ H (.ref p)) (hs : SqL K H p zs) : EvR K te σ H zs := fun H1 e Q q => h H1 e _ fun H2 e2 => q _ H2 e2 ⟨p, rfl, ex_l (e.trans e2) hs⟩
theorem evd_lieR {tm tr ts : TE} {σ : L2.St} {H : Hp} {zr zs : List V} {rs : List Row} {sw : List Swp} {m : Nat} (hm : Ev tm σ H (.int (m : Int))) (hr : EvR K tr σ H zr) (hs : EvR K ts σ H zs) (t1 : TupsAt K H zr (rs.map rowL)) (t2 : TupsAt K H zs (sw.map swpL)) (ok : RowsOk m rs) (few : rs.length ≤ 1000 ∧ m ≤ 1000 ∧ sw.length ≤ 1000) :
    EvD K (tCall (spLie K) [] E0 (tCons tm (tCons tr (tCons ts tNil)))) σ H (lieOf rs sw m) := fun H1 e Q q => hm H1 e _ fun H2 e2 => hr H2 (e.trans e2) _ fun v1 H3 e3 ⟨p1, hv1, h3⟩ => hs H3 ((e.trans e2).trans e3) _ fun v2 H4 e4 ⟨p2, hv2, h4⟩ => by
  subst hv1
  subst hv2
  exact ⟨p1, p2, rs, sw, m, rfl, ⟨⟨zr, ex_l e4 h3, t1.ex (((e.trans e2).trans e3).trans e4)⟩, ⟨zs, h4, t2.ex (((e.trans e2).trans e3).trans e4)⟩, ok, few⟩, fun v H5 e5 hv => q v H5 (((e2.trans e3).trans e4).trans e5) hv⟩
theorem evd_llR {tm tr ts : TE} {σ : L2.St} {H : Hp} {zr zs : List V} {rs : List Row} {sw : List Swp} {m : Nat} (hm : Ev tm σ H (.int (m : Int))) (hr : EvR K tr σ H zr) (hs : EvR K ts σ H zs) (t1 : TupsAt K H zr (rs.map rowL)) (t2 : TupsAt K H zs (sw.map swpL)) (ok : RowsOk m rs) (few : rs.length ≤ 1000 ∧ m ≤ 1000 ∧ sw.length ≤ 1000) (hsm : sw.length = m) :
    EvD K (tCall (spLL K) [] E0 (tCons tm (tCons tr (tCons ts tNil)))) σ H (lieOf rs sw m) := fun H1 e Q q => hm H1 e _ fun H2 e2 => hr H2 (e.trans e2) _ fun v1 H3 e3 ⟨p1, hv1, h3⟩ => hs H3 ((e.trans e2).trans e3) _ fun v2 H4 e4 ⟨p2, hv2, h4⟩ => by
  subst hv1
  subst hv2
  exact ⟨p1, p2, rs, sw, m, rfl, ⟨⟨zr, ex_l e4 h3, t1.ex (((e.trans e2).trans e3).trans e4)⟩, ⟨zs, h4, t2.ex (((e.trans e2).trans e3).trans e4)⟩, ok, few⟩, hsm, fun v H5 e5 hv => q v H5 (((e2.trans e3).trans e4).trans e5) hv⟩
theorem cut_one {ys : List V} (h : 1 ≤ ys.length) : cutV ys (some 1) none = ys.drop 1 := by
  unfold cutV
  have : HT.sIx ys.length 0 (some (1 : Int)) = min 1 ys.length := HT.sIx_nat _ _ 1
  rw [this, HT.sIx_none, Nat.min_eq_left h, List.take_of_length_le (by simp)]
theorem etl_one {te : TE} {σ : L2.St} {H : Hp} {r : List Int} (h : EvTu K te σ H r) : EvTL K (tLst (tCons te tNil)) σ H [r] := fun H1 e Q q => h H1 e _ fun v H2 e2 ⟨a, hv, hs⟩ => ⟨by show 1 ≤ sizeLine; decide, fun p hp => q p [v] _ (fresh_back e2 hp) (e2.trans (Ex.new hp)) upd_same (by rw [hv]; exact TupsAt.one (ex_t (Ex.new hp) hs))⟩
theorem etl_catN {ta tb : TE} {σ : L2.St} {H : Hp} {a : Addr} {ys : List V} {r1 r2 : List (List Int)} (ha : Ev ta σ H (.ref a)) (h1 : H a = some (.lst ys)) (ht : TupsAt K H ys r1) (hl : r1.length + r2.length ≤ 100000) (hb : EvTL K tb σ H r2) : EvTL K (tOp rCat ta tb) σ H (r1 ++ r2) := fun H1 e Q q =>
  ha H1 e _ fun H2 e2 => hb H2 (e.trans e2) _ fun p ws H3 n3 e3 h3 t3 => ⟨a, p, ys, ws, rfl, rfl, ((e.trans e2).trans e3) _ _ h1, h3, sz_of (by rw [ht.len, t3.len]; exact hl), fun d hd => q d (ys ++ ws) _ (fresh_back (e2.trans e3) hd) ((e2.trans e3).trans (Ex.new hd)) upd_same (((ht.ex ((e.trans e2).trans e3)).app t3).ex (Ex.new hd))⟩
theorem etl_catL {ta tb : TE} {σ : L2.St} {H : Hp} {zs : List V} {r1 r2 : List (List Int)} (ha : EvTL K ta σ H r1) (hb : EvL tb σ H zs) (ht : TupsAt K H zs r2) (hl : r1.length + r2.length ≤ 100000) : EvTL K (tOp rCat ta tb) σ H (r1 ++ r2) := fun H1 e Q q =>
  ha H1 e _ fun p ws H2 n2 e2 h2 t2 => hb H2 (e.trans e2) _ fun b H3 n3 e3 h3 => ⟨p, b, ws, zs, rfl, rfl, e3 _ _ h2, h3, sz_of (by rw [ht.len, t2.len]; exact hl), fun d hd => q d (ws ++ zs) _ (fresh_back (e2.trans e3) hd) ((e2.trans e3).trans (Ex.new hd)) upd_same (((t2.ex e3).app (ht.ex ((e.trans e2).trans e3))).ex (Ex.new hd))⟩
/-- .. as an argument -/
theorem evd_llT {tm tr ts : TE} {σ : L2.St} {H : Hp} {zr : List V} {rs : List Row} {sw : List Swp} {m : Nat} (hm : Ev tm σ H (.int (m : Int))) (hr : EvR K tr σ H zr) (hs : EvTL K ts σ H (sw.map swpL)) (t1 : TupsAt K H zr (rs.map rowL)) (ok : RowsOk m rs) (few : rs.length ≤ 1000 ∧ m ≤ 1000 ∧ sw.length ≤ 1000) (hsm : sw.length = m) :
    EvD K (tCall (spLL K) [] E0 (tCons tm (tCons tr (tCons ts tNil)))) σ H (lieOf rs sw m) := fun H1 e Q q => hm H1 e _ fun H2 e2 => hr H2 (e.trans e2) _ fun v1 H3 e3 ⟨p1, hv1, h3⟩ => hs H3 ((e.trans e2).trans e3) _ fun p2 vs H4 n4 e4 h4 t4 => by
  subst hv1
  exact ⟨p1, p2, rs, sw, m, rfl, ⟨⟨zr, ex_l e4 h3, t1.ex (((e.trans e2).trans e3).trans e4)⟩, ⟨vs, sq_of h4, t4⟩, ok, few⟩, hsm, fun v H5 e5 hv => q v H5 (((e2.trans e3).trans e4).trans e5) hv⟩
theorem q_setTu {ta tb te : TE} {σ : L2.St} {H : Hp} {D : L2.Ends} {tz : TS} {l : Addr} {xs : List V} {j : Nat} {r : List Int} (hl : H l = some (.lst xs)) (h : EvTu K te σ H r) (ho : Ev ta σ H (.ref l)) (hi : Ev tb σ H (.int (j : Int))) (hj : j < xs.length)
    (k : ∀ w H1, Ex H H1 → SqT K H1 w (r.map V.int) → tz D σ (upd H1 l (.lst (xs.set j (.ref w))))) : tSeq (tAsg te (gSub ta tb rSetL)) tz D σ H := h H (Ex.refl H) _ fun v H1 e1 ⟨w, hv, hw⟩ => ho H1 e1 _ fun H2 e2 => hi H2 (e1.trans e2) _ fun H3 e3 => by
  subst hv
  refine ⟨l, xs, _, j, rfl, rfl, ((e1.trans e2).trans e3) _ _ hl, ?_, k w H3 ((e1.trans e2).trans e3) (ex_t (e2.trans e3) hw)⟩
  unfold ixN
  rw [if_pos (by omega), if_pos (by omega)]
  simp
theorem TupsAt.lst {H H' : Hp} {p : Addr} {xs : List V} (hp : H p = some (.lst xs)) {o : HO} {vs : List V} {ps : List (List Int)} (h : TupsAt K H vs ps) : TupsAt K (upd H p o) vs ps := h.keep hp (by simp) (by simp)
def spAsked (K : PySem.W.Frag) : Sp := fun vs H Q _ => ∃ (g k a b : Addr) (rs : List Row) (sw : List Swp) (m : Nat), vs = [.int (m : Int), .ref g, .ref k, .ref a, .ref b] ∧ World3 K H g k rs sw m ∧ World3 K H a b rs sw m ∧ sw.length = m ∧ Named sw ∧ RetV (.bl true) H Q
theorem sv_lbags {H : Hp} {a b : Addr} {rs : List Row} {sw : List Swp} {m : Nat} (h : World3 K H a b rs sw m) : SpV (spLBags K) [.int (m : Int), .ref a, .ref b] H (.bl (bagsOf rs sw m)) := fun H1 e Q q E => ⟨a, b, rs, sw, m, rfl, h.ex e, q⟩
theorem sv_bags {H : Hp} {a b : Addr} {rs : List Row} {sw : List Swp} {m : Nat} (h : World3 K H a b rs sw m) : SpV (spBags K) [.int (m : Int), .ref a, .ref b] H (.bl (bagsOf rs sw m)) := fun H1 e Q q E => ⟨a, b, rs, sw, m, rfl, h.ex e, q⟩
theorem isNone_iff {d : PyData} : isNone d = true ↔ d = .none := by
  cases d <;> simp [isNone]
theorem dn_b {b : Bool} : Dn 2 (.bool b) := by simp [Dn]
theorem sc_l_ledger_asked : FnScope ["_law_many", "_law_given", "_law_swept", "_law_rows", "_law_sweep", "_law_due", "_law_lie"] ["_law_many", "_law_given", "_law_swept", "_law_rows", "_law_sweep"] (defScope s_l_ledger_asked) := ⟨rfl, rfl, rfl, by decide +kernel, rfl, by decide +kernel, by decide +kernel⟩
theorem fn_l_ledger_asked (T : TX K mg) : ∃ fd, FunD K "_law_ledger_asked" "_law_ledger_asked" (defArgs s_l_ledger_asked) (defBody s_l_ledger_asked) (defScope s_l_ledger_asked) [] [] (He.ga K "_law_ledger_asked") fd ∧ FnOk P w K mg base CX0 (5) (He.ga K "_law_ledger_asked") fd ["_law_many", "_law_given", "_law_swept", "_law_rows", "_law_sweep"] (spAsked K) := by
  obtain ⟨fd, F⟩ := fd_l_ledger_asked T
  refine ⟨fd, F, My.FunD.ok0 F sc_l_ledger_asked (fun vs H Q E h => ?_) (fun cdv A outer s0 H vs Q E hr h => ?_)⟩
  · obtain ⟨g, k, a, b, rs, sw, m, rfl, hG, hW, hsm, hnm, hQ⟩ := h
    rfl
  obtain ⟨g, k, a, b, rs, sw, m, rfl, hG, hW, hsm, hnm, hQ⟩ := h
  have hu := hu_of hr
  refine ⟨_, (pss_cons (ps_set (i := 5) sc_l_ledger_asked.nd rfl (Or.inl rfl) (pe_callN (ok_l_ledger_bags (P := P) (w := w) (base := base) T) hr (pa_cons (pv 0) (pa_cons (pv 3) (pa_cons (pv 4) pa_nil)))))
      (pss_cons (ps_set (i := 6) sc_l_ledger_asked.nd rfl (Or.inl rfl) (pe_callN (ok_l_ledger_lie (P := P) (w := w) (base := base) T) hr (pa_cons (pv 0) (pa_cons (pv 3) (pa_cons (pv 4) pa_nil)))))
      (pss_cons (ps_if (pt_cmpR op_ne (pv 5) (pe_cmp (pc_isN (pv 6))) (nomark _)) (pss_one (ps_ret pe_bl)) pss_nil)
      (pss_cons (ps_if (PW.pt (pw_or (pt_not (pt_val (pe_callN (ok_l_same (P := P) (w := w) T (base := base) 2) hr (pa_cons (pe_callN (ok_bags_agree (P := P) (w := w) (base := base) T) hr (pa_cons (pv 0) (pa_cons (pv 1) (pa_cons (pv 2) pa_nil)))) (pa_cons (pv 5) pa_nil)) (hk := by decide)))) (pw_or1 (pt_not (pt_val (pe_callN (ok_l_same (P := P) (w := w) T (base := base) 2) hr (pa_cons (pe_callN (ok_first_lie (P := P) (w := w) (base := base) T) hr (pa_cons (pv 0) (pa_cons (pv 1) (pa_cons (pv 2) pa_nil)))) (pa_cons (pv 6) pa_nil)) (hk := by decide))))))) (pss_one (ps_ret pe_bl)) pss_nil)
      (pss_one (ps_ret (pe_and (pe_callN (ok_l_same (P := P) (w := w) T (base := base) 2) hr (pa_cons (pv 1) (pa_cons (pv 3) pa_nil)) (hk := by decide)) (pe_one (pe_callN (ok_l_same (P := P) (w := w) T (base := base) 2) hr (pa_cons (pv 2) (pa_cons (pv 4) pa_nil)) (hk := by decide)))))))))), ?_⟩
  have hbl : isNone (lieOf rs sw m) = bagsOf rs sw m := by rw [Bool.eq_iff_iff, isNone_iff, bags_iff hW.ok hsm hnm]
  obtain ⟨ys, hy, hyt⟩ := id hW.rows
  obtain ⟨zs, hz, hzt⟩ := id hW.swps
  obtain ⟨yg, hyg, hygt⟩ := id hG.rows
  obtain ⟨zg, hzg, hzgt⟩ := id hG.swps
  refine q_asg (ev_call (ea_cons (ev_var rfl) (ea_cons (ev_var rfl) (ea_cons (ev_var rfl) ea_nil))) (sv_lbags hW)) fun H1 e1 => ?_
  refine qd_asg (evd_callV (ea_cons (ev_var rfl) (ea_cons (ev_var rfl) (ea_cons (ev_var rfl) ea_nil))) (svd_ll (hW.ex e1) hsm)) fun v H2 e2 hv => ?_
  have E2 := e1.trans e2
  refine q_whenF (et_test (ev_is (ev_op (ev_var rfl) (ev_isND (evd_var rfl hv)) (rv_ne rfl)) (by rw [hbl]; simp))) fun H3 e3 => ?_
  have E3 := E2.trans e3
  refine q_whenF (et_is (et_or (et_not (et_B (evd_call (evds_cons (evd_b (ev_call (ea_cons (ev_var rfl) (ea_cons (ev_var rfl) (ea_cons (ev_var rfl) ea_nil))) (sv_bags (hG.ex E3)))) (evds_cons (evd_b (ev_var rfl)) evds_nil)) (spd_same dn_b)).toB)) fun _ => et_not (et_B (evd_call (evds_cons (evd_callV (ea_cons (ev_var rfl) (ea_cons (ev_var rfl) (ea_cons (ev_var rfl) ea_nil))) (svd_lie (hG.ex E3))) (evds_cons (evd_var rfl (dp_ex e3 hv)) evds_nil)) (spd_same lie_dn)).toB)) rfl) fun H4 e4 => ?_
  have E4 := E3.trans e4
  exact s_ret (ev_andV (a := true) (b := true) (EvD.toB (evd_call (evds_cons (evd_var rfl (Dp.lst (ex_l E4 hyg) (hygt.ex E4).dp)) (evds_cons (evd_var rfl (Dp.lst (ex_l E4 hy) (hyt.ex E4).dp)) evds_nil)) (spd_same (dn_rows hW.few.1)))) fun _ => EvD.toB (evd_call (evds_cons (evd_var rfl (Dp.lst (ex_l E4 hzg) (hzgt.ex E4).dp)) (evds_cons (evd_var rfl (Dp.lst (ex_l E4 hz) (hzt.ex E4).dp)) evds_nil)) (spd_same (dn_swps hW.few.2.2)))) fun H5 e5 => hQ H5 (E4.trans e5)
theorem ok_l_ledger_asked (T : TX K mg) : DefOk P w K mg base (5) "_law_ledger_asked" ["_law_many", "_law_given", "_law_swept", "_law_rows", "_law_sweep"] [] (spAsked K) := by
  obtain ⟨fd, F, h⟩ := fn_l_ledger_asked (P := P) (w := w) (base := base) T
  exact DefOk.of F (gl_l_ledger_asked T) (F.bindsN fun _ _ _ _ _ _ us hl => match us, hl with | [_, _, _, _, _], _ => rfl) h
end

section
variable {P : Program} {w : World} {K : PySem.W.Frag} {mg : Str → Option Value} {base : Heap}
/-- a list of tuples, new or not -/
def EvW (K : PySem.W.Frag) (te : TE) (σ : L2.St) (H : Hp) (rs : List (List Int)) : Prop := ∀ H1, Ex H H1 → ∀ Q : VK, (∀ p zs H2, Ex H1 H2 → SqL K H2 p zs → TupsAt K H2 zs rs → Q (.ref p) H2) → te σ H1 Q
theorem evw_T {te : TE} {σ : L2.St} {H : Hp} {rs : List (List Int)} (h : EvTL K te σ H rs) : EvW K te σ H rs := fun H1 e Q q => h H1 e Q fun p vs H2 _ e2 h2 t2 => q p vs H2 e2 (sq_of h2) t2
theorem evw_L {te : TE} {σ : L2.St} {H : Hp} {zs : List V} {rs : List (List Int)} (h : EvL te σ H zs) (ht : TupsAt K H zs rs) : EvW K te σ H rs := fun H1 e Q q => h H1 e _ fun p H2 _ e2 h2 => q p zs H2 e2 (sq_of h2) (ht.ex (e.trans e2))
theorem evw_var {te : TE} {σ : L2.St} {H : Hp} {p : Addr} {zs : List V} {rs : List (List Int)} (h : Ev te σ H (.ref p)) (hs : SqL K H p zs) (ht : TupsAt K H zs rs) : EvW K te σ H rs := fun H1 e Q q => h H1 e _ fun H2 e2 => q p zs H2 e2 (ex_l (e.trans e2) hs) (ht.ex (e.trans e2))
theorem ev_bagsW {tm tr ts : TE} {σ : L2.St} {H : Hp} {rs : List Row} {sw : List Swp} {m : Nat} {E : XK} (hm : Ev tm σ H (.int (m : Int))) (hr : EvW K tr σ H (rs.map rowL)) (hs : EvW K ts σ H (sw.map swpL)) (ok : RowsOk m rs) (few : rs.length ≤ 1000 ∧ m ≤ 1000 ∧ sw.length ≤ 1000) : Ev (tCall (spBags K) [] E (tCons tm (tCons tr (tCons ts tNil)))) σ H (.bl (bagsOf rs sw m)) := fun H1 e Q q =>
  hm H1 e _ fun H2 e2 => hr H2 (e.trans e2) _ fun p1 z1 H3 e3 s1 t1 => hs H3 ((e.trans e2).trans e3) _ fun p2 z2 H4 e4 s2 t2 =>
    ⟨p1, p2, rs, sw, m, rfl, ⟨⟨z1, ex_l e4 s1, t1.ex e4⟩, ⟨z2, s2, t2⟩, ok, few⟩, fun H5 e5 => q H5 (((e2.trans e3).trans e4).trans e5)⟩
theorem etl_sweepW {tm tr : TE} {σ : L2.St} {H : Hp} {rs : List Row} {m : Nat} {E : XK} (hm : Ev tm σ H (.int (m : Int))) (hr : EvW K tr σ H (rs.map rowL)) (ok : RowsOk m rs) (hl : rs.length ≤ 1000) (hml : m ≤ 1000) : EvTL K (tCall (spSweep K) [] E (tCons tm (tCons tr tNil))) σ H ((sweepN rs rs.length m).map swpL) := fun H1 e Q q =>
  hm H1 e _ fun H2 e2 => hr H2 (e.trans e2) _ fun p1 z1 H3 e3 s1 t1 => ⟨p1, rs, m, z1, rfl, s1, t1, ok, hl, hml, fun p vs H4 n4 e4 h4 t4 => q p vs H4 (fresh_back (e2.trans e3) n4) ((e2.trans e3).trans e4) h4 t4⟩
theorem ev_asked {tm tg tk tr ts : TE} {σ : L2.St} {H : Hp} {rs : List Row} {sw : List Swp} {m : Nat} {E : XK} (hm : Ev tm σ H (.int (m : Int))) (hg : EvW K tg σ H (rs.map rowL)) (hk : EvW K tk σ H (sw.map swpL)) (hr : EvW K tr σ H (rs.map rowL)) (hs : EvW K ts σ H (sw.map swpL)) (ok : RowsOk m rs) (few : rs.length ≤ 1000 ∧ m ≤ 1000 ∧ sw.length ≤ 1000) (hsm : sw.length = m) (hn : Named sw) :
    Ev (tCall (spAsked K) [] E (tCons tm (tCons tg (tCons tk (tCons tr (tCons ts tNil)))))) σ H (.bl true) := fun H1 e Q q =>
  hm H1 e _ fun H2 e2 => hg H2 (e.trans e2) _ fun p1 z1 H3 e3 s1 t1 => hk H3 ((e.trans e2).trans e3) _ fun p2 z2 H4 e4 s2 t2 => hr H4 (((e.trans e2).trans e3).trans e4) _ fun p3 z3 H5 e5 s3 t3 => hs H5 ((((e.trans e2).trans e3).trans e4).trans e5) _ fun p4 z4 H6 e6 s4 t4 =>
    ⟨p1, p2, p3, p4, rs, sw, m, rfl, ⟨⟨z1, ex_l ((e4.trans e5).trans e6) s1, t1.ex ((e4.trans e5).trans e6)⟩, ⟨z2, ex_l (e5.trans e6) s2, t2.ex (e5.trans e6)⟩, ok, few⟩, ⟨⟨z3, ex_l e6 s3, t3.ex e6⟩, ⟨z4, s4, t4⟩, ok, few⟩, hsm, hn, fun H7 e7 => q H7 (((((e2.trans e3).trans e4).trans e5).trans e6).trans e7)⟩
theorem cut_take {ys : List V} {n : Nat} (h : n ≤ ys.length) : cutV ys none (some (n : Int)) = ys.take n := by
  unfold cutV
  rw [HT.sIx_none, HT.sIx_nat, Nat.min_eq_left h, List.drop_zero, Nat.sub_zero]
theorem tups_take : ∀ {H : Hp} {vs : List V} {ps : List (List Int)} (n : Nat), TupsAt K H vs ps → TupsAt K H (vs.take n) (ps.take n)
  | _, _, _, 0, _ => trivial
  | _, [], [], _ + 1, _ => trivial
  | _, _ :: _, _ :: _, n + 1, ⟨h, t⟩ => ⟨h, tups_take n t⟩
theorem lie_kind (rs : List Row) (sw : List Swp) (m : Nat) : lieOf rs sw m = .none ∨ ∃ i, lieOf rs sw m = .int i := by
  unfold lieOf
  split
  · exact .inr ⟨_, rfl⟩
  · split
    · exact .inr ⟨_, rfl⟩
    · exact .inl rfl
theorem sc_law : FnScope ["_law_script", "_law_world", "_law_many", "_law_rows", "_law_sweep", "_law_given", "_law_swept", "_law_lie", "_law_n", "_law_honest", "_law_more"] ["_law_script"] (defScope s_law) := ⟨rfl, rfl, rfl, by decide +kernel, rfl, by decide +kernel, by decide +kernel⟩
theorem fn_law (T : TX K mg) : ∃ fd, FunD K "law" "law" (defArgs s_law) (defBody s_law) (defScope s_law) [] [] (He.ga K "law") fd ∧ FnOk P w K mg base CX0 (6) (He.ga K "law") fd ["_law_script"] (spLaw K) := by
  obtain ⟨fd, F⟩ := fd_law T
  refine ⟨fd, F, My.FunD.ok0 F sc_law (fun vs H Q E h => ?_) (fun cdv A outer s0 H vs Q E hr h => ?_)⟩
  · obtain ⟨s, ns, rfl, hS, hl, hQ⟩ := h
    rfl
  obtain ⟨s, ns, rfl, hS, hl, hQ⟩ := h
  have hu := hu_of hr
  refine ⟨_, (pss_cons (ps_set (i := 1) sc_law.nd rfl (Or.inl rfl) (pe_callN (ok_l_ledger_build (P := P) (w := w) (base := base) T) hr (pa_cons (pv 0) pa_nil)))
      (pss_cons (ps_set (i := 2) sc_law.nd rfl (Or.inl rfl) (pe_ix (ixT K) (pv 1) pe_int (fun _ _ => rfl)))
      (pss_cons (ps_set (i := 3) sc_law.nd rfl (Or.inl rfl) (pe_ix (ixT K) (pv 1) pe_int (fun _ _ => rfl)))
      (pss_cons (ps_set (i := 4) sc_law.nd rfl (Or.inl rfl) (pe_ix (ixT K) (pv 1) pe_int (fun _ _ => rfl)))
      (pss_cons (ps_set (i := 5) sc_law.nd rfl (Or.inl rfl) (pe_callTy (listQ K) (by rfl) (fr_list T) (by decide +kernel) (pa_cons (pv 3) pa_nil)))
      (pss_cons (ps_set (i := 6) sc_law.nd rfl (Or.inl rfl) (pe_callTy (listQ K) (by rfl) (fr_list T) (by decide +kernel) (pa_cons (pv 4) pa_nil)))
      (pss_cons (ps_if (pt_not (pt_val (pe_callN (ok_l_ledger_asked (P := P) (w := w) (base := base) T) hr (pa_cons (pv 2) (pa_cons (pv 5) (pa_cons (pv 6) (pa_cons (pv 3) (pa_cons (pv 4) pa_nil)))))))) (pss_one (ps_ret pe_bl)) pss_nil)
      (pss_cons (ps_set (i := 7) sc_law.nd rfl (Or.inl rfl) (pe_callN (ok_l_ledger_lie (P := P) (w := w) (base := base) T) hr (pa_cons (pv 2) (pa_cons (pv 3) (pa_cons (pv 4) pa_nil)))))
      (pss_cut (ps_for PassesOwn.never rfl (pi_range1 rfl (fr_range T) (pa_cons (pe_op op_add (pe_callB (lenQ K) (by rfl) (fr_len T) PySem.boot_len (pa_cons (pv 3) pa_nil)) pe_int) pa_nil)) (pg_name (i := 8) sc_law.nd rfl (Or.inl rfl)) (pss_cons (ps_set (i := 9) sc_law.nd rfl (Or.inl rfl) (pe_or (pe_cmp (pc_isN (pv 7))) (pe_one (pe_cmpR op_le (pv 8) (pv 7) (nomark _)))))
      (pss_one (ps_if (pt_not (pt_val (pe_callN (ok_l_same (P := P) (w := w) T (base := base) 2) hr (pa_cons (pe_callN (ok_bags_agree (P := P) (w := w) (base := base) T) hr (pa_cons (pv 2) (pa_cons (pe_slice (slL K) (pv 3) po_none (po_some (pv 8))) (pa_cons (pe_callN (ok_l_ledger_sweep (P := P) (w := w) (base := base) T) hr (pa_cons (pv 2) (pa_cons (pe_slice (slL K) (pv 3) po_none (po_some (pv 8))) pa_nil))) pa_nil)))) (pa_cons (pv 9) pa_nil)) (hk := by decide)))) (pss_one (ps_ret pe_bl)) pss_nil))))
      (pss_cut (ps_if (pt_cmpR op_gt (pv 2) pe_int (nomark _)) (pss_cons (ps_set (i := 10) sc_law.nd rfl (Or.inl rfl) (pe_op op_cat (pv 3) (pe_lst (pa_cons (pe_tup (pa_cons pe_int (pa_cons (pe_ix (ixT K) (pe_ix (ixL K) (pv 4) pe_int (fun _ _ => rfl)) pe_int (fun _ _ => rfl)) (pa_cons (pe_ix (ixT K) (pe_ix (ixL K) (pv 4) pe_int (fun _ _ => rfl)) pe_int (fun _ _ => rfl)) (pa_cons pe_int pa_nil))))) pa_nil))))
      (pss_cons (ps_expr (pe_bm PySem.F.plainAttrs_list PySem.F.slot_list_append PySem.F.type_list_append mt_append (pv 5) (pa_cons (pe_ix (ixL K) (pv 10) (pe_un un_neg pe_int) (fun _ _ => rfl)) pa_nil)))
      (pss_cons (ps_if (pt_not (pt_val (pe_callN (ok_l_ledger_asked (P := P) (w := w) (base := base) T) hr (pa_cons (pv 2) (pa_cons (pv 5) (pa_cons (pv 6) (pa_cons (pv 10) (pa_cons (pv 4) pa_nil)))))))) (pss_one (ps_ret pe_bl)) pss_nil)
      (pss_cons (ps_asg (pe_tup (pa_cons pe_int (pa_cons pe_int (pa_cons (pe_callB (lenQ K) (by rfl) (fr_len T) PySem.boot_len (pa_cons (pv 10) pa_nil)) pa_nil)))) (pg_sub (pv 6) pe_int set_list))
      (pss_one (ps_if (pt_not (pt_val (pe_callN (ok_l_ledger_asked (P := P) (w := w) (base := base) T) hr (pa_cons (pv 2) (pa_cons (pv 5) (pa_cons (pv 6) (pa_cons (pv 10) (pa_cons (pe_op op_cat (pe_lst (pa_cons (pe_tup (pa_cons pe_int (pa_cons pe_int (pa_cons (pe_callB (lenQ K) (by rfl) (fr_len T) PySem.boot_len (pa_cons (pv 10) pa_nil)) pa_nil)))) pa_nil)) (pe_slice (slL K) (pv 4) (po_some pe_int) po_none)) pa_nil)))))))) (pss_one (ps_ret pe_bl)) pss_nil)))))) pss_nil)
      (pss_one (ps_ret (pe_callN (ok_l_ledger_asked (P := P) (w := w) (base := base) T) hr (pa_cons (pv 2) (pa_cons (pe_callTy (listQ K) (by rfl) (fr_list T) (by decide +kernel) (pa_cons (pv 3) pa_nil)) (pa_cons (pe_callTy (listQ K) (by rfl) (fr_list T) (by decide +kernel) (pa_cons (pv 4) pa_nil)) (pa_cons (pv 3) (pa_cons (pv 4) pa_nil)))))))))))))))))), ?_⟩
  have fin : ∀ H', Q (.bl true) H' := hQ
  refine q_build (ea_cons (ev_var rfl) ea_nil) hS hl fun rs sw m t a b H1 e1 ht hW hsm hrl hml ⟨ys, zs, hyT, hyt1, hzT, hzt1⟩ hnm => ?_
  refine q_asg (ev_op (ev_var rfl) ev_c (rv_ixT ht (atI_nat (j := 0) rfl))) fun H2 e2 => ?_
  refine q_asg (ev_op (ev_var rfl) ev_c (rv_ixT (ex_t e2 ht) (atI_nat (j := 1) rfl))) fun H3 e3 => ?_
  refine q_asg (ev_op (ev_var rfl) ev_c (rv_ixT (ex_t (e2.trans e3) ht) (atI_nat (j := 2) rfl))) fun H4 e4 => ?_
  have E4 := (e2.trans e3).trans e4
  have W4 := hW.ex E4
  have hyl := hyt1.len
  rw [List.length_map] at hyl
  have hzl := hzt1.len
  rw [List.length_map] at hzl
  have Y : ∀ {Hc : Hp}, Ex H4 Hc → SqL K Hc a ys ∧ TupsAt K Hc ys (rs.map rowL) := fun e => ⟨sq_of ((E4.trans e) _ _ hyT), hyt1.ex (E4.trans e)⟩
  have Z : ∀ {Hc : Hp}, Ex H4 Hc → SqL K Hc b zs ∧ TupsAt K Hc zs (sw.map swpL) := fun e => ⟨sq_of ((E4.trans e) _ _ hzT), hzt1.ex (E4.trans e)⟩
  refine q_asgL (el_listQ (ev_var rfl) (Y (Ex.refl H4)).1) fun g H6 ng e6 h6 => ?_
  refine q_asgL (el_listQ (ev_var rfl) (Z e6).1) fun k H7 nk e7 h7 => ?_
  have E7 := e6.trans e7
  refine q_whenF (et_not (a := true) (et_B (ev_asked (ev_var rfl) (evw_var (ev_var rfl) (sq_of (e7 _ _ h6)) (Y E7).2) (evw_var (ev_var rfl) (sq_of h7) (Z E7).2) (evw_var (ev_var rfl) (Y E7).1 (Y E7).2) (evw_var (ev_var rfl) (Z E7).1 (Z E7).2) W4.ok W4.few hsm hnm))) fun H8 e8 => ?_
  have E8 := E7.trans e8
  refine qd_asg (evd_callV (ea_cons (ev_var rfl) (ea_cons (ev_var rfl) (ea_cons (ev_var rfl) ea_nil))) (svd_ll (W4.ex E8) hsm)) fun v H9 e9 hv => ?_
  have E9 := E8.trans e9
  refine q_forR1' (n := (rs.length : Int) + 1) (ea_cons (ev_is (ev_op (ev_cb (ea_cons (ev_var rfl) ea_nil) (rc_lenL (Y E9).1)) ev_c rv_I0) (by rw [hyl])) ea_nil) (by omega)
    (fun i σ' H' => Ex H9 H' ∧ ∃ o8 o9, σ' = [some (.ref s), some (.ref t), some (.int (m : Int)), some (.ref a), some (.ref b), some (.ref g), some (.ref k), some v, o8, o9, none])
    (fun σ' H' => Ex H9 H' ∧ ∃ o8 o9, σ' = [some (.ref s), some (.ref t), some (.int (m : Int)), some (.ref a), some (.ref b), some (.ref g), some (.ref k), some v, o8, o9, none]) ?_ ?_ ?_ ?_
  · exact fun H10 e10 => ⟨e10, _, _, rfl⟩
  · rintro i σ' H10 hi ⟨e10, o8, o9, rfl⟩
    have hi' : i ≤ rs.length := by omega
    have hv10 := dp_ex e10 hv
    have E10 := E9.trans e10
    refine q_asg (v := .bl (upTo (lieOf rs sw m) i)) ?_ fun H11 e11 => ?_
    · rcases lie_kind rs sw m with h | ⟨j, h⟩
      · rw [h] at hv10 ⊢
        obtain rfl := dp_none hv10
        exact ev_orV (a := true) (b := true) (ev_is (ev_isN (ev_var rfl)) (by simp)) (fun z => nomatch z)
      · rw [h] at hv10 ⊢
        obtain rfl := dp_int hv10
        exact ev_orV (a := false) (ev_is (ev_isN (ev_var rfl)) (by simp)) fun _ => ev_op (ev_var rfl) (ev_var rfl) rv_I0
    have E11 := E10.trans e11
    have cutE : ∀ {σ : L2.St}, σ[3]? = some (some (.ref a)) → σ[8]? = some (some (.int (i : Int))) → EvW K (tSl (rSlL K) (tVar 3) tNoPart (tPart (tVar 8))) σ H11 ((rs.take i).map rowL) := fun r3 r8 => by
      have h1 := el_sl (K := K) (ev_var r3) eo_none (eo_some (ev_var r8)) (Y E11).1
      rw [cut_take (by omega)] at h1
      refine evw_L h1 ?_
      rw [List.map_take]
      exact tups_take i (Y E11).2
    have okn : RowsOk m (rs.take i) := fun r hr => W4.ok r (List.mem_of_mem_take hr)
    have ln : (rs.take i).length ≤ 1000 := by rw [List.length_take]; omega
    have hb := ev_bagsW (E := E0) (ev_var (σ := [some (.ref s), some (.ref t), some (.int (m : Int)), some (.ref a), some (.ref b), some (.ref g), some (.ref k), some v, some (.int (i : Int)), some (.bl (upTo (lieOf rs sw m) i)), none]) (H := H11) (i := 2) rfl) (cutE rfl rfl) (evw_T (etl_sweepW (E := E0) (ev_var (i := 2) rfl) (cutE rfl rfl) okn ln (by omega))) okn ⟨ln, by omega, by rw [sweepN_len]; omega⟩
    rw [begin_iff (sw := sw) W4.ok hi'] at hb
    exact s_whenF (et_not (a := true) (et_B (EvD.toB (evd_call (evds_cons (evd_b hb) (evds_cons (evd_b (ev_var rfl)) evds_nil)) (spd_same dn_b))))) fun H12 e12 => ⟨(e10.trans e11).trans e12, _, _, rfl⟩
  · rintro σ' H10 ⟨e10, o8, o9, rfl⟩
    exact ⟨e10, _, _, rfl⟩
  · rintro σ' H10 ⟨e10, o8, o9, rfl⟩
    have E10 := E9.trans e10
    refine q_cut (M := fun σ' H' => Ex H4 H' ∧ ∃ o10, σ' = [some (.ref s), some (.ref t), some (.int (m : Int)), some (.ref a), some (.ref b), some (.ref g), some (.ref k), some v, o8, o9, o10]) (s_when (et_test (ev_op (ev_var rfl) ev_c rv_I0)) (fun hc H11 e11 => ?_) (fun hc H11 e11 => ⟨E10.trans e11, _, rfl⟩)) ?_
    · have hm0 : (0 : Int) < (m : Int) := of_decide_eq_true hc
      have E11 := E10.trans e11
      obtain ⟨hz11, tz11⟩ := Z E11
      obtain ⟨z0, hz0, hs0⟩ := tz11.get (i := 0) (by simp; omega)
      have hsw0 : (sw.map swpL)[0]'(by simp; omega) = swpL (sw[0]'(by omega)) := by simp
      rw [hsw0] at hs0
      generalize hq0 : sw[0]'(by omega) = q0 at hs0
      let r' : Row := (0, q0.2.1, q0.2.2, 7)
      have hrs : rs.map rowL ++ [rowL r'] = (rs ++ [r']).map rowL := by simp
      have more := etl_catN (K := K) (ta := tVar 3) (tb := tLst (tCons (tTup (tCons (tC (.int 0)) (tCons (tOp (rIxT K) (tOp (rIxL K) (tVar 4) (tC (.int 0))) (tC (.int 1))) (tCons (tOp (rIxT K) (tOp (rIxL K) (tVar 4) (tC (.int 0))) (tC (.int 2))) (tCons (tC (.int 7)) tNil))))) tNil)) (σ := [some (.ref s), some (.ref t), some (.int (m : Int)), some (.ref a), some (.ref b), some (.ref g), some (.ref k), some v, o8, o9, none]) (ev_var rfl) ((E4.trans E11) _ _ hyT) (Y E11).2 (r2 := [rowL r']) (by simp; omega) (etl_one (etu_U (eu_tup (ea_cons ev_c (ea_cons (ev_op (ev_op (ev_var rfl) ev_c (rv_ixL hz11 (atI_nat (j := 0) hz0))) ev_c (rv_ixT (v := .int q0.2.1) hs0 rfl)) (ea_cons (ev_op (ev_op (ev_var rfl) ev_c (rv_ixL hz11 (atI_nat (j := 0) hz0))) ev_c (rv_ixT (v := .int q0.2.2) hs0 rfl)) (ea_cons ev_c ea_nil)))) (by simp)) rfl))
      rw [hrs] at more
      refine q_asgTL more fun w ws H12 nw e12 h12 t12 => ?_
      have E12 := E11.trans e12
      have hwl := t12.len
      rw [List.length_map, List.length_append, List.length_singleton] at hwl
      obtain ⟨y, hy1, hy2⟩ := t12.get (i := rs.length) (by simp)
      have hr1 : ((rs ++ [r']).map rowL)[rs.length]'(by simp) = rowL r' := by simp
      rw [hr1] at hy2
      have hlast : atI ws (-1) = some (.ref y) := by
        have hne : ws ≠ [] := fun z => by rw [z] at hwl; simp at hwl
        obtain ⟨us, u, rfl⟩ : ∃ us u, ws = us ++ [u] := ⟨ws.dropLast, ws.getLast hne, (List.dropLast_concat_getLast hne).symm⟩
        rw [atI_last]
        have : us.length = rs.length := by simp at hwl; omega
        rw [← this] at hy1
        simpa using hy1
      have g11 : H11 g = some (.lst ys) := (e7.trans (e8.trans (e9.trans (e10.trans e11)))) _ _ h6
      have k11 : H11 k = some (.lst zs) := (e8.trans (e9.trans (e10.trans e11))) _ _ h7
      refine q_app (e12 _ _ g11) (ev_var rfl) (ev_op (ev_var rfl) (ev_un ev_c ru_neg) (rv_ixL (sq_of h12) hlast)) (by omega) fun H13 e13 => ?_
      have gw : w ≠ g := fun z => by
        rw [← z, nw] at g11
        cases g11
      have kw : w ≠ k := fun z => by
        rw [← z, nw] at k11
        cases k11
      have kg : k ≠ g := fun z => by
        rw [z, h6] at nk
        cases nk
      have bg : b ≠ g := fun z => by
        have := E4 _ _ hzT
        rw [z, ng] at this
        cases this
      have bk : b ≠ k := fun z => by
        have := e6 _ _ (E4 _ _ hzT)
        rw [z, nk] at this
        cases this
      have hg13 : H13 g = some (.lst ys) := (e12.trans e13) _ _ g11
      have E13 := E12.trans e13
      have E14 : Ex H4 (upd H13 g (.lst (ys ++ [.ref y]))) := E13.mut ng
      have ty14 : TupsAt K (upd H13 g (.lst (ys ++ [.ref y]))) (ys ++ [.ref y]) ((rs ++ [r']).map rowL) := by
        rw [← hrs]
        exact ((Y E13).2.app (TupsAt.one (ex_t e13 hy2))).keep hg13 (by simp) (by simp)
      have tz14 := (Z E13).2.keep (o := .lst (ys ++ [.ref y])) hg13 (by simp) (by simp)
      have t14 := (t12.ex e13).keep (o := .lst (ys ++ [.ref y])) hg13 (by simp) (by simp)
      have okm : RowsOk m (rs ++ [r']) := fun r hr => by
        rcases List.mem_append.mp hr with hr | hr
        · exact W4.ok r hr
        · have : r = r' := by simpa using hr
          subst this
          exact ⟨Int.le_refl _, hm0⟩
      have fewm : (rs ++ [r']).length ≤ 1000 ∧ m ≤ 1000 ∧ sw.length ≤ 1000 := ⟨by simp; omega, by omega, by omega⟩
      have g14 : (upd H13 g (.lst (ys ++ [.ref y]))) g = some (.lst (ys ++ [.ref y])) := upd_same
      have k14 : (upd H13 g (.lst (ys ++ [.ref y]))) k = some (.lst zs) := by rw [upd_ne kg]; exact (e12.trans e13) _ _ k11
      have w14 : (upd H13 g (.lst (ys ++ [.ref y]))) w = some (.lst ws) := by rw [upd_ne gw]; exact e13 _ _ h12
      have b14 : (upd H13 g (.lst (ys ++ [.ref y]))) b = some (.lst zs) := by rw [upd_ne bg]; exact (E4.trans E13) _ _ hzT
      generalize upd H13 g (.lst (ys ++ [.ref y])) = H14 at E14 ty14 tz14 t14 g14 k14 w14 b14 ⊢
      refine q_whenF (et_not (a := true) (et_B (ev_asked (ev_var rfl) (evw_var (ev_var rfl) (sq_of g14) ty14) (evw_var (ev_var rfl) (sq_of k14) tz14) (evw_var (ev_var rfl) (sq_of w14) t14) (evw_var (ev_var rfl) (sq_of b14) tz14) okm fewm hsm hnm))) fun H15 e15 => ?_
      let s' : Swp := (0, 7, (rs ++ [r']).length)
      refine q_setTu (K := K) (r := swpL s') (j := 0) (e15 _ _ k14) (etu_U (eu_tup (ea_cons ev_c (ea_cons ev_c (ea_cons (ev_is (ev_cb (ea_cons (ev_var rfl) ea_nil) (rc_lenL (sq_of (e15 _ _ w14)))) (by rw [hwl]; simp [s'])) ea_nil))) (by simp)) rfl) (ev_var rfl) ev_c (by omega) fun u H16 e16 hu => ?_
      have hk16 := (e15.trans e16) _ _ k14
      have E16 : Ex H4 (upd H16 k (.lst (zs.set 0 (.ref u)))) := ((E14.trans e15).trans e16).mut (fresh_back e6 nk)
      have tk16 : TupsAt K (upd H16 k (.lst (zs.set 0 (.ref u)))) (zs.set 0 (.ref u)) ((sw.set 0 s').map swpL) := by
        rw [List.map_set]
        exact ((tz14.ex (e15.trans e16)).set hu).keep hk16 (by simp) (by simp)
      have ty16 := (ty14.ex (e15.trans e16)).keep (o := .lst (zs.set 0 (.ref u))) hk16 (by simp) (by simp)
      have t16 := (t14.ex (e15.trans e16)).keep (o := .lst (zs.set 0 (.ref u))) hk16 (by simp) (by simp)
      have tz16 := (tz14.ex (e15.trans e16)).keep (o := .lst (zs.set 0 (.ref u))) hk16 (by simp) (by simp)
      have gk : g ≠ k := fun z => kg z.symm
      have g16 : (upd H16 k (.lst (zs.set 0 (.ref u)))) g = some (.lst (ys ++ [.ref y])) := by rw [upd_ne gk]; exact (e15.trans e16) _ _ g14
      have w16 : (upd H16 k (.lst (zs.set 0 (.ref u)))) w = some (.lst ws) := by rw [upd_ne kw]; exact (e15.trans e16) _ _ w14
      have b16 : (upd H16 k (.lst (zs.set 0 (.ref u)))) b = some (.lst zs) := by rw [upd_ne bk]; exact (e15.trans e16) _ _ b14
      have k16 : (upd H16 k (.lst (zs.set 0 (.ref u)))) k = some (.lst (zs.set 0 (.ref u))) := upd_same
      generalize upd H16 k (.lst (zs.set 0 (.ref u))) = H17 at E16 tk16 ty16 t16 tz16 g16 w16 b16 k16 ⊢
      have hset : sw.set 0 s' = [s'] ++ sw.drop 1 := by
        cases sw with
        | nil => simp at hsm; omega
        | cons x r => rfl
      have hcutz := cut_one (ys := zs) (by omega)
      have tzd : TupsAt K H17 (zs.drop 1) ((sw.drop 1).map swpL) := by
        rw [List.map_drop]
        exact tz16.drop 1
      have hsl : (sw.set 0 s').length = m := by rw [List.length_set]; exact hsm
      have hns : Named (sw.set 0 s') := fun j hj => by
        rw [List.length_set] at hj
        rw [List.getElem_set]
        by_cases h0 : 0 = j
        · subst h0
          rw [if_pos rfl]
          rfl
        · rw [if_neg h0]
          exact hnm j hj
      have fews : (rs ++ [r']).length ≤ 1000 ∧ m ≤ 1000 ∧ (sw.set 0 s').length ≤ 1000 := ⟨by simp; omega, by omega, by omega⟩
      have hnew : EvTL K (tOp rCat (tLst (tCons (tTup (tCons (tC (.int 0)) (tCons (tC (.int 7)) (tCons (tCB (rLenQ K) (tCons (tVar 10) tNil)) tNil)))) tNil)) (tSl (rSlL K) (tVar 4) (tPart (tC (.int 1))) tNoPart)) [some (.ref s), some (.ref t), some (.int (m : Int)), some (.ref a), some (.ref b), some (.ref g), some (.ref k), some v, o8, o9, some (.ref w)] H17 ((sw.set 0 s').map swpL) := by
        rw [hset, List.map_append]
        exact etl_catL (etl_one (etu_U (eu_tup (ea_cons ev_c (ea_cons ev_c (ea_cons (ev_is (ev_cb (ea_cons (ev_var rfl) ea_nil) (rc_lenL (sq_of w16))) (by rw [hwl]; simp [s'])) ea_nil))) (by simp)) rfl)) (hcutz ▸ el_sl (ev_var rfl) (eo_some ev_c) eo_none (sq_of b16)) tzd (by simp; omega)
      exact s_whenF (et_not (a := true) (et_B (ev_asked (ev_var rfl) (evw_var (ev_var rfl) (sq_of g16) ty16) (evw_var (ev_var rfl) (sq_of k16) tk16) (evw_var (ev_var rfl) (sq_of w16) t16) (evw_T hnew) okm fews hsl hns))) fun H18 e18 => ⟨E16.trans e18, _, rfl⟩
    · rintro σ' H11 ⟨E11, o, rfl⟩
      exact s_ret (ev_asked (ev_var rfl) (evw_L (el_listQ (ev_var rfl) (Y E11).1) (Y E11).2) (evw_L (el_listQ (ev_var rfl) (Z E11).1) (Z E11).2) (evw_var (ev_var rfl) (Y E11).1 (Y E11).2) (evw_var (ev_var rfl) (Z E11).1 (Z E11).2) W4.ok W4.few hsm hnm) fun H12 _ => fin H12
theorem ok_law (T : TX K mg) : DefOk P w K mg base (6) "law" ["_law_script"] [] (spLaw K) := by
  obtain ⟨fd, F, h⟩ := fn_law (P := P) (w := w) (base := base) T
  exact DefOk.of F (gl_law T) (F.bindsN fun _ _ _ _ _ _ us hl => match us, hl with | [_], _ => rfl) h
end

/-! ### the head -/
def loose : List PySem.Str := (["left_tuples", "found_tuples", "bags_agree", "first_lie", "is_first_lie", "last_left", "_law_number", "_law_is_whole", "_law_same", "_law_ledger_left", "_law_ledger_swap", "_law_ledger_spoil", "_law_ledger_build", "_law_ledger_lie", "_law_ledger_bags", "_law_ledger_sweep"] : List PySem.Str) ++ (["_law_ledger_asked"] : List PySem.Str)
abbrev R : PySem.W.OpenRow := PySem.W.OpenLaw.row PySem.Challenge.rw_lentpages_k54_whole_bags_and_lies
abbrev hk : PySem.W.Hook := He.hookD 5 fas fns
def ob (s : PySem.W.SharedT) : He.AlD := He.obsDG 5 fas fns (HandSHeadRun.getT s)
theorem ob_eq (s : PySem.W.SharedT) : ob s = hk.obs s.abs := He.obsDG_eq (HandSHeadRun.getT_eq s)
theorem run (w : World) : HandSHeadRun.RunEq R (PySem.W.view R.prog [19]) hk ob 2000 loose w := by
  intro os
  kernel_rfl
end Law
open PySem PySem.W PySem.Calls PyProof.Rows
theorem PySem.Challenge.cw_lentpages_k54_whole_bags_and_lies_holds : PySem.Challenge.rw_lentpages_k54_whole_bags_and_lies.Holds := by
  w_on; o_law
  refine HandSHeadRun.head_any (r := OpenLaw.row PySem.Challenge.rw_lentpages_k54_whole_bags_and_lies) (q := view (OpenLaw.row PySem.Challenge.rw_lentpages_k54_whole_bags_and_lies).prog [19]) (H := Law.hk) (ob := Law.ob) (M := 2000) (loose := Law.loose) (d := HandSHeadRun.topDef (OpenLaw.row PySem.Challenge.rw_lentpages_k54_whole_bags_and_lies).prog 19) (kwd := []) Law.ob_eq
    (by kernel_rfl) (fun s => by kernel_rfl) Law.run (by kernel_rfl) (by kernel_rfl) (by kernel_rfl) (by rfl) (by first | assumption | decide +kernel) (by decide +kernel) ⟨rfl, rfl, rfl, rfl, rfl, by decide +kernel⟩ ?hw ?hc
  case hw => w_witness2
  case hc =>
    refine L2.walk_ofE (l := PySem.Challenge.rw_lentpages_k54_whole_bags_and_lies) (n := 63) (k := 6) (x := "_law_script") (CX := L2.CX0) rfl (by decide) (by kernel_rfl) ⟨rfl, by decide, by decide⟩ ?F (fun _ _ _ _ z => z)
    intro w mg fa h Y G hmg0
    obtain ⟨K, KX, c⟩ := Y
    have hmg : mg ("law" : PySem.Str) = some (.ref fa) := by
      have e : (HandSHeadRun.topDef (OpenLaw.row PySem.Challenge.rw_lentpages_k54_whole_bags_and_lies).prog 19).name = ("law" : PySem.Str) := by kernel_rfl
      rw [← e]
      exact hmg0
    have T : Law.TX K mg := My.Tx.mk' KX G c
    have e := hmg.symm.trans (Law.gl_law T)
    cases e
    obtain ⟨fd, F, _⟩ := Law.fn_law (P := (PySem.Challenge.rw_lentpages_k54_whole_bags_and_lies).prog) (w := w) (base := h) T
    exact ⟨K, fd, My.spLaw K, KX, fun s v => L2.FunD.bindsA (ps := ["_law_script"]) F (fun _ _ _ _ _ _ us hl => match us, hl with | [_], _ => rfl) s [v] rfl, fun H a ns hl _ hS => ⟨a, ns, rfl, hS, hl, fun _ => rfl⟩, fun base _ _ => by
      obtain ⟨fd2, F2, h2⟩ := Law.fn_law (P := (PySem.Challenge.rw_lentpages_k54_whole_bags_and_lies).prog) (w := w) (base := base) T
      have ef := My.FunD.same F F2
      subst ef
      exact h2⟩
#print axioms PySem.Challenge.cw_lentpages_k54_whole_bags_and_lies_holds
