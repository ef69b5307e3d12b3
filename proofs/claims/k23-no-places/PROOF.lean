import PyProof.Rows.All
import Wide.All
import OpenK.AllK
import Wide.FinOn
import Lean
import HandS.ForMost
import HandS.ForExc
import HandS.Wide
import HandS.WideBits
import HandS.TupAny
import HandS.TupMul
import HandS.Deep
import HandS.IsInst
import HandS.ExcIs
import HandS.Style
import HandS.Codes
import HandS.Conv
import HandS.SetFor
import HandS.Zip
import HandS.Defaults
import HandS.Small
import HandS.HeadEnd
import HandS.HeadHook1
import HandS.HeadHook2
import HandS.HeadHook3
import HandS.HeadHook4
import HandS.Head0
import HandS.Head1
import HandS.Head2
import PySem.Challenge.RW_surecount_k23_no_places
set_option Elab.async false
set_option linter.all false
set_option maxRecDepth 100000
set_option maxHeartbeats 4000000
/-! ### own short words over the hand layer -/
namespace Gx
open PySem PySem.Spec PyProof.Rows L2
/-- all but l stays -/
def But (l : Addr) (H H' : Hp) : Prop := ∀ a o, a ≠ l → H a = some o → H' a = some o
theorem But.of {H H' : Hp} {l : Addr} (e : Same H H') : But l H H' := fun a o _ h => e a o h
theorem But.trans {H H1 H2 : Hp} {l : Addr} (a : But l H H1) (b : But l H1 H2) : But l H H2 := fun c o n h => b c o n (a c o n h)
theorem But.upd {H : Hp} {l : Addr} {o : HO} : But l H (upd H l o) := fun a u n h => by
  rw [upd_ne n]
  exact h
theorem same_new {H : Hp} {p : Addr} {o : HO} (h : H p = none) : Same H (upd H p o) := fun b u q => by
  rw [upd_ne (ne_of_none q h)]
  exact q
theorem But.same {H H1 H2 : Hp} {l : Addr} (n : H l = none) (a : Same H H1) (b : But l H1 H2) : Same H H2 := fun c o h => b c o (ne_of_none h n) (a c o h)
/-! ### reading facts through heaps -/
theorem up_same {H H' : Hp} (e : Same H H') {a : Addr} {o : HO} (h : H a = some o) : H' a = some o := e a o h
theorem up_but {H H' : Hp} {l : Addr} (e : But l H H') {a : Addr} {o : HO} (n : a ≠ l) (h : H a = some o) : H' a = some o := e a o n h
theorem seqL_same {K : PySem.W.Frag} {H H' : Hp} (e : Same H H') {a : Addr} {xs : List V} (h : SqL K H a xs) : SqL K H' a xs := e.seq h
theorem seqT_same {K : PySem.W.Frag} {H H' : Hp} (e : Same H H') {a : Addr} {xs : List V} (h : SqT K H a xs) : SqT K H' a xs := by
  rcases h with (h | ⟨o, h⟩) | h
  · exact .inl (.inl (e _ _ h))
  · exact .inl (.inr ⟨o, e _ _ h⟩)
  · exact .inr h
/-- tuples stay while a list changes -/
theorem seqT_but {K : PySem.W.Frag} {H H' : Hp} {l : Addr} {ys : List V} (e : But l H H') (hl : H l = some (.lst ys)) {a : Addr} {xs : List V} (h : SqT K H a xs) : SqT K H' a xs := by
  rcases h with (h | ⟨o, h⟩) | h
  · exact .inl (.inl (e _ _ (ne_of h hl (by intro z; cases z)) h))
  · exact .inl (.inr ⟨o, e _ _ (ne_of h hl (by intro z; cases z)) h⟩)
  · exact .inr h
theorem seqL_but {K : PySem.W.Frag} {H H' : Hp} {l : Addr} (e : But l H H') {a : Addr} (n : a ≠ l) {xs : List V} (h : SqL K H a xs) : SqL K H' a xs := by
  rcases h with (h | ⟨o, h⟩) | h
  · exact .inl (.inl (e _ _ n h))
  · exact .inl (.inr ⟨o, e _ _ n h⟩)
  · exact .inr h
/-! ### data through heaps -/
mutual
theorem dp_same {K : PySem.W.Frag} {H H' : Hp} (e : Same H H') : ∀ {d : PyData} {v : V}, Dp K H v d → Dp K H' v d
  | _, _, .non => .non
  | _, _, .bl b => .bl b
  | _, _, .int i => .int i
  | _, _, .str x => .str x
  | _, _, .lst h a => .lst (seqL_same e h) (dpAll_same e a)
  | _, _, .tup h a => .tup (seqT_same e h) (dpAll_same e a)
theorem dpAll_same {K : PySem.W.Frag} {H H' : Hp} (e : Same H H') : ∀ {ds : List PyData} {vs : List V}, DpAll K H vs ds → DpAll K H' vs ds
  | _, _, .nil => .nil
  | _, _, .cons a r => .cons (dp_same e a) (dpAll_same e r)
end
/-! data without lists -/
mutual
def noL : PyData → Bool
  | .list _ => false
  | .tuple ds => noLs ds
  | _ => true
def noLs : List PyData → Bool
  | [] => true
  | d :: ds => noL d && noLs ds
end
mutual
theorem dp_but {K : PySem.W.Frag} {H H' : Hp} {l : Addr} {ys : List V} (e : But l H H') (hl : H l = some (.lst ys)) : ∀ {d : PyData} {v : V}, noL d = true → Dp K H v d → Dp K H' v d
  | _, _, _, .non => .non
  | _, _, _, .bl b => .bl b
  | _, _, _, .int i => .int i
  | _, _, _, .str x => .str x
  | _, _, n, .lst h a => by simp [noL] at n
  | _, _, n, .tup h a => .tup (seqT_but e hl h) (dpAll_but e hl (by simpa [noL] using n) a)
theorem dpAll_but {K : PySem.W.Frag} {H H' : Hp} {l : Addr} {ys : List V} (e : But l H H') (hl : H l = some (.lst ys)) : ∀ {ds : List PyData} {vs : List V}, noLs ds = true → DpAll K H vs ds → DpAll K H' vs ds
  | _, _, _, .nil => .nil
  | _, _, n, .cons a r => by
    simp [noLs] at n
    exact .cons (dp_but e hl n.1 a) (dpAll_but e hl n.2 r)
end
theorem tyof_same {K : PySem.W.Frag} {H H' : Hp} (e : Same H H') {x : V} {t : Value} (h : TyOf K H x t) : TyOf K H' x t := by
  cases h with
  | non => exact .non
  | bl x => exact .bl x
  | int i => exact .int i
  | str x => exact .str x
  | flt x => exact .flt x
  | lst h => exact .lst (e _ _ h)
  | frz h => exact .frz (e _ _ h)
  | tup h => exact .tup (e _ _ h)
  | dK h => exact .dK (e _ _ h)
  | dT h => exact .dT (e _ _ h)
  | ins h cl ha hn htk hm => exact .ins (e _ _ h) cl ha hn htk hm
theorem tyx_same {K : PySem.W.Frag} {H H' : Hp} (e : Same H H') {x : V} {t : Value} (h : TyX K H x t) : TyX K H' x t := by
  cases h with
  | base h => exact .base (tyof_same e h)
  | byt b => exact .byt b
  | set h => exact .set (e _ _ h)
  | kList h c => exact .kList h c
  | kTuple h c => exact .kTuple h c
  | kDict h c => exact .kDict h c
  | fTuple h => exact .fTuple (e _ _ h)
  | fDict h => exact .fDict (e _ _ h)
/-! ### a def that may be called -/
structure Cl (P : Program) (w : World) (K : PySem.W.Frag) (mg : Str → Option Value) (base : Heap) (k : Nat) (x : Str) (ps : List Str) (sp : Sp) : Prop where
  ex : ∃ f fd, FnOk P w K mg base (L2.CX P w) k f fd ps sp ∧ mg x = some (.ref f) ∧ PySem.W.keepIn K (.ref f) = true ∧ Binds K fd ps []
section
variable {X : Cx} {W : WX} {e : Expr} {es : List Expr} {p pos : Pos} {t : TA} {x : Str} {ps : List Str} {sp : Sp} {j k : Nat}
theorem pcall (c : Cl X.prog X.w X.K X.mg X.base k x ps sp) (hr : Room j X.A) (hk : k ≤ j) (tk : Takes X W) (ha : PA X (e :: es) t) (hg : Gl X x := by rfl)
    (he : starEach (e :: es) X.env = (false, eval e X.env) :: starEach es X.env := by rfl) (hpl : (backTo pos (starEach es X.env)).any (·.1) = false := by rfl) (hdb : (x == ("__debug__" : Str)) = false := by decide) :
    PE X (.Call (.Name x p) (e :: es) [] pos) (tCallS sp (WE W) t) := by
  obtain ⟨f, fd, F, m, kp, b⟩ := c.ex
  exact pe_callS F (hr.mono hk) hg m kp b (fun σ => passAt tk σ) ha hdb he hpl
theorem pcall0 (c : Cl X.prog X.w X.K X.mg X.base k x ps sp) (hr : Room j X.A) (hk : k ≤ j) (hg : Gl X x := by rfl) (hdb : (x == ("__debug__" : Str)) = false := by decide) :
    PE X (.Call (.Name x p) [] [] pos) (tCall sp [] E0 tNil) := by
  obtain ⟨f, fd, F, m, kp, b⟩ := c.ex
  exact pe_call0 F (hr.mono hk) hg m kp b .nil passL hdb
/-- where nothing may be raised -/
theorem pcallN (c : Cl X.prog X.w X.K X.mg X.base k x ps sp) (hr : Room j X.A) (hk : k ≤ j) (ha : PA X (e :: es) t) (hg : Gl X x := by rfl)
    (he : starEach (e :: es) X.env = (false, eval e X.env) :: starEach es X.env := by rfl) (hpl : (backTo pos (starEach es X.env)).any (·.1) = false := by rfl) (hdb : (x == ("__debug__" : Str)) = false := by decide) :
    PE X (.Call (.Name x p) (e :: es) [] pos) (tCall sp [] E0 t) := by
  obtain ⟨f, fd, F, m, kp, b⟩ := c.ex
  exact pe_call F (hr.mono hk) hg m kp b .nil passL ha hdb he hpl
end
/-- a recursion: nothing is promised at 0 -/
theorem fn_void {P : Program} {w : World} {K : PySem.W.Frag} {mg : Str → Option Value} {base : Heap} {CX : CXT} {k : Nat} {f : Addr} {fd : FuncData} {ps : List Str} {sp : Sp} (h : ∀ vs H Q E, ¬ sp vs H Q E) : FnOk P w K mg base CX k f fd ps sp :=
  ⟨fun vs H Q E z => (h vs H Q E z).elim, fun _ _ _ H _ _ vs Q E _ _ _ _ z => (h vs H Q E z).elim⟩
/-! ### operators, joined -/
section
variable {X : Cx}
def rAddU (K : PySem.W.Frag) : R2 := fun x y H Q => (∃ i j, x = .int i ∧ y = .int j ∧ Q (.int (i + j)) H) ∨ (∃ i j, x = .str i ∧ y = .str j ∧ i.length + j.length ≤ sizeLine ∧ Q (.str (i ++ j)) H) ∨ rCat x y H Q ∨ rCatA K x y H Q
theorem op_addU : OpR X (binaryOp .Add) (rAddU X.K) := op_add.or (op_add_str.or (op_cat.or op_catA))
def rMulU (K : PySem.W.Frag) : R2 := fun x y H Q => (∃ i j, x = .int i ∧ y = .int j ∧ CMulX i j ∧ Q (.int (i * j)) H) ∨ rRep x y H Q ∨ rRepT K x y H Q
theorem op_mulU : OpR X (binaryOp .Mult) (rMulU X.K) := op_mulX.or (op_rep.or op_repT)
def rEqU (K : PySem.W.Frag) : R2 := fun x y H Q => rEq x y H Q ∨ rEqD K x y H Q
def rNeU (K : PySem.W.Frag) : R2 := fun x y H Q => rNe x y H Q ∨ rNeD K x y H Q
theorem op_eqU {k : Nat} (hr : Room k X.A) : OpR X (compareOp .Eq) (rEqU X.K) := op_eq.or (op_eqD hr.units)
theorem op_neU {k : Nat} (hr : Room k X.A) : OpR X (compareOp .NotEq) (rNeU X.K) := op_ne.or (op_neD hr.units)
def CDivG (i j : Int) : Prop := j ≠ 0 ∧ Builtin.divisionGoesByPylong i j = false
theorem noPy_low {i j : Int} (h : j.natAbs < 2 ^ 9000) : Builtin.divisionGoesByPylong i j = false := PyProof.noPylong_of_log2 (PySem.Flt.log2_lt_of (by decide) h)
theorem noPy_mid {i j : Int} (h : i.natAbs < 2 ^ 13500) : Builtin.divisionGoesByPylong i j = false := by
  have e := PySem.Flt.log2_lt_of (by decide) h
  unfold Builtin.divisionGoesByPylong
  simp only [Bool.and_eq_false_iff, decide_eq_false_iff_not]
  by_cases c : j = 0
  · left; simp [c]
  · by_cases c2 : i = 0
    · right; simp [c2]
    · simp [c, c2]; omega
theorem op_fdivG : OpR X (binaryOp .FloorDiv) (rI CDivG fun i j => .int (i.fdiv j)) := opI fun i j _ _ _ _ _ hc q => floordiv_int hc.1 q (.inl hc.2)
end
/-- walking a list or a tuple -/
def rItU (K : PySem.W.Frag) (x : V) (H : Hp) (R : It → Hp → Prop) : Prop := ∃ a, x = .ref a ∧ (((∃ xs, SqL K H a xs) ∧ R (Itl K a) H) ∨ ((∃ xs, SqT K H a xs) ∧ R (Itt K a) H))
def iSeqU (K : PySem.W.Frag) (tl : TE) : TI := fun σ H R => tl σ H fun x H1 => rItU K x H1 R
theorem pi_seqU {X : Cx} {tg l : Expr} {tl : TE} (hl : PE X l tl) : PI X tg l (iSeqU X.K tl) :=
  ⟨fun pins s σ H R I h => thn (hl.run pins s σ H _ I h) fun v s1 z => by
    obtain ⟨x, H1, I1, r1, a, e, z⟩ := z
    cases e
    cases r1
    have fp : ∀ b ∈ [s1.heap.objs.size], FpOk X pins H1 b := fun b hb => by
      obtain rfl : b = s1.heap.objs.size := by simpa using hb
      exact I1.fpOk (Nat.le_refl _) (I1.hok.fresh (Nat.le_refl _))
    rcases z with ⟨⟨xs, hq⟩, q⟩ | ⟨⟨xs, hq⟩, q⟩
    · obtain ⟨its, _, pl, _⟩ := I1.list hq
      exact wpAny_pyIter_list pl.isList ⟨_, [s1.heap.objs.size], _, _, H1, rfl, I1.kept (t' := s1.toks) (fun b o w => Heap.get?_push_of_some _ w), turn_list a _, ⟨_, Heap.get?_push_size _ rfl, rfl, rfl⟩, fp, q⟩
    · obtain ⟨its, _, pt, _⟩ := I1.tuple hq
      exact wpAny_pyIter_tuple (show s1.heap.IsTuple a its.toArray from pt) ⟨_, [s1.heap.objs.size], _, _, H1, rfl, I1.kept (t' := s1.toks) (fun b o w => Heap.get?_push_of_some _ w), turn_tuple a _, ⟨_, Heap.get?_push_size _ rfl, rfl, rfl⟩, fp, q⟩⟩
/-- a tuple's type, a list's type -/
theorem ty_tup {K : PySem.W.Frag} {H : Hp} {p : Addr} {xs : List V} (h : SqT K H p xs) : TyX K H (.ref p) (.type "tuple") := by
  rcases h with (h | ⟨o, h⟩) | ⟨o, its, n, h, c, _⟩
  · exact .base (.tup h)
  · exact .fTuple h
  · exact .kTuple h c
theorem ty_lst {K : PySem.W.Frag} {H : Hp} {p : Addr} {xs : List V} (h : SqL K H p xs) : TyX K H (.ref p) (.type "list") := by
  rcases h with (h | ⟨o, h⟩) | ⟨o, its, n, h, c, _⟩
  · exact .base (.lst h)
  · exact .base (.frz h)
  · exact .kList h c
/-- isinstance(e, c), e the error that a suite holds, its class cls, its dict d -/
def rIsEU (K : PySem.W.Frag) (a : Addr) (cls : Value) (d : Option Addr) : List V → Hp → VK → Prop := fun xs H Q => ∃ D : Addr, cls = .ref D ∧ d = none ∧ ExcC K D ∧ rIsE K D a xs H Q
theorem call_isEU {X : Cx} {a : Addr} {cls : Value} {d : Option Addr} {oe : Obj} {pn : List (Addr × Obj)} (hz : Zc cls d oe) (hf : ∃ vs, oe.data = .fields vs) : CallR (X.suite a ((a, oe) :: pn)) (.builtin "isinstance") (rIsEU X.K a cls d) := by
  intro pins s σ H xs us Q I r h
  obtain ⟨D, rfl, rfl, C, h⟩ := h
  exact call_isE C hz hf pins s σ H xs us Q I r h
theorem k_isE {K : PySem.W.Frag} {H : Hp} {Q : VK} {a D : Addr} {c : V} {cv : Value} {b : Bool} (C : ExcC K D) (hk : PySem.W.kitOne K (.ref D) cv = some b) (hc : ∀ u, RelV c u → u = cv) (q : Q (.bl b) H) : rIsEU K a (.ref D) none [.ref a, c] H Q := ⟨D, rfl, rfl, C, c, cv, b, rfl, hc, hk, q⟩
def excB (K : PySem.W.Frag) (x : Str) : Bool := He.eqO (PySem.W.findIn K (.ref (He.ga K x)) "__getattribute__") (some (some (.builtin "BaseException.__getattribute__"))) && (He.eqO (PySem.W.findIn K (.ref (He.ga K x)) "__getattr__") (some none) &&
  (decide (PySem.W.subIn K (.ref (He.ga K x)) (.type "BaseException") = some true) && (PySem.W.hasDictIn K (He.ga K x) && (He.eqO (PySem.W.findIn K (.ref (He.ga K x)) "__class__") (some (some (.builtin "object.__class__"))) &&
  (He.eqO (PySem.W.specialIn K (.builtin "object.__class__") "__get__") (some (some (.builtin "getset_descriptor.__get__"))) && (decide (PySem.W.takesIn K (.builtin "object.__class__") = some true) && decide (PySem.W.mroIn K (He.ga K x) (.type "object") = some true)))))))
theorem excB_ok {K : PySem.W.Frag} {x : Str} (h : excB K x = true) : ExcC K (He.ga K x) := by
  unfold excB at h
  obtain ⟨h1, h⟩ := He.ba h
  obtain ⟨h2, h⟩ := He.ba h
  obtain ⟨h3, h⟩ := He.ba h
  obtain ⟨h4, h⟩ := He.ba h
  obtain ⟨h5, h⟩ := He.ba h
  obtain ⟨h6, h⟩ := He.ba h
  obtain ⟨h7, h8⟩ := He.ba h
  exact ⟨He.eqO_ok h1, He.eqO_ok h2, of_decide_eq_true h3, h4, He.eqO_ok h5, He.eqO_ok h6, of_decide_eq_true h7, of_decide_eq_true h8⟩
def kitB2 (K : PySem.W.Frag) (x : Str) (c : Value) (b : Bool) : Bool := decide (PySem.W.kitOne K (.ref (He.ga K x)) c = some b)
theorem xat {K : PySem.W.Frag} {l : List (PySem.W.Frag → Bool)} (h : (l.all fun f => f K) = true) (i : Nat) {f : PySem.W.Frag → Bool} (e : l[i]? = some f) : f K = true := List.all_eq_true.mp h f (List.mem_of_getElem? e)
/-! ### readings, step by step -/
section
variable {σ : L2.St} {H : Hp} {Q : VK} {v : V} {ta tb tc te : TE} {tt tu : TT} {K : PySem.W.Frag} {i j : Nat}
theorem k_var (h : σ[i]? = some (some v)) (q : Q v H) : tVar i σ H Q := ⟨v, h, q⟩
theorem k_c (q : Q v H) : tC v σ H Q := q
theorem k_op {r : R2} (q : ta σ H fun x H1 => tb σ H1 fun y H2 => r x y H2 Q) : tOp r ta tb σ H Q := q
theorem k_un {r : V → Hp → VK → Prop} (q : ta σ H fun x H1 => r x H1 Q) : tUn r ta σ H Q := q
theorem k_neg {a : Int} (q : Q (.int (-a)) H) : rU (fun i => .int (-i)) (.int a) H Q := ⟨a, rfl, q⟩
theorem k_I0 {g : Int → Int → V} {a b : Int} (q : Q (g a b) H) : rI0 g (.int a) (.int b) H Q := ⟨a, b, rfl, rfl, q⟩
theorem k_I {C : Int → Int → Prop} {g : Int → Int → V} {a b : Int} (q : Q (g a b) H) (c : C a b) : rI C g (.int a) (.int b) H Q := ⟨a, b, rfl, rfl, c, q⟩
theorem k_addI {a b : Int} (q : Q (.int (a + b)) H) : rAddU K (.int a) (.int b) H Q := .inl ⟨a, b, rfl, rfl, q⟩
theorem k_addS {a b : Str} (q : Q (.str (a ++ b)) H) (c : a.length + b.length ≤ sizeLine) : rAddU K (.str a) (.str b) H Q := .inr (.inl ⟨a, b, rfl, rfl, c, q⟩)
theorem k_addL {a b : Addr} {xs ys : List V} (ha : H a = some (.lst xs)) (hb : H b = some (.lst ys)) (q : ∀ p H', H p = none → Same H H' → H' p = some (.lst (xs ++ ys)) → Q (.ref p) H') (c : xs.length + ys.length ≤ sizeLine) : rAddU K (.ref a) (.ref b) H Q :=
  .inr (.inr (.inl ⟨a, b, xs, ys, rfl, rfl, ha, hb, c, fun p hp => q p _ hp (same_new hp) upd_same⟩))
theorem k_addT {a b : Addr} {xs ys : List V} (ha : SqT K H a xs) (hb : SqT K H b ys) (hx : xs ≠ []) (hy : ys ≠ []) (q : ∀ p H', H p = none → Same H H' → H' p = some (.tup (xs ++ ys)) → Q (.ref p) H') (c : xs.length + ys.length ≤ sizeLine) : rAddU K (.ref a) (.ref b) H Q :=
  .inr (.inr (.inr ⟨a, b, xs, ys, rfl, rfl, ha, hb, c, fun e => absurd e hx, fun _ e => absurd e hy, fun _ _ p hp => q p _ hp (same_new hp) upd_same⟩))
theorem k_mulI {a b : Int} (q : Q (.int (a * b)) H) (c : CMulX a b) : rMulU K (.int a) (.int b) H Q := .inl ⟨a, b, rfl, rfl, c, q⟩
theorem k_eqS {x y : V} (h : scal x y = true) (q : Q (.bl (decide (x = y))) H) : rEqU K x y H Q := .inl ⟨h, q⟩
theorem k_neS {x y : V} (h : scal x y = true) (q : Q (.bl (!decide (x = y))) H) : rNeU K x y H Q := .inl ⟨h, q⟩
theorem dec_int {a b : Int} : decide (V.int a = V.int b) = decide (a = b) := by
  by_cases h : a = b
  · rw [h] <;> simp
  · rw [decide_eq_false h, decide_eq_false (fun e => h (V.int.inj e))]
theorem dec_str {a b : Str} : decide (V.str a = V.str b) = decide (a = b) := by
  by_cases h : a = b
  · rw [h] <;> simp
  · rw [decide_eq_false h, decide_eq_false (fun e => h (V.str.inj e))]
theorem dec_bl {a b : Bool} : decide (V.bl a = V.bl b) = decide (a = b) := by
  cases a <;> cases b <;> decide
theorem k_eqI {a b : Int} (q : Q (.bl (decide (a = b))) H) : rEqU K (.int a) (.int b) H Q := k_eqS rfl (by rw [dec_int]; exact q)
theorem k_neI {a b : Int} (q : Q (.bl (!decide (a = b))) H) : rNeU K (.int a) (.int b) H Q := k_neS rfl (by rw [dec_int]; exact q)
theorem k_eqT {a b : Str} (q : Q (.bl (decide (a = b))) H) : rEqU K (.str a) (.str b) H Q := k_eqS rfl (by rw [dec_str]; exact q)
theorem k_neT {a b : Str} (q : Q (.bl (!decide (a = b))) H) : rNeU K (.str a) (.str b) H Q := k_neS rfl (by rw [dec_str]; exact q)
theorem k_eqB {a b : Bool} (q : Q (.bl (decide (a = b))) H) : rEqU K (.bl a) (.bl b) H Q := k_eqS rfl (by rw [dec_bl]; exact q)
theorem k_neB {a b : Bool} (q : Q (.bl (!decide (a = b))) H) : rNeU K (.bl a) (.bl b) H Q := k_neS rfl (by rw [dec_bl]; exact q)
theorem k_eqD {x y : V} {d e : PyData} (hx : Dp K H x d) (hy : Dp K H y e) (q : Q (.bl (PyData.eqv d e)) H) (s1 : SeqAt.shaped d = true) (s2 : SeqAt.shaped e = true) : rEqU K x y H Q := .inr ⟨d, e, hx, hy, s1, s2, q⟩
theorem k_neD {x y : V} {d e : PyData} (hx : Dp K H x d) (hy : Dp K H y e) (q : Q (.bl (!PyData.eqv d e)) H) (s1 : SeqAt.shaped d = true) (s2 : SeqAt.shaped e = true) : rNeU K x y H Q := .inr ⟨d, e, hx, hy, s1, s2, q⟩
theorem k_in0 {x : V} {p : Addr} {xs : List V} {b : Bool} (h : SqL K H p xs ∨ SqT K H p xs) (hx : flatV x = true) (ha : xs.all flatV = true) (e : inV x xs = b) (q : Q (.bl b) H) : rIn K false x (.ref p) H Q := ⟨p, xs, rfl, h, hx, ha, by rw [e]; exact q⟩
theorem k_ni0 {x : V} {p : Addr} {xs : List V} {b : Bool} (h : SqL K H p xs ∨ SqT K H p xs) (hx : flatV x = true) (ha : xs.all flatV = true) (e : inV x xs = b) (q : Q (.bl (!b)) H) : rIn K true x (.ref p) H Q := ⟨p, xs, rfl, h, hx, ha, by rw [e]; exact q⟩
/-- True stands in no list of False -/
theorem k_notIn {p : Addr} {xs : List V} (h : SqL K H p xs) (ha : xs.all flatV = true) (e : inV (.bl true) xs = false) (q : Q (.bl true) H) : rIn K true (.bl true) (.ref p) H Q := k_ni0 (.inl h) rfl ha e q
/-- tests -/
theorem k_tst {Q : Bool → Hp → Prop} (q : te σ H fun x H' => ∃ k, x = .bl k ∧ Q k H') : tTest te σ H Q := q
theorem k_B {Q : Bool → Hp → Prop} (q : te σ H fun x H' => ∃ k, x = .bl k ∧ Q k H') : tB te σ H Q := q
theorem k_bl {Q : Bool → Prop} {b : Bool} (q : Q b) : ∃ k, V.bl b = .bl k ∧ Q k := ⟨b, rfl, q⟩
theorem k_and {Q : Bool → Hp → Prop} (q : tt σ H fun c H1 => if c = true then tu σ H1 Q else Q false H1) : tAnd tt tu σ H Q := q
theorem k_or {Q : Bool → Hp → Prop} (q : tt σ H fun c H1 => if c = true then Q true H1 else tu σ H1 Q) : tOr tt tu σ H Q := q
theorem k_not {Q : Bool → Hp → Prop} (q : tt σ H fun c H1 => Q (!c) H1) : tNot tt σ H Q := q
theorem k_andV (q : ta σ H fun x H1 => ∃ c, x = .bl c ∧ if c = true then tb σ H1 Q else Q (.bl false) H1) : tAndV ta tb σ H Q := q
theorem k_orV (q : ta σ H fun x H1 => ∃ c, x = .bl c ∧ if c = true then Q (.bl true) H1 else tb σ H1 Q) : tOrV ta tb σ H Q := q
theorem k_notV (q : ta σ H fun x H1 => ∃ c, x = .bl c ∧ Q (.bl (!c)) H1) : tNotV ta σ H Q := q
theorem k_ife (q : tt σ H fun c H1 => if c = true then ta σ H1 Q else tb σ H1 Q) : tIf tt ta tb σ H Q := q
theorem k_chain {r r' : R2} (q : ta σ H fun x H1 => tb σ H1 fun y H2 => r x y H2 fun z H3 => ∃ k, z = .bl k ∧ (if k = true then tc σ H3 fun w' H4 => r' y w' H4 Q else Q (.bl false) H3)) : tChain r r' ta tb tc σ H Q := q
theorem k_tru {Q : Bool → Hp → Prop} {x : V} {b : Bool} (h : TruV K x H b) (q : Q b H) : ∃ k, TruV K x H k ∧ Q k H := ⟨b, h, q⟩
/-- a branch -/
theorem k_if {c : Prop} [Decidable c] {A B : Prop} (h1 : c → A) (h2 : ¬ c → B) : if decide c = true then A else B := by
  by_cases h : c
  · rw [if_pos (decide_eq_true h)]
    exact h1 h
  · rw [if_neg (by rw [decide_eq_false h]; decide)]
    exact h2 h
theorem k_ifn {c : Prop} [Decidable c] {A B : Prop} (h1 : ¬ c → A) (h2 : c → B) : if (!decide c) = true then A else B := by
  by_cases h : c
  · rw [if_neg (by rw [decide_eq_true h]; decide)]
    exact h2 h
  · rw [if_pos (by rw [decide_eq_false h]; decide)]
    exact h1 h
theorem k_ifb {b : Bool} {A B : Prop} (h1 : b = true → A) (h2 : b = false → B) : if b = true then A else B := by
  cases b with
  | true => exact h1 rfl
  | false => exact h2 rfl
theorem k_ifnb {b : Bool} {A B : Prop} (h1 : b = false → A) (h2 : b = true → B) : if (!b) = true then A else B := by
  cases b with
  | true => exact h2 rfl
  | false => exact h1 rfl
theorem k_ifnd {c : Prop} [Decidable c] {A B : Prop} (h1 : ¬ c → A) (h2 : c → B) : if (!decide c) = true then A else B := k_ifn h1 h2
theorem k_ifT {A B : Prop} (h : A) : if true = true then A else B := iteT h
theorem k_ifF {A B : Prop} (h : B) : if false = true then A else B := iteF h
theorem k_ifnT {A B : Prop} (h : B) : if (!true) = true then A else B := iteF h
theorem k_ifnF {A B : Prop} (h : A) : if (!false) = true then A else B := iteT h
/-- calls, arguments, displays -/
theorem k_cb {r : List V → Hp → VK → Prop} {t : TA} (q : t σ H fun vs H1 => r vs H1 Q) : tCB r t σ H Q := q
theorem k_cons {t : TA} {Q : List V → Hp → Prop} (q : ta σ H fun x H1 => t σ H1 fun xs H2 => Q (x :: xs) H2) : tCons ta t σ H Q := q
theorem k_nil {Q : List V → Hp → Prop} (q : Q [] H) : tNil σ H Q := q
theorem k_callS {sp : Sp} {W : WX} {t : TA} (q : t σ H fun vs H1 => sp vs H1 Q (WE W σ)) : tCallS sp (WE W) t σ H Q := q
theorem k_call {sp : Sp} {t : TA} {E : XK} (q : t σ H fun vs H1 => sp vs H1 Q E) : tCall sp [] E t σ H Q := by
  show t σ H fun vs H1 => sp (vs ++ []) H1 Q E
  simp only [List.append_nil]
  exact q
def rTupX (xs : List V) (H : Hp) (Q : VK) : Prop := xs.length ≤ sizeLine ∧ ∀ p, H p = none → Q (.ref p) (upd H p (.tup xs))
def rLstX (xs : List V) (H : Hp) (Q : VK) : Prop := xs.length ≤ sizeLine ∧ ∀ p, H p = none → Q (.ref p) (upd H p (.lst xs))
theorem k_tupx {xs : List V} (q : ∀ p H2, H p = none → Same H H2 → H2 p = some (.tup xs) → Q (.ref p) H2) (c : xs.length ≤ sizeLine) : rTupX xs H Q := ⟨c, fun p hp => q p _ hp (same_new hp) upd_same⟩
theorem k_lstx {xs : List V} (q : ∀ p H2, H p = none → Same H H2 → H2 p = some (.lst xs) → Q (.ref p) H2) (c : xs.length ≤ sizeLine) : rLstX xs H Q := ⟨c, fun p hp => q p _ hp (same_new hp) upd_same⟩
theorem k_tup0 {t : TA} (q : t σ H fun xs H1 => rTupX xs H1 Q) : tTup t σ H Q := q
theorem k_lst0 {t : TA} (q : t σ H fun xs H1 => rLstX xs H1 Q) : tLst t σ H Q := q
/-- subscripts -/
theorem k_ixL {p : Addr} {xs : List V} {i : Int} (h : SqL K H p xs) (ha : atI xs i = some v) (q : Q v H) : rIx K (.ref p) (.int i) H Q := .inl ⟨p, xs, i, v, rfl, rfl, h, ha, q⟩
theorem k_ixT {p : Addr} {xs : List V} {i : Int} (h : SqT K H p xs) (ha : atI xs i = some v) (q : Q v H) : rIx K (.ref p) (.int i) H Q := .inr (.inl ⟨p, xs, i, v, rfl, rfl, h, ha, q⟩)
/-! statements -/
variable {D : Ends} {t u : TS} {g : TG}
theorem k_seq (q : t { D with nx := u D } σ H) : tSeq t u D σ H := q
theorem k_asg  (q : te σ H fun x H1 => g x σ H1 D.nx) : tAsg te g D σ H := q
theorem k_gn {Q : L2.St → Hp → Prop} (q : Q (σ.set i (some v)) H) : gName i v σ H Q := q
theorem k_gtup {a : Addr} {xs : List V} {n : Nat} {t : TGs} {Q : L2.St → Hp → Prop} (h : SqT K H a xs) (hl : xs.length = n) (q : t xs σ H Q) : gTup K n t (.ref a) σ H Q := ⟨a, xs, rfl, h, hl, q⟩
theorem k_gcons {t : TG} {u : TGs} {r : List V} {Q : L2.St → Hp → Prop} (q : t v σ H fun σ' H' => u r σ' H' Q) : gCons t u (v :: r) σ H Q := ⟨v, r, rfl, q⟩
theorem k_gnil {Q : L2.St → Hp → Prop} (q : Q σ H) : gNil [] σ H Q := ⟨rfl, q⟩
theorem k_drop (q : te σ H fun _ H1 => D.nx σ H1) : tDrop te D σ H := q
theorem k_ret (q : te σ H D.rt) : tRet te D σ H := q
theorem k_ifs (q : tt σ H fun c H1 => if c = true then t D σ H1 else u D σ H1) : tIfS tt t u D σ H := q
theorem k_next (q : D.nx σ H) : tNext D σ H := q
theorem k_par {ta : TA} (q : ta σ H fun vs H1 => ∃ v w, vs = [v, w] ∧ D.nx ((σ.set i (some v)).set j (some w)) H1) : tPar i j ta D σ H := q
theorem k_two {v w : V} {P : V → V → Prop} (q : P v w) : ∃ a b, [v, w] = [a, b] ∧ P a b := ⟨v, w, rfl, q⟩
theorem k_app {l : Addr} {xs : List V} {y : V} (h : H l = some (.lst xs)) (q : ∀ H', But l H H' → H' l = some (.lst (xs ++ [y])) → Q .non H') (c : xs.length < sizeLine) : tyV K "list" (.ref l) H ∧ rAppend (.ref l) [y] H Q :=
  ⟨.inl ⟨rfl, _, SqL.of h⟩, l, xs, y, rfl, rfl, h, c, q _ But.upd upd_same⟩
end
/-! ### the same, the written part by its name -/
section
variable {X : Cx} {K : PySem.W.Frag}
theorem op_addK (h : X.K = K) : OpR X (binaryOp .Add) (rAddU K) := h ▸ op_addU
theorem op_mulK (h : X.K = K) : OpR X (binaryOp .Mult) (rMulU K) := h ▸ op_mulU
theorem op_eqK {k : Nat} (h : X.K = K) (hr : Room k X.A) : OpR X (compareOp .Eq) (rEqU K) := h ▸ op_eqU hr
theorem op_neK {k : Nat} (h : X.K = K) (hr : Room k X.A) : OpR X (compareOp .NotEq) (rNeU K) := h ▸ op_neU hr
theorem op_inK (h : X.K = K) : OpR X (compareOp .In) (rIn K false) := h ▸ op_in_seq
theorem op_niK (h : X.K = K) : OpR X (compareOp .NotIn) (rIn K true) := h ▸ op_notIn_seq
def rSlU (K : PySem.W.Frag) : V → Option Int → Option Int → Hp → VK → Prop := fun x lo hi H Q => rSlL K x lo hi H Q ∨ rSlS x lo hi H Q ∨ rSlA K x lo hi H Q
theorem sl_U {X : Cx} : SlR X (rSlU X.K) := sl_list.or (sl_str.or sl_tupA)
theorem sl_K (h : X.K = K) : SlR X (rSlU K) := h ▸ sl_U
theorem ix_K (h : X.K = K) : IxR X (rIx K) := h ▸ ix_seq
end
section
variable {σ : L2.St} {H : Hp} {Q : VK} {te : TE} {K : PySem.W.Frag}
/-! slices, an empty dict -/
theorem k_sl {r : V → Option Int → Option Int → Hp → VK → Prop} {tl th : TO} (q : te σ H fun x H1 => tl σ H1 fun lo H2 => th σ H2 fun hi H3 => r x lo hi H3 Q) : tSl r te tl th σ H Q := q
theorem k_part {Q : Option Int → Hp → Prop} (q : te σ H fun x H1 => ∃ i, x = .int i ∧ Q (some i) H1) : tPart te σ H Q := q
theorem k_noPart {Q : Option Int → Hp → Prop} (q : Q none H) : tNoPart σ H Q := q
theorem k_int {a : Int} {Q : Int → Prop} (q : Q a) : ∃ i, V.int a = .int i ∧ Q i := ⟨a, rfl, q⟩
theorem k_slL {a : Addr} {xs : List V} {lo hi : Option Int} (h : SqL K H a xs) (q : ∀ p H2, H p = none → Same H H2 → H2 p = some (.lst (cutV xs lo hi)) → Q (.ref p) H2) : rSlU K (.ref a) lo hi H Q := .inl ⟨a, xs, rfl, h, fun p hp => q p _ hp (same_new hp) upd_same⟩
theorem k_slS {z : Str} {lo hi : Option Int} (q : Q (.str (cutS z lo hi)) H) (c : z.length ≤ sizeLine) : rSlU K (.str z) lo hi H Q := .inr (.inl ⟨z, rfl, c, q⟩)
theorem k_slT {a : Addr} {xs : List V} {lo hi : Option Int} (h : SqT K H a xs) (c : ¬ (HT.sIx xs.length 0 lo = 0 ∧ HT.sIx xs.length xs.length hi = xs.length)) (q : ∀ p H2, H p = none → Same H H2 → H2 p = some (.tup (cutV xs lo hi)) → Q (.ref p) H2) : rSlU K (.ref a) lo hi H Q :=
  .inr (.inr ⟨a, xs, rfl, h, fun z => absurd z c, fun _ p hp => q p _ hp (same_new hp) upd_same⟩)
def rDictX (H : Hp) (Q : VK) : Prop := ∀ p, H p = none → Q (.ref p) (upd H p (.dK []))
theorem k_dict0 (q : rDictX H Q) : tDNewK σ H Q := q
theorem k_dict1 (q : ∀ p H2, H p = none → Same H H2 → H2 p = some (.dK []) → Q (.ref p) H2) : rDictX H Q := fun p hp => q p _ hp (same_new hp) upd_same
end
/-! ### built-ins by name -/
section
variable {X : Cx}
def rLenU (K : PySem.W.Frag) : List V → Hp → VK → Prop := fun xs H Q => ∃ x n, xs = [x] ∧ LenV K x H n ∧ Q (.int n) H
theorem call_lenU : CallR X (.builtin "len") (rLenU X.K) := call_len
def rAbsU : List V → Hp → VK → Prop := fun xs H Q => ∃ i, xs = [.int i] ∧ Q (.int (if i < 0 then -i else i)) H
theorem call_absU : CallR X (.builtin "abs") rAbsU := call_abs
def rMaxU : List V → Hp → VK → Prop := fun xs H Q => ∃ i j, xs = [.int i, .int j] ∧ Q (.int (if j > i then j else i)) H
theorem call_maxU (hc : X.calm = true) : CallR X (.builtin "max") rMaxU := call_max2 hc
def rMinU : List V → Hp → VK → Prop := fun xs H Q => ∃ i j, xs = [.int i, .int j] ∧ Q (.int (if j < i then j else i)) H
theorem call_minU (hc : X.calm = true) : CallR X (.builtin "min") rMinU := call_min2 hc
def rIntU : List V → Hp → VK → Prop := fun xs H Q => (∃ i, xs = [.int i] ∧ Q (.int i) H) ∨ ∃ k, xs = [.bl k] ∧ Q (.int (if k then 1 else 0)) H
theorem call_intU : CallR X (.type "int") rIntU := call_int1
def rBoolU : List V → Hp → VK → Prop := fun xs H Q => (∃ i, xs = [.int i] ∧ Q (.bl (i != 0)) H) ∨ ∃ k, xs = [.bl k] ∧ Q (.bl k) H
theorem call_boolU : CallR X (.type "bool") rBoolU := call_bool1
def rStrU : List V → Hp → VK → Prop := fun xs H Q => ∃ i, xs = [.int i] ∧ i.natAbs.log2 < 1920 ∧ Q (.str (toString i)) H
theorem call_strU : CallR X (.type "str") rStrU := call_str_int
def rTupU (K : PySem.W.Frag) : List V → Hp → VK → Prop := fun xs H Q => ∃ p ys, xs = [.ref p] ∧ ((SqL K H p ys ∧ ∀ l, H l = none → Q (.ref l) (upd H l (.tup ys))) ∨ (SqT K H p ys ∧ Q (.ref p) H))
theorem call_tupU : CallR X (.type "tuple") (rTupU X.K) := call_tuple_of
def rLstU (K : PySem.W.Frag) : List V → Hp → VK → Prop := fun xs H Q => ∃ p ys, xs = [.ref p] ∧ (SqL K H p ys ∨ SqT K H p ys) ∧ ∀ l, H l = none → Q (.ref l) (upd H l (.lst ys))
theorem call_lstU : CallR X (.type "list") (rLstU X.K) := call_list_of
def rIsN : R2 := fun x y H Q => y = .non ∧ Q (.bl (decide (x = .non))) H
def rNotN : R2 := fun x y H Q => y = .non ∧ Q (.bl (!decide (x = .non))) H
theorem op_isNU : OpR X (compareOp .Is) rIsN := op_isN
theorem op_notNU : OpR X (compareOp .IsNot) rNotN := op_notN
end
section
variable {σ : L2.St} {H : Hp} {Q : VK} {K : PySem.W.Frag}
theorem k_lenL {p : Addr} {xs : List V} (q : Q (.int xs.length) H) (h : SqL K H p xs) : rLenU K [.ref p] H Q := ⟨.ref p, xs.length, rfl, .inl ⟨xs, h, rfl⟩, q⟩
theorem k_lenT {p : Addr} {xs : List V} (q : Q (.int xs.length) H) (h : SqT K H p xs) : rLenU K [.ref p] H Q := ⟨.ref p, xs.length, rfl, .inr ⟨xs, h, rfl⟩, q⟩
theorem k_lenS {x : Str} (q : Q (.int x.length) H) (h : x.length ≤ sizeLine) : rLenU K [.str x] H Q := ⟨.str x, x.length, rfl, ⟨h, rfl⟩, q⟩
theorem k_abs {a : Int} (q : Q (.int (a.natAbs : Int)) H) : rAbsU [.int a] H Q := ⟨a, rfl, by
  have e : (if a < 0 then -a else a) = (a.natAbs : Int) := by split <;> omega
  rw [e]
  exact q⟩
theorem k_max {a b : Int} (q : Q (.int (max a b)) H) : rMaxU [.int a, .int b] H Q := ⟨a, b, rfl, by
  have e : (if b > a then b else a) = max a b := by split <;> omega
  rw [e]
  exact q⟩
theorem k_min {a b : Int} (q : Q (.int (min a b)) H) : rMinU [.int a, .int b] H Q := ⟨a, b, rfl, by
  have e : (if b < a then b else a) = min a b := by split <;> omega
  rw [e]
  exact q⟩
theorem k_intI {a : Int} (q : Q (.int a) H) : rIntU [.int a] H Q := .inl ⟨a, rfl, q⟩
theorem k_intB {b : Bool} (q : Q (.int (if b then 1 else 0)) H) : rIntU [.bl b] H Q := .inr ⟨b, rfl, q⟩
theorem k_boolI {a : Int} (q : Q (.bl (a != 0)) H) : rBoolU [.int a] H Q := .inl ⟨a, rfl, q⟩
theorem k_boolB {b : Bool} (q : Q (.bl b) H) : rBoolU [.bl b] H Q := .inr ⟨b, rfl, q⟩
theorem k_strI {a : Int} (q : Q (.str (toString a)) H) (c : a.natAbs.log2 < 1920) : rStrU [.int a] H Q := ⟨a, rfl, c, q⟩
theorem k_tupL {p : Addr} {xs : List V} (h : SqL K H p xs) (q : ∀ l H', H l = none → Same H H' → H' l = some (.tup xs) → Q (.ref l) H') : rTupU K [.ref p] H Q := ⟨p, xs, rfl, .inl ⟨h, fun l hl => q l _ hl (same_new hl) upd_same⟩⟩
theorem k_tupT {p : Addr} {xs : List V} (h : SqT K H p xs) (q : Q (.ref p) H) : rTupU K [.ref p] H Q := ⟨p, xs, rfl, .inr ⟨h, q⟩⟩
theorem k_lstL {p : Addr} {xs : List V} (h : SqL K H p xs) (q : ∀ l H', H l = none → Same H H' → H' l = some (.lst xs) → Q (.ref l) H') : rLstU K [.ref p] H Q := ⟨p, xs, rfl, .inl h, fun l hl => q l _ hl (same_new hl) upd_same⟩
theorem k_lstT {p : Addr} {xs : List V} (h : SqT K H p xs) (q : ∀ l H', H l = none → Same H H' → H' l = some (.lst xs) → Q (.ref l) H') : rLstU K [.ref p] H Q := ⟨p, xs, rfl, .inr h, fun l hl => q l _ hl (same_new hl) upd_same⟩
theorem k_isN {x : V} (q : Q (.bl (decide (x = .non))) H) : rIsN x .non H Q := ⟨rfl, q⟩
theorem k_notN {x : V} (q : Q (.bl (!decide (x = .non))) H) : rNotN x .non H Q := ⟨rfl, q⟩
theorem k_powc {a b c : Int} (e : a ^ b.toNat = c) (hc : CPow a b) (q : Q (.int c) H) : rI CPow (fun i j => .int (i ^ j.toNat)) (.int a) (.int b) H Q := ⟨a, b, rfl, rfl, hc, by show Q (.int (a ^ b.toNat)) H; rw [e]; exact q⟩
theorem cpow {a b : Int} (h : 0 ≤ b) (h1 : b ≤ 1000000) (h2 : a.natAbs < 2 ^ 64) : CPow a b := ⟨h, h1, h2⟩
theorem k_mod {a b : Int} (hb : 0 < b) (q : Q (.int (a % b)) H) : rI (fun _ j => j ≠ 0) (fun i j => .int (i.fmod j)) (.int a) (.int b) H Q := ⟨a, b, rfl, rfl, by omega, by show Q (.int (a.fmod b)) H; rw [Int.fmod_eq_emod_of_nonneg a (by omega)]; exact q⟩
theorem k_log {b : Int} (h : b.natAbs < 2 ^ 64) : b.natAbs.log2 < 9000 := Nat.lt_of_lt_of_le (PySem.Flt.log2_lt_of (by decide) h) (by decide)
theorem k_div {a b : Int} (hb : 0 < b) (hl : b.natAbs.log2 < 9000) (q : Q (.int (a / b)) H) : rI CDivG (fun i j => .int (i.fdiv j)) (.int a) (.int b) H Q := ⟨a, b, rfl, rfl, ⟨by omega, PyProof.noPylong_of_log2 hl⟩, by show Q (.int (a.fdiv b)) H; rw [Int.fdiv_eq_ediv_of_nonneg a (by omega)]; exact q⟩
theorem k_mulB {a b : Int} {m n : Nat} (ha : a.natAbs < 2 ^ m) (hb : b.natAbs < 2 ^ n) (h : m + n ≤ 134217728) (q : Q (.int (a * b)) H) : rMulU K (.int a) (.int b) H Q := k_mulI q (mulx_ok ha hb h)
theorem k_pop {l : Addr} {xs : List V} {y : V} (h : H l = some (.lst (xs ++ [y]))) (q : ∀ H', But l H H' → H' l = some (.lst xs) → Q y H') : tyV K "list" (.ref l) H ∧ rPop (.ref l) [] H Q :=
  ⟨.inl ⟨rfl, _, SqL.of h⟩, l, _, y, rfl, rfl, h, by simp, q _ But.upd (by rw [List.dropLast_concat]; exact upd_same)⟩
theorem k_bm0 {T : String} {r : V → List V → Hp → VK → Prop} {te : TE} (q : te σ H fun x H1 => tyV K T x H1 ∧ r x [] H1 Q) : tBM0 K T r te σ H Q := q
theorem k_bm {T : String} {r : V → List V → Hp → VK → Prop} {te : TE} {t : TA} (q : te σ H fun x H1 => tyV K T x H1 ∧ t σ H1 fun xs H2 => r x xs H2 Q) : tBM K T r te t σ H Q := q
theorem k_app0 {l : Addr} {xs : List V} (h : H l = some (.lst xs)) : tyV K "list" (.ref l) H := .inl ⟨rfl, _, SqL.of h⟩
theorem k_app1 {l : Addr} {xs : List V} {y : V} (h : H l = some (.lst xs)) (c : xs.length < sizeLine) (q : ∀ H', But l H H' → H' l = some (.lst (xs ++ [y])) → Q .non H') : rAppend (.ref l) [y] H Q := ⟨l, xs, y, rfl, rfl, h, c, q _ But.upd upd_same⟩
def rRevX (K : PySem.W.Frag) (x : V) (H : Hp) (Q : VK) : Prop := ∃ a xs, x = .ref a ∧ SqL K H a xs ∧ ∀ p, H p = none → Q (.ref p) (upd H p (.lst xs.reverse))
theorem k_rev {te : TE} (q : te σ H fun x H1 => rRevX K x H1 Q) : tRevL K te σ H Q := q
theorem k_rev1 {p : Addr} {xs : List V} (h : SqL K H p xs) (q : ∀ l H', H l = none → Same H H' → H' l = some (.lst xs.reverse) → Q (.ref l) H') : rRevX K (.ref p) H Q := ⟨p, xs, rfl, h, fun l hl => q l _ hl (same_new hl) upd_same⟩
/-- isinstance -/
theorem k_isi {x c : V} {t u : Value} {b : Bool} (hc : ClsV c u) (ht : TyX K H x t) (hk : PySem.W.kitOne K t u = some b) (q : Q (.bl b) H) : rIsi K [x, c] H Q := ⟨x, c, t, u, b, rfl, hc, ht, hk, q⟩
theorem k_cut {t u : TS} {D : Ends} (M : L2.St → Hp → Prop) (h : t { D with nx := M } σ H) (k : ∀ σ' H', M σ' H' → u D σ' H') : C8.tCut t u D σ H := ⟨M, h, k⟩
theorem k_cut0 {t u : TS} {D : Ends} (h : t { D with nx := u D } σ H) : C8.tCut t u D σ H := ⟨_, h, fun _ _ q => q⟩
/-! loops -/
variable {D : Ends} {g : TG} {tb : TS} {j : Nat} {wi : TI}
def LoopI (J : It) (g : TG) (tb : TS) (D : Ends) (σ : L2.St) (H : Hp) : Prop := ∃ W : Nat → Nat → L2.St → Hp → Prop, (∃ m, W 0 m σ H) ∧ ∀ i m σ H, W i m σ H →
  (J.stop i H ∧ D.nx σ H) ∨ (J.go i H ∧ ∃ N : L2.St → Hp → Prop, (∀ σ' H', N σ' H' → ∃ m', m' < m ∧ W (i + 1) m' σ' H') ∧ ∀ x H', J.yld i H x H' → g x σ H' fun σ2 H2 => tb { D with nx := N, ct := N, bk := D.nx } σ2 H2)
theorem k_for (q : wi σ H fun J H1 => LoopI J g tb D σ H1) : tFor wi g tb D σ H := q
def rRng1 (vs : List V) (H : Hp) (R : It → Hp → Prop) : Prop := ∃ j : Int, vs = [.int j] ∧ -(2 ^ 62) ≤ j ∧ j < 2 ^ 62 ∧ R (Itr 0 j.toNat) H
def rRng2 (vs : List V) (H : Hp) (R : It → Hp → Prop) : Prop := ∃ i j : Int, vs = [.int i, .int j] ∧ (-(2 ^ 62) ≤ i ∧ i < 2 ^ 62 ∧ -(2 ^ 62) ≤ j ∧ j < 2 ^ 62) ∧ R (Itr i (j - i).toNat) H
def rItL (K : PySem.W.Frag) (x : V) (H : Hp) (R : It → Hp → Prop) : Prop := ∃ a, x = .ref a ∧ (∃ xs, SqL K H a xs) ∧ R (Itl K a) H
def rItT (K : PySem.W.Frag) (x : V) (H : Hp) (R : It → Hp → Prop) : Prop := ∃ a, x = .ref a ∧ (∃ xs, SqT K H a xs) ∧ R (Itt K a) H
theorem k_iRng1 {ta : TA} {R : It → Hp → Prop} (q : ta σ H fun vs H1 => rRng1 vs H1 R) : iRng1 ta σ H R := q
theorem k_iRng2 {ta : TA} {R : It → Hp → Prop} (q : ta σ H fun vs H1 => rRng2 vs H1 R) : iRng2 ta σ H R := q
theorem k_iList {tl : TE} {R : It → Hp → Prop} (q : tl σ H fun x H1 => rItL K x H1 R) : iList K tl σ H R := q
theorem k_iSeqU {tl : TE} {R : It → Hp → Prop} (q : tl σ H fun x H1 => rItU K x H1 R) : iSeqU K tl σ H R := q
theorem k_itUL {a : Addr} {xs : List V} {R : It → Hp → Prop} (h : SqL K H a xs) (q : R (Itl K a) H) : rItU K (.ref a) H R := ⟨a, rfl, .inl ⟨⟨xs, h⟩, q⟩⟩
theorem k_itUT {a : Addr} {xs : List V} {R : It → Hp → Prop} (h : SqT K H a xs) (q : R (Itt K a) H) : rItU K (.ref a) H R := ⟨a, rfl, .inr ⟨⟨xs, h⟩, q⟩⟩
theorem k_iTup {tl : TE} {R : It → Hp → Prop} (q : tl σ H fun x H1 => rItT K x H1 R) : iTup K tl σ H R := q
theorem k_rng1 {n : Int} {R : It → Hp → Prop} (c : -(2 ^ 62) ≤ n ∧ n < 2 ^ 62) (q : R (Itr 0 n.toNat) H) : rRng1 [.int n] H R := ⟨n, rfl, c.1, c.2, q⟩
theorem k_rng2 {m n : Int} {R : It → Hp → Prop} (c : -(2 ^ 62) ≤ m ∧ m < 2 ^ 62 ∧ -(2 ^ 62) ≤ n ∧ n < 2 ^ 62) (q : R (Itr m (n - m).toNat) H) : rRng2 [.int m, .int n] H R := ⟨m, n, rfl, c, q⟩
theorem k_itL {a : Addr} {xs : List V} {R : It → Hp → Prop} (h : SqL K H a xs) (q : R (Itl K a) H) : rItL K (.ref a) H R := ⟨a, rfl, ⟨xs, h⟩, q⟩
theorem k_itT {a : Addr} {xs : List V} {R : It → Hp → Prop} (h : SqT K H a xs) (q : R (Itt K a) H) : rItT K (.ref a) H R := ⟨a, rfl, ⟨xs, h⟩, q⟩
/-- for x in range(..) -/
theorem k_loopR {n : Nat} (P : Nat → L2.St → Hp → Prop) (h0 : P 0 σ H) (hs : ∀ (i : Nat) σ H, i < n → P i σ H → tb { D with nx := P (i + 1), ct := P (i + 1), bk := D.nx } (σ.set j (some (.int (i : Int)))) H)
    (hd : ∀ σ H, P n σ H → D.nx σ H) : LoopI (Itr 0 n) (gName j) tb D σ H := for_range P h0 (fun i σ H hi p => by
      show tb _ (σ.set j (some (.int (0 + (i : Int))))) H
      rw [Int.zero_add]
      exact hs i σ H hi p) hd
theorem k_loopR2 {lo : Int} {n : Nat} (P : Nat → L2.St → Hp → Prop) (h0 : P 0 σ H) (hs : ∀ (i : Nat) σ H, i < n → P i σ H → tb { D with nx := P (i + 1), ct := P (i + 1), bk := D.nx } (σ.set j (some (.int (lo + (i : Int))))) H)
    (hd : ∀ σ H, P n σ H → D.nx σ H) : LoopI (Itr lo n) (gName j) tb D σ H := for_range P h0 hs hd
theorem k_loopL {a : Addr} {xs : List V} (P : Nat → L2.St → Hp → Prop) (h0 : P 0 σ H) (hl : ∀ i σ H, i ≤ xs.length → P i σ H → SqL K H a xs)
    (hs : ∀ (i : Nat) x σ H, xs[i]? = some x → P i σ H → g x σ H fun σ2 H2 => tb { D with nx := P (i + 1), ct := P (i + 1), bk := D.nx } σ2 H2) (hd : ∀ σ H, P xs.length σ H → D.nx σ H) : LoopI (Itl K a) g tb D σ H := for_list P h0 hl hs hd
theorem k_loopT {a : Addr} {xs : List V} (P : Nat → L2.St → Hp → Prop) (h0 : P 0 σ H) (hl : ∀ i σ H, i ≤ xs.length → P i σ H → SqT K H a xs)
    (hs : ∀ (i : Nat) x σ H, xs[i]? = some x → P i σ H → g x σ H fun σ2 H2 => tb { D with nx := P (i + 1), ct := P (i + 1), bk := D.nx } σ2 H2) (hd : ∀ σ H, P xs.length σ H → D.nx σ H) : LoopI (Itt K a) g tb D σ H := for_tup P h0 hl hs hd
theorem k_loopU {a : Addr} {xs : List V} (hS : SqL K H a xs ∨ SqT K H a xs) (P : Nat → L2.St → Hp → Prop) (h0 : P 0 σ H) (hl : ∀ i σ' H', P i σ' H' → Same H H')
    (hs : ∀ (i : Nat) x σ H, xs[i]? = some x → P i σ H → g x σ H fun σ2 H2 => tb { D with nx := P (i + 1), ct := P (i + 1), bk := D.nx } σ2 H2) (hd : ∀ σ H, P xs.length σ H → D.nx σ H) : rItU K (.ref a) H fun J H1 => LoopI J g tb D σ H1 := by
  rcases hS with hS | hS
  · exact k_itUL hS (k_loopL P h0 (fun i σ' H' _ p => seqL_same (hl i σ' H' p) hS) hs hd)
  · exact k_itUT hS (k_loopT P h0 (fun i σ' H' _ p => seqT_same (hl i σ' H' p) hS) hs hd)
/-- while: P with a number that falls -/
def Less (P : Nat → L2.St → Hp → Prop) (m : Nat) : L2.St → Hp → Prop := fun σ H => ∃ m', m' < m ∧ P m' σ H
theorem k_while {tc : TT} (P : Nat → L2.St → Hp → Prop) (m : Nat) (h0 : P m σ H)
    (hs : ∀ m σ H, P m σ H → tc σ H fun b H1 => if b = true then ∃ N : L2.St → Hp → Prop, (∀ σ' H', N σ' H' → ∃ m', m' < m ∧ P m' σ' H') ∧ tb { D with nx := N, ct := N, bk := D.nx } σ H1 else D.nx σ H1) : tWhile tc tb D σ H := ⟨P, ⟨m, h0⟩, hs⟩
theorem k_wN {P : Nat → L2.St → Hp → Prop} {m : Nat} (q : tb { D with nx := Less P m, ct := Less P m, bk := D.nx } σ H) : ∃ N : L2.St → Hp → Prop, (∀ σ' H', N σ' H' → ∃ m', m' < m ∧ P m' σ' H') ∧ tb { D with nx := N, ct := N, bk := D.nx } σ H := ⟨_, fun _ _ h => h, q⟩
end
/-! more steps -/
section
variable {σ : L2.St} {H : Hp} {Q : VK} {v : V} {te to ti : TE} {K : PySem.W.Frag} {D : Ends} {i : Nat}
theorem k_aug {ip : TIp} (h : σ[i]? = some (some v)) (q : te σ H fun y H1 => ip v y H1 fun z H2 => D.nx (σ.set i (some z)) H2) : tAug i te ip D σ H := ⟨v, h, q⟩
theorem k_ip {f : Int → Int → Int} {a b : Int} (q : Q (.int (f a b)) H) : ipI f (.int a) (.int b) H Q := ⟨a, b, rfl, rfl, q⟩
theorem k_gsub {t : TSet} {Q : L2.St → Hp → Prop} (q : to σ H fun o H1 => ti σ H1 fun i H2 => t o i v H2 fun H3 => Q σ H3) : gSub to ti t v σ H Q := q
theorem k_setL {p : Addr} {xs : List V} {k : Int} {j : Nat} {Q : Hp → Prop} (h : H p = some (.lst xs)) (hj : ixN xs.length k = some j) (q : ∀ H', But p H H' → H' p = some (.lst (xs.set j v)) → Q H') : rSetL (.ref p) (.int k) v H Q := ⟨p, xs, k, j, rfl, rfl, h, hj, q _ But.upd upd_same⟩
theorem ixN_nat {n j : Nat} (h : j < n) : ixN n (j : Int) = some j := by
  unfold ixN
  rw [if_pos (by omega), if_pos (by omega)]
  rfl
theorem k_m1 {r : V → List V → Hp → VK → Prop} (q : to σ H fun x H1 => (∃ a, x = .str a) ∧ te σ H1 fun y H2 => r x [y] H2 Q) : tM1 r to te σ H Q := q
theorem k_m0 {r : V → List V → Hp → VK → Prop} (q : to σ H fun x H1 => (∃ a, x = .str a) ∧ r x [] H1 Q) : tM0 r to σ H Q := q
theorem k_isS {a : Str} {B : Prop} (q : B) : (∃ b, V.str a = .str b) ∧ B := ⟨⟨a, rfl⟩, q⟩
def rJoinU (K : PySem.W.Frag) : V → List V → Hp → VK → Prop := fun x xs H Q => ∃ a p, ∃ ys : List Str, x = .str a ∧ xs = [.ref p] ∧ (SqL K H p (ys.map V.str) ∨ SqT K H p (ys.map V.str)) ∧ (ys.map (·.length)).sum + ys.length * a.length ≤ 16777216 ∧ Q (.str (Txt.join a ys)) H
theorem mt_joinK {X : Cx} (h : X.K = K) : MtR X "str.join" (rJoinU K) := h ▸ mt_join
theorem k_join {a : Str} {p : Addr} {ys : List Str} (h : SqL K H p (ys.map V.str) ∨ SqT K H p (ys.map V.str)) (c : (ys.map (·.length)).sum + ys.length * a.length ≤ 16777216) (q : Q (.str (Txt.join a ys)) H) : rJoinU K (.str a) [.ref p] H Q := ⟨a, p, ys, rfl, rfl, h, c, q⟩
theorem k_ixS {z : Str} {i : Int} {c : Nat} (hz : z.length ≤ sizeLine) (h : atI z.cps.toList i = some c) (q : Q (.str ⟨#[c]⟩) H) : rIx K (.str z) (.int i) H Q := .inr (.inr ⟨z, i, c, rfl, rfl, hz, h, q⟩)
theorem k_sum {a : Addr} {ns : List Int} (h : SqL K H a (ns.map V.int)) (q : Q (.int ns.sum) H) : rSum K [.ref a] H Q := ⟨a, ns, rfl, h, q⟩
end
/-- in, not in: of flat things, of data, of a text in a text -/
def rInU (K : PySem.W.Frag) : R2 := fun x y H Q => rIn K false x y H Q ∨ rInD K x y H Q ∨ (∃ i j, x = .str i ∧ y = .str j ∧ Q (.bl (!(Builtin.Str.occurrences j i 0 j.length 1).isEmpty)) H)
def rNiU (K : PySem.W.Frag) : R2 := fun x y H Q => rIn K true x y H Q ∨ rNotInD K x y H Q ∨ (∃ i j, x = .str i ∧ y = .str j ∧ Q (.bl (!(!(Builtin.Str.occurrences j i 0 j.length 1).isEmpty))) H)
theorem Room.un65 {k : Nat} {A : Around} (r : Room k A) : A.units + 65 < cLine := by have := r.un; omega
theorem op_inUK {X : Cx} {K : PySem.W.Frag} {k : Nat} (h : X.K = K) (hr : Room k X.A) : OpR X (compareOp .In) (rInU K) := h ▸ op_in_seq.or ((op_inD (Room.un65 hr)).or op_in_str)
theorem op_niUK {X : Cx} {K : PySem.W.Frag} {k : Nat} (h : X.K = K) (hr : Room k X.A) : OpR X (compareOp .NotIn) (rNiU K) := h ▸ op_notIn_seq.or ((op_notInD (Room.un65 hr)).or op_notIn_str)
section
variable {H : Hp} {Q : VK} {K : PySem.W.Frag}
theorem k_in {x : V} {p : Addr} {xs : List V} {b : Bool} (h : SqL K H p xs ∨ SqT K H p xs) (hx : flatV x = true) (ha : xs.all flatV = true) (e : inV x xs = b) (q : Q (.bl b) H) : rInU K x (.ref p) H Q := .inl (k_in0 h hx ha e q)
theorem k_ni {x : V} {p : Addr} {xs : List V} {b : Bool} (h : SqL K H p xs ∨ SqT K H p xs) (hx : flatV x = true) (ha : xs.all flatV = true) (e : inV x xs = b) (q : Q (.bl (!b)) H) : rNiU K x (.ref p) H Q := .inl (k_ni0 h hx ha e q)
theorem k_inD {x y : V} {d : PyData} {ds : List PyData} (hx : Dp K H x d) (hy : Dp K H y (.list ds)) (s1 : SeqAt.shaped d = true) (s2 : SeqAt.shaped (.list ds) = true) (q : Q (.bl (ds.any fun z => PyData.eqv z d)) H) : rInU K x y H Q := .inr (.inl ⟨d, ds, hx, hy, s1, s2, q⟩)
theorem k_niD {x y : V} {d : PyData} {ds : List PyData} (hx : Dp K H x d) (hy : Dp K H y (.list ds)) (s1 : SeqAt.shaped d = true) (s2 : SeqAt.shaped (.list ds) = true) (q : Q (.bl (!ds.any fun z => PyData.eqv z d)) H) : rNiU K x y H Q := .inr (.inl ⟨d, ds, hx, hy, s1, s2, q⟩)
theorem k_inS {x y : Str} (q : Q (.bl (!(Builtin.Str.occurrences y x 0 y.length 1).isEmpty)) H) : rInU K (.str x) (.str y) H Q := .inr (.inr ⟨x, y, rfl, rfl, q⟩)
theorem k_niS {x y : Str} (q : Q (.bl (!(!(Builtin.Str.occurrences y x 0 y.length 1).isEmpty))) H) : rNiU K (.str x) (.str y) H Q := .inr (.inr ⟨x, y, rfl, rfl, q⟩)
end
/-- a dict of one pair, its key a text -/
def rDisp1 (p : Addr) (x y : V) (H : Hp) (Q : VK) : Prop := H p = some (.dK []) ∧ ∃ kvs : List (Key × V), [(x, y)] = kvs.map (fun kv => (kV kv.1, kv.2)) ∧ kvs.length ≤ 15 ∧ Q (.ref p) (upd H p (.dK (mergeK [] kvs)))
theorem k_disp1 {σ : L2.St} {H : Hp} {Q : VK} {tk tv : TE} (q : ∀ p H1, H p = none → Same H H1 → H1 p = some (.dK []) → tk σ H1 fun x H2 => tv σ H2 fun y H3 => rDisp1 p x y H3 Q) : tDisp [(tk, tv)] σ H Q := fun p hp => q p _ hp (same_new hp) upd_same
theorem k_disp1x {p : Addr} {z : Str} {y : V} {H : Hp} {Q : VK} (h : H p = some (.dK [])) (q : ∀ H', But p H H' → H' p = some (.dK [(.inr z, y)]) → Q (.ref p) H') : rDisp1 p (.str z) y H Q := ⟨h, [(.inr z, y)], rfl, by simp, q _ But.upd upd_same⟩
theorem k_ev {te : TE} {g : TG} {D : Ends} {σ : L2.St} {H : Hp} (P : V → Hp → Prop) (h : ∀ Q : VK, (∀ v H', P v H' → Q v H') → te σ H Q) (q : ∀ v H', P v H' → g v σ H' D.nx) : tAsg te g D σ H := h _ q
theorem k_evT {tt : TT} {t u : TS} {D : Ends} {σ : L2.St} {H : Hp} (P : Bool → Hp → Prop) (h : ∀ Q : Bool → Hp → Prop, (∀ b H', P b H' → Q b H') → tt σ H Q) (q : ∀ b H', P b H' → if b = true then t D σ H' else u D σ H') : tIfS tt t u D σ H := h _ q
/-! ### list comprehensions -/
section
variable {σ : L2.St} {H : Hp} {Q : VK} {K : PySem.W.Frag} {g : TG} {tt : TT} {te : TE} {vs : List Nat} {wi : TI}
def LcB (D : Addr) (g : TG) (tt : TT) (te : TE) (vs : List Nat) (σ : L2.St) (x : V) (H : Hp) (N : Hp → Prop) : Prop := g x (wipe σ vs) H fun σ2 H2 => wipe σ2 vs = wipe σ vs ∧ tt σ2 H2 fun b H3 =>
  if b = true then te σ2 H3 fun y H4 => ∃ acc, H4 D = some (.lst acc) ∧ acc.length < sizeLine ∧ N (upd H4 D (.lst (acc ++ [y]))) else N H3
def LcX (J : It) (g : TG) (tt : TT) (te : TE) (vs : List Nat) (σ : L2.St) (H : Hp) (Q : VK) : Prop := ∀ D, H D = none → ∃ W : Nat → Nat → Hp → Prop, (∃ m, W 0 m (upd H D (.lst []))) ∧ ∀ i m H, W i m H →
  (J.stop i H ∧ Q (.ref D) H) ∨ (J.go i H ∧ ∃ Nx : Hp → Prop, (∀ H', Nx H' → ∃ m', m' < m ∧ W (i + 1) m' H') ∧ ∀ x H', J.yld i H x H' → LcB D g tt te vs σ x H' Nx)
theorem k_lc (q : wi σ H fun J H1 => LcX J g tt te vs σ H1 Q) : tLc wi g tt te vs σ H Q := q
/-- one turn: the element kept, or not -/
theorem k_lcY {y : V} {D : Addr} {acc : List V} {P : Hp → Prop} (h : H D = some (.lst acc)) (hz : acc.length < sizeLine) (q : ∀ H', But D H H' → H' D = some (.lst (acc ++ [y])) → P H') : ∃ acc, H D = some (.lst acc) ∧ acc.length < sizeLine ∧ P (upd H D (.lst (acc ++ [y]))) :=
  ⟨acc, h, hz, q _ But.upd upd_same⟩
theorem k_lcU {a : Addr} {xs : List V} (hS : SqL K H a xs ∨ SqT K H a xs) (P : Addr → Nat → List V → Hp → Prop) (h0 : ∀ D H', H D = none → Same H H' → H' D = some (.lst []) → P D 0 [] H') (hl : ∀ D i ys H', H D = none → P D i ys H' → Same H H')
    (hs : ∀ D (i : Nat) x ys H', H D = none → xs[i]? = some x → P D i ys H' → H' D = some (.lst ys) → LcB D g tt te vs σ x H' fun H'' => ∃ zs, P D (i + 1) zs H'' ∧ H'' D = some (.lst zs))
    (hd : ∀ D ys H', H D = none → P D xs.length ys H' → H' D = some (.lst ys) → Q (.ref D) H') : rItU K (.ref a) H fun J H1 => LcX J g tt te vs σ H1 Q := by
  rcases hS with hS | hS
  · exact k_itUL hS fun D hD => lc_list (fun i H' => ∃ ys, P D i ys H' ∧ H' D = some (.lst ys)) ⟨[], h0 D _ hD (same_new hD) upd_same, upd_same⟩ (fun i H' _ ⟨ys, p, _⟩ => seqL_same (hl D i ys H' hD p) hS)
      (fun i x H' hx ⟨ys, p, e⟩ => hs D i x ys H' hD hx p e) fun H' ⟨ys, p, e⟩ => hd D ys H' hD p e
  · exact k_itUT hS fun D hD => lc_tup (fun i H' => ∃ ys, P D i ys H' ∧ H' D = some (.lst ys)) ⟨[], h0 D _ hD (same_new hD) upd_same, upd_same⟩ (fun i H' _ ⟨ys, p, _⟩ => seqT_same (hl D i ys H' hD p) hS)
      (fun i x H' hx ⟨ys, p, e⟩ => hs D i x ys H' hD hx p e) fun H' ⟨ys, p, e⟩ => hd D ys H' hD p e
theorem k_lcR {lo : Int} {n : Nat} (P : Addr → Nat → List V → Hp → Prop) (h0 : ∀ D H', H D = none → Same H H' → H' D = some (.lst []) → P D 0 [] H')
    (hs : ∀ D (i : Nat) ys H', H D = none → i < n → P D i ys H' → H' D = some (.lst ys) → LcB D g tt te vs σ (.int (lo + (i : Int))) H' fun H'' => ∃ zs, P D (i + 1) zs H'' ∧ H'' D = some (.lst zs))
    (hd : ∀ D ys H', H D = none → P D n ys H' → H' D = some (.lst ys) → Q (.ref D) H') : LcX (Itr lo n) g tt te vs σ H Q := fun D hD =>
  lc_range (fun i H' => ∃ ys, P D i ys H' ∧ H' D = some (.lst ys)) ⟨[], h0 D _ hD (same_new hD) upd_same, upd_same⟩ (fun i H' hi ⟨ys, p, e⟩ => hs D i ys H' hD hi p e) fun H' ⟨ys, p, e⟩ => hd D ys H' hD p e
/-- a turn begins: the target a name -/
theorem k_lcB {D : Addr} {j : Nat} {x : V} {N : Hp → Prop} (hw : wipe ((wipe σ vs).set j (some x)) vs = wipe σ vs) (q : tt ((wipe σ vs).set j (some x)) H fun b H3 => if b = true then te ((wipe σ vs).set j (some x)) H3 fun y H4 => ∃ acc, H4 D = some (.lst acc) ∧ acc.length < sizeLine ∧ N (upd H4 D (.lst (acc ++ [y]))) else N H3) :
    LcB D (gName j) tt te vs σ x H N := ⟨hw, q⟩
/-- a comprehension's turn, its target a tuple -/
theorem k_lcT {D : Addr} {x : V} {N : Hp → Prop} (q : g x (wipe σ vs) H fun σ2 H2 => wipe σ2 vs = wipe σ vs ∧ tt σ2 H2 fun b H3 =>
    if b = true then te σ2 H3 fun y H4 => ∃ acc, H4 D = some (.lst acc) ∧ acc.length < sizeLine ∧ N (upd H4 D (.lst (acc ++ [y]))) else N H3) : LcB D g tt te vs σ x H N := q
/-- no test -/
theorem k_yes {Q : Bool → Hp → Prop} (q : Q true H) : tYes σ H Q := q
def rRgX (a b : Int) (H : Hp) (Q : VK) : Prop := RgOk a b ∧ ∀ q, H q = none → Q (.ref q) (upd H q (.lst (rgV a b)))
theorem k_listRg {tr : L2.St → Hp → (Int → Int → Hp → Prop) → Prop} (q : tr σ H fun a b H1 => rRgX a b H1 Q) : tLstRg tr σ H Q := q
theorem k_rg1 {ta : TE} {R : Int → Int → Hp → Prop} (q : ta σ H fun x H1 => ∃ n, x = .int n ∧ R 0 n H1) : tRg1 ta σ H R := q
theorem k_rgX {a b : Int} (c : 0 ≤ a ∧ a ≤ 1000000 ∧ 0 ≤ b ∧ b ≤ 1000000) (q : ∀ l H', H l = none → Same H H' → H' l = some (.lst (rgV a b)) → Q (.ref l) H') : rRgX a b H Q := ⟨RgOk.of_le (by omega) (by omega) (by omega) (by omega), fun l hl => q l _ hl (same_new hl) upd_same⟩
end
end Gx
open PySem PySem.Spec PyProof.Rows L2 Gx
local macro_rules | `(tactic| walk_at "s1") => `(tactic| first
  | refine k_var rfl ?_ | refine k_c ?_ | refine k_op ?_ | refine k_seq ?_ | refine k_asg ?_ | refine k_gn ?_ | refine k_gcons ?_ | refine k_gnil ?_ | refine k_ifs ?_ | refine k_tst ?_ | refine k_B ?_ | refine k_bl ?_
  | refine k_ret ?_ | refine k_drop ?_ | refine k_next ?_ | refine k_par ?_ | refine k_two ?_ | refine k_for ?_ | refine k_iRng1 ?_ | refine k_iRng2 ?_ | refine k_iList ?_ | refine k_iTup ?_ | refine k_iSeqU ?_
  | refine k_cb ?_ | refine k_cons ?_ | refine k_nil ?_ | refine k_callS ?_ | refine k_call ?_ | refine k_tup0 ?_ | refine k_lst0 ?_ | refine k_bm0 ?_ | refine k_bm ?_
  | refine k_and ?_ | refine k_or ?_ | refine k_not ?_ | refine k_andV ?_ | refine k_orV ?_ | refine k_notV ?_ | refine k_ife ?_ | refine k_chain ?_ | refine k_un ?_ | refine k_rev ?_
  | refine k_I0 ?_ | refine k_addI ?_ | refine k_eqI ?_ | refine k_neI ?_ | refine k_eqT ?_ | refine k_neT ?_ | refine k_eqB ?_ | refine k_neB ?_ | refine k_neg ?_
  | refine k_aug rfl ?_ | refine k_ip ?_ | refine k_gsub ?_ | refine k_m1 ?_ | refine k_m0 ?_ | refine k_isS ?_ | refine k_abs ?_ | refine k_max ?_ | refine k_min ?_ | refine k_intI ?_ | refine k_intB ?_ | refine k_lc ?_ | refine k_yes ?_ | refine k_listRg ?_ | refine k_rg1 ?_ | refine k_sl ?_ | refine k_part ?_ | refine k_noPart ?_ | refine k_int ?_ | refine k_dict0 ?_ | refine k_isN ?_ | refine k_notN ?_
  | refine k_ifT ?_ | refine k_ifF ?_ | refine k_ifnT ?_ | refine k_ifnF ?_)
local macro_rules | `(tactic| walk_at "s2") => `(tactic| first
  | refine k_powc (a := 10) (b := 61) (c := 10000000000000000000000000000000000000000000000000000000000000) (by decide +kernel) (cpow (by decide) (by decide) (by decide)) ?_
  | refine k_powc (a := 10) (b := 60) (c := 1000000000000000000000000000000000000000000000000000000000000) (by decide +kernel) (cpow (by decide) (by decide) (by decide)) ?_
  | refine k_powc (a := 10) (b := 12) (c := 1000000000000) (by decide +kernel) (cpow (by decide) (by decide) (by decide)) ?_
  | refine k_powc (a := 10) (b := 5) (c := 100000) (by decide +kernel) (cpow (by decide) (by decide) (by decide)) ?_
  | refine k_powc (a := 10) (b := 6) (c := 1000000) (by decide +kernel) (cpow (by decide) (by decide) (by decide)) ?_
  | refine k_powc (a := 10) (b := 9) (c := 1000000000) (by decide +kernel) (cpow (by decide) (by decide) (by decide)) ?_
  | refine k_powc (a := 10) (b := 20) (c := 100000000000000000000) (by decide +kernel) (cpow (by decide) (by decide) (by decide)) ?_
  | refine k_powc (a := 10) (b := 50) (c := 100000000000000000000000000000000000000000000000000) (by decide +kernel) (cpow (by decide) (by decide) (by decide)) ?_
  | refine k_powc (a := 10) (b := 58) (c := 10000000000000000000000000000000000000000000000000000000000) (by decide +kernel) (cpow (by decide) (by decide) (by decide)) ?_
  | refine k_mod (by first | decide | omega) ?_
  | refine k_div (by first | decide | omega) (by first | decide +kernel | exact k_log (by omega)) ?_)
local macro_rules | `(tactic| walk_at "go") => `(tactic| repeat (first | with_reducible walk_at "s1" | with_reducible walk_at "s2"))
local macro_rules | `(tactic| walk_at "up") => `(tactic| first | assumption | (refine up_same (by assumption) ?_; walk_at "up") | (refine up_but (by assumption) (by first | assumption | (apply Ne.symm; assumption)) ?_; walk_at "up"))
local macro_rules | `(tactic| walk_at "ut") => `(tactic| first | assumption | exact SqT.of (by assumption) | (refine seqT_same (by assumption) ?_; walk_at "ut"))
local macro_rules | `(tactic| walk_at "ul") => `(tactic| first | assumption | exact SqL.of (by assumption) | (refine seqL_same (by assumption) ?_; walk_at "ul"))
local macro_rules | `(tactic| walk_at "n") => `(tactic| first | with_reducible walk_at "s1" | with_reducible walk_at "s2")
namespace Dk
open PySem PySem.Spec PyProof.Rows L2
theorem at_map {ns : List Int} {i : Int} (h0 : 0 ≤ i) (h1 : i < ns.length) : ∃ z : Int, atI (ns.map V.int) i = some (.int z) := by
  obtain ⟨n, rfl⟩ : ∃ n : Nat, i = (n : Int) := ⟨i.toNat, by omega⟩
  have hl : n < ns.length := by omega
  exact ⟨ns[n], atI_nat (by simp [hl])⟩
theorem dp_all {K : PySem.W.Frag} {H : Hp} : ∀ ns : List Int, DpAll K H (ns.map V.int) (ns.map PyData.int)
  | [] => .nil
  | n :: r => .cons (.int n) (dp_all r)
theorem dp_ints {K : PySem.W.Frag} {H : Hp} {a : Addr} {ns : List Int} (h : SqL K H a (ns.map V.int)) : Dp K H (.ref a) (.list (ns.map PyData.int)) := .lst h (dp_all ns)
theorem shaped_ints (ns : List Int) : SeqAt.shaped (.list (ns.map PyData.int)) = true := by
  have h : ∀ l : List Int, PyData.canLayAll0 (l.map PyData.int) = true ∧ PyData.depthAll (l.map PyData.int) = 0 := fun l => by
    induction l with
    | nil => exact ⟨by simp [PyData.canLayAll0], by simp [PyData.depthAll]⟩
    | cons n r ih => exact ⟨by simp [PyData.canLayAll0, PyData.canLay0, ih.1], by simp [PyData.depthAll, PyData.depth, ih.2]⟩
  obtain ⟨h1, h2⟩ := h ns
  simp [SeqAt.shaped, PyData.canLay0, PyData.depth, h1, h2]
theorem eqv_nil (ns : List Int) : (!PyData.eqv (.list (ns.map PyData.int)) (.list [])) = !ns.isEmpty := by
  cases ns <;> simp [PyData.eqv, PyData.eqvAll]
theorem last (ds : List Int) (h : 0 < ds.length) : ∃ es e, ds = es ++ [e] := ⟨ds.dropLast, ds.getLast (by intro z; rw [z] at h; exact absurd h (by decide)), (List.dropLast_concat_getLast _).symm⟩
theorem last2 (ds : List Int) (h : 1 < ds.length) : ∃ es e2 e1, ds = es ++ [e2, e1] := by
  obtain ⟨fs, e1, rfl⟩ := last ds (by omega)
  obtain ⟨es, e2, rfl⟩ := last fs (by simp at h; omega)
  exact ⟨es, e2, e1, by simp⟩
theorem last3 (ds : List Int) (h : 2 < ds.length) : ∃ es e3 e2 e1, ds = es ++ [e3, e2, e1] := by
  obtain ⟨fs, e1, rfl⟩ := last ds (by omega)
  obtain ⟨es, e3, e2, rfl⟩ := last2 fs (by simp at h; omega)
  exact ⟨es, e3, e2, e1, by simp⟩
theorem sub {P : Int → Prop} {es r : List Int} (h : ∀ d ∈ es ++ r, P d) : ∀ d ∈ es, P d := fun d hd => h d (List.mem_append_left _ hd)
theorem shaped_tints (ns : List Int) : SeqAt.shaped (.tuple (ns.map PyData.int)) = true := by
  have h : ∀ l : List Int, PyData.canLayAll0 (l.map PyData.int) = true ∧ PyData.depthAll (l.map PyData.int) = 0 := fun l => by
    induction l with
    | nil => exact ⟨by simp [PyData.canLayAll0], by simp [PyData.depthAll]⟩
    | cons n r ih => exact ⟨by simp [PyData.canLayAll0, PyData.canLay0, ih.1], by simp [PyData.depthAll, PyData.depth, ih.2]⟩
  obtain ⟨h1, h2⟩ := h ns
  simp [SeqAt.shaped, PyData.canLay0, PyData.depth, h1, h2]
theorem emod_le {a b : Int} (h : 0 ≤ a) (hb : 0 < b) : a % b ≤ a := by
  have e := Int.emod_add_mul_ediv a b
  have z := Int.mul_nonneg (Int.le_of_lt hb) (Int.ediv_nonneg h (Int.le_of_lt hb))
  omega
end Dk
namespace Lw
open PySem PySem.Spec PyProof.Rows L2 Gx
/-- a deck: a new list of so many numbers, each from 0 on, of at most 61 figures -/
def Deck (ds : List Int) : Prop := ∀ d ∈ ds, 0 ≤ d ∧ d < 10000000000000000000000000000000000000000000000000000000000000
theorem Deck.last {es : List Int} {e : Int} (h : Deck (es ++ [e])) : Deck es ∧ 0 ≤ e ∧ e < 10000000000000000000000000000000000000000000000000000000000000 := ⟨fun d hd => h d (List.mem_append_left _ hd), h e (by simp)⟩
end Lw
namespace Ct
open PySem PySem.Spec PyProof.Rows L2
theorem to {xs : List V} {k : Nat} (h : k ≤ xs.length) : cutV xs none (some (k : Int)) = xs.take k := by
  unfold cutV
  rw [HT.sIx_none, HT.sIx_nat, Nat.min_eq_left h]
  simp
theorem from_ {xs : List V} {k : Nat} (h : k ≤ xs.length) : cutV xs (some (k : Int)) none = xs.drop k := by
  unfold cutV
  rw [HT.sIx_none, HT.sIx_nat, Nat.min_eq_left h]
  rw [List.take_of_length_le]
  simp
end Ct
namespace Dt
open PySem PySem.Spec PyProof.Rows L2 Gx
/-! shape, with its depth -/
def Sh (k : Nat) (d : PyData) : Prop := d.canLay0 = true ∧ d.depth ≤ k
theorem sh_int {k : Nat} (i : Int) : Sh k (.int i) := ⟨by simp [PyData.canLay0], by simp [PyData.depth]⟩
theorem sh_bl {k : Nat} (b : Bool) : Sh k (.bool b) := ⟨by simp [PyData.canLay0], by simp [PyData.depth]⟩
theorem sh_non {k : Nat} : Sh k .none := ⟨by simp [PyData.canLay0], by simp [PyData.depth]⟩
theorem sh_str {k : Nat} {x : Str} (h : PyData.strOk x = true) : Sh k (.str x) := ⟨by simpa [PyData.canLay0] using h, by simp [PyData.depth]⟩
theorem shAll {k : Nat} : ∀ {ds : List PyData}, (∀ d ∈ ds, Sh k d) → PyData.canLayAll0 ds = true ∧ PyData.depthAll ds ≤ k
  | [], _ => ⟨by simp [PyData.canLayAll0], by simp [PyData.depthAll]⟩
  | d :: ds, h => by
    obtain ⟨h1, h2⟩ := shAll fun x hx => h x (List.mem_cons_of_mem d hx)
    obtain ⟨g1, g2⟩ := h d (List.mem_cons_self ..)
    exact ⟨by simp [PyData.canLayAll0, g1, h1], by simp [PyData.depthAll]; omega⟩
theorem sh_tup {k : Nat} {ds : List PyData} (h : ∀ d ∈ ds, Sh k d) : Sh (k + 1) (.tuple ds) := by
  obtain ⟨h1, h2⟩ := shAll h
  exact ⟨by simpa [PyData.canLay0] using h1, by simp [PyData.depth]; omega⟩
theorem sh_lst {k : Nat} {ds : List PyData} (h : ∀ d ∈ ds, Sh k d) : Sh (k + 1) (.list ds) := by
  obtain ⟨h1, h2⟩ := shAll h
  exact ⟨by simpa [PyData.canLay0] using h1, by simp [PyData.depth]; omega⟩
theorem Sh.mono {k n : Nat} {d : PyData} (h : Sh k d) (e : k ≤ n) : Sh n d := ⟨h.1, Nat.le_trans h.2 e⟩
theorem Sh.ok {k : Nat} {d : PyData} (h : Sh k d) (e : k ≤ 64 := by decide) : SeqAt.shaped d = true := by
  unfold SeqAt.shaped
  rw [h.1, decide_eq_true (Nat.le_trans h.2 e)]
  rfl
theorem refl {k : Nat} {d : PyData} (h : Sh k d) : PyData.eqv d d = true := SeqAt.eqv_refl _ h.1
/-! data taken apart -/
variable {K : PySem.W.Frag} {H : Hp}
theorem tup {v : V} {ds : List PyData} (h : Dp K H v (.tuple ds)) : ∃ p xs, v = .ref p ∧ SqT K H p xs ∧ DpAll K H xs ds := by
  cases h with
  | tup a b => exact ⟨_, _, rfl, a, b⟩
theorem lst {v : V} {ds : List PyData} (h : Dp K H v (.list ds)) : ∃ p xs, v = .ref p ∧ SqL K H p xs ∧ DpAll K H xs ds := by
  cases h with
  | lst a b => exact ⟨_, _, rfl, a, b⟩
theorem int {v : V} {i : Int} (h : Dp K H v (.int i)) : v = .int i := by cases h; rfl
theorem str {v : V} {x : Str} (h : Dp K H v (.str x)) : v = .str x := by cases h; rfl
theorem bl {v : V} {b : Bool} (h : Dp K H v (.bool b)) : v = .bl b := by cases h; rfl
theorem non {v : V} (h : Dp K H v .none) : v = .non := by cases h; rfl
theorem len : ∀ {xs : List V} {ds : List PyData}, DpAll K H xs ds → xs.length = ds.length
  | _, _, .nil => rfl
  | _, _, .cons _ r => congrArg (· + 1) (len r)
theorem at_ : ∀ {xs : List V} {ds : List PyData} {i : Nat} {x : V}, DpAll K H xs ds → xs[i]? = some x → ∃ d, ds[i]? = some d ∧ Dp K H x d
  | _, _, 0, x, .cons (d := d) a r, e => ⟨d, rfl, (Option.some.inj e) ▸ a⟩
  | _, _, i + 1, x, .cons a r, e => at_ (i := i) r e
theorem at2 : ∀ {xs : List V} {ds : List PyData} {i : Nat} {d : PyData}, DpAll K H xs ds → ds[i]? = some d → ∃ x, xs[i]? = some x ∧ Dp K H x d
  | _, _, 0, d, .cons (v := v) a r, e => ⟨v, rfl, (Option.some.inj e) ▸ a⟩
  | _, _, i + 1, d, .cons a r, e => at2 (i := i) r e
theorem cons {x : V} {xs : List V} {d : PyData} {ds : List PyData} (h : DpAll K H (x :: xs) (d :: ds)) : Dp K H x d ∧ DpAll K H xs ds := by
  cases h with
  | cons a b => exact ⟨a, b⟩
theorem pair {v : V} {a b : PyData} (h : Dp K H v (.tuple [a, b])) : ∃ p x y, v = .ref p ∧ SqT K H p [x, y] ∧ Dp K H x a ∧ Dp K H y b := by
  obtain ⟨p, xs, rfl, s, g⟩ := tup h
  cases g with
  | cons h1 g =>
    cases g with
    | cons h2 g =>
      cases g
      exact ⟨p, _, _, rfl, s, h1, h2⟩
theorem app : ∀ {xs : List V} {ds : List PyData} {ys : List V} {es : List PyData}, DpAll K H xs ds → DpAll K H ys es → DpAll K H (xs ++ ys) (ds ++ es)
  | _, _, _, _, .nil, g => g
  | _, _, _, _, .cons a r, g => .cons a (app r g)
theorem take : ∀ {xs : List V} {ds : List PyData} (n : Nat), DpAll K H xs ds → DpAll K H (xs.take n) (ds.take n)
  | _, _, 0, _ => .nil
  | _, _, n + 1, .nil => .nil
  | _, _, n + 1, .cons a r => .cons a (take n r)
theorem drop : ∀ {xs : List V} {ds : List PyData} (n : Nat), DpAll K H xs ds → DpAll K H (xs.drop n) (ds.drop n)
  | _, _, 0, h => h
  | _, _, n + 1, .nil => .nil
  | _, _, n + 1, .cons a r => drop n r
theorem set : ∀ {xs : List V} {ds : List PyData} (n : Nat) {x : V} {d : PyData}, DpAll K H xs ds → Dp K H x d → DpAll K H (xs.set n x) (ds.set n d)
  | _, _, _, _, _, .nil, _ => .nil
  | _, _, 0, _, _, .cons a r, h => .cons h r
  | _, _, n + 1, _, _, .cons a r, h => .cons a (set n r h)
theorem two {x y : V} {a b : PyData} (h1 : Dp K H x a) (h2 : Dp K H y b) : DpAll K H [x, y] [a, b] := .cons h1 (.cons h2 .nil)
theorem intz (ns : List Int) : DpAll K H (ns.map V.int) (ns.map PyData.int) := Dk.dp_all ns
theorem strz : ∀ ns : List Str, DpAll K H (ns.map V.str) (ns.map PyData.str)
  | [] => .nil
  | n :: r => .cons (.str n) (strz r)
theorem of_strs : ∀ {xs : List V} {ns : List Str}, DpAll K H xs (ns.map PyData.str) → xs = ns.map V.str
  | _, [], .nil => rfl
  | _, n :: r, .cons a g => by rw [str a, of_strs g]; rfl
theorem of_ints : ∀ {xs : List V} {ns : List Int}, DpAll K H xs (ns.map PyData.int) → xs = ns.map V.int
  | _, [], .nil => rfl
  | _, n :: r, .cons a g => by rw [int a, of_ints g]; rfl
/-- the list's own data, once more where others are appended -/
theorem snoc {xs : List V} {ds : List PyData} {x : V} {d : PyData} (h : DpAll K H xs ds) (g : Dp K H x d) : DpAll K H (xs ++ [x]) (ds ++ [d]) := app h (.cons g .nil)
theorem noLs_of : ∀ {ds : List PyData}, (∀ d ∈ ds, noL d = true) → noLs ds = true
  | [], _ => by simp [noLs]
  | d :: ds, h => by simp [noLs, h d (List.mem_cons_self ..), noLs_of fun x hx => h x (List.mem_cons_of_mem d hx)]
theorem noL_tup {ds : List PyData} (h : ∀ d ∈ ds, noL d = true) : noL (.tuple ds) = true := by simpa [noL] using noLs_of h
/-! == of data, told -/
theorem eqv_int (a b : Int) : PyData.eqv (.int a) (.int b) = decide (a = b) := by simp [PyData.eqv]; by_cases h : a = b <;> simp [h]
theorem eqv_bl (a b : Bool) : PyData.eqv (.bool a) (.bool b) = decide (a = b) := by cases a <;> cases b <;> simp [PyData.eqv]
end Dt
namespace Fr
open PySem PySem.Spec PyProof.Rows L2
/-- a fraction's two parts -/
abbrev fq (q : Rat) : List V := [.int q.num, .int (q.den : Int)]
def fqd (q : Rat) : PyData := .tuple [.int q.num, .int (q.den : Int)]
theorem dp_fq {K : PySem.W.Frag} {H : Hp} {p : Addr} {q : Rat} (h : SqT K H p (fq q)) : Dp K H (.ref p) (fqd q) := .tup h (.cons (.int _) (.cons (.int _) .nil))
theorem shaped_fq (q : Rat) : SeqAt.shaped (fqd q) = true := by simp [SeqAt.shaped, fqd, PyData.canLay0, PyData.canLayAll0, PyData.depth, PyData.depthAll]
theorem eqv_fq (x y : Rat) : PyData.eqv (fqd x) (fqd y) = decide (x = y) := by
  have e : PyData.eqv (fqd x) (fqd y) = (decide (x.num = y.num) && decide (x.den = y.den)) := by
    simp [fqd, PyData.eqv, PyData.eqvAll]
    by_cases h1 : x.num = y.num <;> by_cases h2 : x.den = y.den <;> simp [h1, h2] <;> omega
  rw [e]
  by_cases h : x = y
  · simp [h]
  · have : ¬ (x.num = y.num ∧ x.den = y.den) := fun z => h (Rat.ext z.1 z.2)
    simp [h]
    exact fun z w => this ⟨z, w⟩
/-! ### the greatest divisor -/
theorem gcd_fmod (a b : Int) : Int.gcd b (a.fmod b) = Int.gcd a b := by
  rw [Int.fmod_def, Int.gcd_sub_mul_left_right, Int.gcd_comm]
theorem fmod_nn (a : Int) {b : Int} (h : 0 < b) : 0 ≤ a.fmod b := by
  rw [Int.fmod_eq_emod_of_nonneg a (by omega)]
  exact Int.emod_nonneg _ (by omega)
theorem fmod_less {a b : Int} (h : b ≠ 0) : (a.fmod b).natAbs < b.natAbs := by
  rcases Int.lt_or_lt_of_ne h with c | c
  · have e : a.fmod b = -((-a).fmod (-b)) := by
      rw [Int.fmod_def, Int.fmod_def, Int.neg_fdiv_neg]
      have := Int.neg_mul b (a.fdiv b)
      omega
    have h1 := fmod_nn (-a) (show 0 < -b by omega)
    have h2 := Int.fmod_lt_of_pos (-a) (show 0 < -b by omega)
    omega
  · have h1 := fmod_nn a c
    have h2 := Int.fmod_lt_of_pos a c
    omega
/-- what lowest makes -/
theorem low_num {a b d : Int} (hb : b ≠ 0) (hd : d = if b < 0 then 0 - (Int.gcd a b : Int) else (Int.gcd a b : Int)) : a.fdiv d = (Rat.divInt a b).num := by
  have g0 : (0 : Int) < Int.gcd a b := by have := Int.gcd_pos_of_ne_zero_right a hb; omega
  obtain ⟨k, hk⟩ := Int.gcd_dvd_left a b
  rw [Rat.num_divInt, Int.gcd_comm b a]
  rcases Int.lt_or_lt_of_ne hb with c | c
  · rw [if_pos c] at hd
    rw [Int.sign_eq_neg_one_of_neg c]
    have e1 : a.fdiv d = -k := by
      have : a = d * (-k) := by rw [hd, Int.zero_sub, Int.neg_mul_neg]; exact hk
      rw [this]
      exact Int.mul_fdiv_cancel_left _ (by omega)
    have e2 : -1 * a / (Int.gcd a b : Int) = -k := by
      have : -1 * a = (Int.gcd a b : Int) * (-k) := by rw [Int.mul_neg, ← hk]; omega
      rw [this]
      exact Int.mul_ediv_cancel_left _ (by omega)
    rw [e1, e2]
  · rw [if_neg (by omega)] at hd
    rw [Int.sign_eq_one_of_pos c, Int.one_mul, hd, Int.fdiv_eq_ediv_of_nonneg a (by omega)]
theorem low_den {a b d : Int} (hb : b ≠ 0) (hd : d = if b < 0 then 0 - (Int.gcd a b : Int) else (Int.gcd a b : Int)) : b.fdiv d = ((Rat.divInt a b).den : Int) := by
  have g0 : (0 : Int) < Int.gcd a b := by have := Int.gcd_pos_of_ne_zero_right a hb; omega
  obtain ⟨k, hk⟩ := Int.gcd_dvd_right a b
  have e3 : ((Rat.divInt a b).den : Int) = (b.natAbs : Int) / (Int.gcd a b : Int) := by
    rw [Rat.den_divInt, if_neg hb, Int.gcd_comm b a]
    rfl
  rw [e3]
  rcases Int.lt_or_lt_of_ne hb with c | c
  · rw [if_pos c] at hd
    have e1 : b.fdiv d = -k := by
      have : b = d * (-k) := by rw [hd, Int.zero_sub, Int.neg_mul_neg]; exact hk
      rw [this]
      exact Int.mul_fdiv_cancel_left _ (by omega)
    have e2 : (b.natAbs : Int) / (Int.gcd a b : Int) = -k := by
      have : (b.natAbs : Int) = (Int.gcd a b : Int) * (-k) := by rw [Int.mul_neg, ← hk]; omega
      rw [this]
      exact Int.mul_ediv_cancel_left _ (by omega)
    rw [e1, e2]
  · rw [if_neg (by omega)] at hd
    rw [hd, Int.fdiv_eq_ediv_of_nonneg b (by omega)]
    congr 1
    omega
/-! ### sizes -/
def Sz (n : Nat) (q : Rat) : Prop := q.num.natAbs < 2 ^ n ∧ q.den < 2 ^ n
theorem pw {a b : Nat} (h : a ≤ b) : 2 ^ a ≤ 2 ^ b := Nat.pow_le_pow_right (by decide) h
theorem Sz.mono {m n : Nat} {q : Rat} (h : Sz m q) (l : m ≤ n) : Sz n q := ⟨Nat.lt_of_lt_of_le h.1 (pw l), Nat.lt_of_lt_of_le h.2 (pw l)⟩
theorem divInt_num_le {a b : Int} (hb : b ≠ 0) : (Rat.divInt a b).num.natAbs ≤ a.natAbs := by
  rw [Rat.num_divInt]
  have h : (b.sign * a / (Int.gcd b a : Int)).natAbs ≤ (b.sign * a).natAbs := Int.natAbs_ediv_le_natAbs _ _
  have e : (b.sign * a).natAbs = a.natAbs := by
    rw [Int.natAbs_mul, Int.natAbs_sign_of_ne_zero hb, Nat.one_mul]
  omega
theorem divInt_den_le {a b : Int} (hb : b ≠ 0) : (Rat.divInt a b).den ≤ b.natAbs := by
  rw [Rat.den_divInt, if_neg hb]
  exact Nat.div_le_self _ _
theorem sz_divInt {a b : Int} {n : Nat} (hb : b ≠ 0) (h1 : a.natAbs < 2 ^ n) (h2 : b.natAbs < 2 ^ n) : Sz n (Rat.divInt a b) := ⟨Nat.lt_of_le_of_lt (divInt_num_le hb) h1, Nat.lt_of_le_of_lt (divInt_den_le hb) h2⟩
theorem mul_lt {a b : Int} {m n : Nat} (ha : a.natAbs < 2 ^ m) (hb : b.natAbs < 2 ^ n) : (a * b).natAbs < 2 ^ (m + n) := by
  rw [Int.natAbs_mul, Nat.pow_add]
  exact Nat.mul_lt_mul'' ha hb
theorem add_lt {a b : Int} {m : Nat} (ha : a.natAbs < 2 ^ m) (hb : b.natAbs < 2 ^ m) : (a + b).natAbs < 2 ^ (m + 1) := by
  rw [Nat.pow_succ]
  omega
theorem sub_lt {a b : Int} {m : Nat} (ha : a.natAbs < 2 ^ m) (hb : b.natAbs < 2 ^ m) : (a - b).natAbs < 2 ^ (m + 1) := by
  rw [Nat.pow_succ]
  omega
theorem den_ne (q : Rat) : (q.den : Int) ≠ 0 := by have := q.den_nz; omega
theorem den_pos (q : Rat) : (0 : Int) < (q.den : Int) := by have := q.den_nz; omega
theorem add_eq (x y : Rat) : Rat.divInt (x.num * y.den + y.num * x.den) (x.den * y.den) = x + y := by
  rw [Rat.add_def']
  exact Rat.divInt_ofNat _ (x.den * y.den)
theorem sub_eq (x y : Rat) : Rat.divInt (x.num * y.den - y.num * x.den) (x.den * y.den) = x - y := by
  rw [Rat.sub_def']
  exact Rat.divInt_ofNat _ (x.den * y.den)
theorem mul_eq (x y : Rat) : Rat.divInt (x.num * y.num) (x.den * y.den) = x * y := by
  rw [Rat.mul_def']
  exact Rat.divInt_ofNat _ (x.den * y.den)
theorem div_eq (x y : Rat) : Rat.divInt (x.num * y.den) (x.den * y.num) = x / y := by
  rw [Rat.div_def, Rat.inv_def, ← Rat.divInt_mul_divInt, Rat.num_divInt_den]
theorem Sz.den {n : Nat} {q : Rat} (h : Sz n q) : ((q.den : Int)).natAbs < 2 ^ n := h.2
theorem dd_lt {x y : Rat} {m n : Nat} (hx : Sz m x) (hy : Sz n y) : ((x.den : Int) * (y.den : Int)).natAbs < 2 ^ (m + n) := mul_lt hx.den hy.den
theorem up1 {a : Int} {n : Nat} (h : a.natAbs < 2 ^ n) : a.natAbs < 2 ^ (n + 1) := Nat.lt_of_lt_of_le h (pw (by omega))
theorem nn_lt {x y : Rat} {m n : Nat} (hx : Sz m x) (hy : Sz n y) : (x.num * (y.den : Int) + y.num * (x.den : Int)).natAbs < 2 ^ (m + n + 1) := by
  have h1 := mul_lt hx.1 hy.den
  have h2 := mul_lt hy.1 hx.den
  rw [Nat.add_comm n m] at h2
  exact add_lt h1 h2
theorem ns_lt {x y : Rat} {m n : Nat} (hx : Sz m x) (hy : Sz n y) : (x.num * (y.den : Int) - y.num * (x.den : Int)).natAbs < 2 ^ (m + n + 1) := by
  have h1 := mul_lt hx.1 hy.den
  have h2 := mul_lt hy.1 hx.den
  rw [Nat.add_comm n m] at h2
  exact sub_lt h1 h2
theorem Sz.add {x y : Rat} {m n : Nat} (hx : Sz m x) (hy : Sz n y) : Sz (m + n + 1) (x + y) := by
  rw [← add_eq]
  exact sz_divInt (Int.mul_ne_zero (den_ne x) (den_ne y)) (nn_lt hx hy) (up1 (dd_lt hx hy))
theorem Sz.sub {x y : Rat} {m n : Nat} (hx : Sz m x) (hy : Sz n y) : Sz (m + n + 1) (x - y) := by
  rw [← sub_eq]
  exact sz_divInt (Int.mul_ne_zero (den_ne x) (den_ne y)) (ns_lt hx hy) (up1 (dd_lt hx hy))
theorem Sz.mul {x y : Rat} {m n : Nat} (hx : Sz m x) (hy : Sz n y) : Sz (m + n) (x * y) := by
  rw [← mul_eq]
  exact sz_divInt (Int.mul_ne_zero (den_ne x) (den_ne y)) (mul_lt hx.1 hy.1) (dd_lt hx hy)
theorem num_ne {y : Rat} (h : y ≠ 0) : y.num ≠ 0 := fun z => h (Rat.num_eq_zero.mp z)
theorem Sz.div {x y : Rat} {m n : Nat} (hx : Sz m x) (hy : Sz n y) : Sz (m + n) (x / y) := by
  by_cases h : y = 0
  · rw [h, Rat.div_def, Rat.inv_zero, Rat.mul_zero]
    have h3 : 1 < 2 ^ m := by have := hx.2; have := x.den_nz; omega
    exact ⟨Nat.lt_of_lt_of_le (by decide) (Nat.one_le_two_pow (n := m + n)), Nat.lt_of_lt_of_le h3 (pw (by omega))⟩
  · rw [← div_eq]
    exact sz_divInt (Int.mul_ne_zero (den_ne x) (num_ne h)) (mul_lt hx.1 hy.den) (mul_lt hx.den hy.1)
theorem gcd_small {a b : Int} {n : Nat} (hb : b ≠ 0) (h : b.natAbs < 2 ^ n) : Int.gcd a b < 2 ^ n := Nat.lt_of_le_of_lt (Int.gcd_le_natAbs_right a hb) h
end Fr
namespace Lw
open PySem PySem.Spec PyProof.Rows L2 Gx
/-- a divisor that the division may have -/
def Okd (a b : Int) : Prop := (a.natAbs < 2 ^ 13500 ∧ b.natAbs < 2 ^ 13500) ∨ Int.gcd a b < 2 ^ 9000
theorem Okd.div {a b d : Int} (h : Okd a b) (e : d.natAbs = Int.gcd a b) : Builtin.divisionGoesByPylong a d = false ∧ Builtin.divisionGoesByPylong b d = false := by
  rcases h with ⟨h1, h2⟩ | h
  · exact ⟨noPy_mid h1, noPy_mid h2⟩
  · exact ⟨noPy_low (by rw [e]; exact h), noPy_low (by rw [e]; exact h)⟩
theorem okd_den {a b : Int} {n : Nat} (hb : b ≠ 0) (h : b.natAbs < 2 ^ n) (hn : n ≤ 9000) : Okd a b := .inr (Nat.lt_of_lt_of_le (Fr.gcd_small hb h) (Fr.pw hn))
end Lw
namespace Lw
open PySem PySem.Spec PyProof.Rows L2 Gx
/-- whether a value is a whole number, by its type -/
def Whole (K : PySem.W.Frag) (H : Hp) (x : V) (b : Bool) : Prop := ∃ (t : Value) (b1 b2 : Bool), TyX K H x t ∧ PySem.W.kitOne K t (.type "int") = some b1 ∧ PySem.W.kitOne K t (.type "bool") = some b2 ∧ b = (b1 && !b2)
theorem Whole.int {K : PySem.W.Frag} {H : Hp} (i : Int) : Whole K H (.int i) true := ⟨.type "int", true, false, .base (.int i), kit_ty (by decide +kernel), kit_ty (by decide +kernel), rfl⟩
theorem Whole.bl {K : PySem.W.Frag} {H : Hp} (b : Bool) : Whole K H (.bl b) false := ⟨.type "bool", true, true, .base (.bl b), kit_ty (by decide +kernel), kit_ty (by decide +kernel), rfl⟩
theorem Whole.str {K : PySem.W.Frag} {H : Hp} (x : Str) : Whole K H (.str x) false := ⟨.type "str", false, false, .base (.str x), kit_ty (by decide +kernel), kit_ty (by decide +kernel), rfl⟩
theorem Whole.non {K : PySem.W.Frag} {H : Hp} : Whole K H .non false := ⟨.type "NoneType", false, false, .base .non, kit_ty (by decide +kernel), kit_ty (by decide +kernel), rfl⟩
theorem Whole.same {K : PySem.W.Frag} {H H' : Hp} (e : Same H H') {x : V} {b : Bool} (h : Whole K H x b) : Whole K H' x b := by
  obtain ⟨t, b1, b2, ht, h⟩ := h
  exact ⟨t, b1, b2, tyx_same e ht, h⟩
theorem Whole.tup {K : PySem.W.Frag} {H : Hp} {p : Addr} {xs : List V} (h : SqT K H p xs) : Whole K H (.ref p) false := ⟨.type "tuple", false, false, ty_tup h, kit_ty (by decide +kernel), kit_ty (by decide +kernel), rfl⟩
theorem Whole.lst {K : PySem.W.Frag} {H : Hp} {p : Addr} {xs : List V} (h : SqL K H p xs) : Whole K H (.ref p) false := ⟨.type "list", false, false, ty_lst h, kit_ty (by decide +kernel), kit_ty (by decide +kernel), rfl⟩
theorem Whole.dict {K : PySem.W.Frag} {H : Hp} {p : Addr} {kvs : List (Key × V)} (h : H p = some (.dK kvs)) : Whole K H (.ref p) false := ⟨.type "dict", false, false, .base (.dK h), kit_ty (by decide +kernel), kit_ty (by decide +kernel), rfl⟩
/-- whether a thing is a fraction -/
inductive IsF (K : PySem.W.Frag) (H : Hp) : V → Bool → Prop
  | kind {x : V} {t : Value} (ht : TyX K H x t) (hk : PySem.W.kitOne K t (.type "tuple") = some false) : IsF K H x false
  | len {p : Addr} {xs : List V} (h : SqT K H p xs) (hl : xs.length ≠ 2) : IsF K H (.ref p) false
  | parts {p : Addr} {u v : V} {bu bv : Bool} (h : SqT K H p [u, v]) (hu : Whole K H u bu) (hv : Whole K H v bv) (hb : (bu && bv) = false) : IsF K H (.ref p) false
  | whole {p : Addr} {c d : Int} (h : SqT K H p [.int c, .int d]) : IsF K H (.ref p) (decide (0 < d) && decide (Int.gcd c d = 1))
theorem IsF.int {K : PySem.W.Frag} {H : Hp} (i : Int) : IsF K H (.int i) false := .kind (.base (.int i)) (kit_ty (by decide +kernel))
theorem IsF.bl {K : PySem.W.Frag} {H : Hp} (b : Bool) : IsF K H (.bl b) false := .kind (.base (.bl b)) (kit_ty (by decide +kernel))
theorem IsF.str {K : PySem.W.Frag} {H : Hp} (x : Str) : IsF K H (.str x) false := .kind (.base (.str x)) (kit_ty (by decide +kernel))
theorem IsF.non {K : PySem.W.Frag} {H : Hp} : IsF K H .non false := .kind (.base .non) (kit_ty (by decide +kernel))
theorem IsF.lst {K : PySem.W.Frag} {H : Hp} {p : Addr} {xs : List V} (h : SqL K H p xs) : IsF K H (.ref p) false := .kind (ty_lst h) (kit_ty (by decide +kernel))
theorem IsF.dict {K : PySem.W.Frag} {H : Hp} {p : Addr} {kvs : List (Key × V)} (h : H p = some (.dK kvs)) : IsF K H (.ref p) false := .kind (.base (.dK h)) (kit_ty (by decide +kernel))
theorem IsF.yes {K : PySem.W.Frag} {H : Hp} {p : Addr} {q : Rat} (h : SqT K H p (Fr.fq q)) : IsF K H (.ref p) true := by
  have e2 : Int.gcd q.num (q.den : Int) = 1 := q.reduced
  have z := IsF.whole h
  rw [decide_eq_true (Fr.den_pos q), decide_eq_true e2] at z
  exact z
theorem all_cons {α : Type} {P : α → Prop} {a : α} {l : List α} (h : P a) (r : ∀ x ∈ l, P x) : ∀ x ∈ a :: l, P x := fun x hx => by
  rcases List.mem_cons.mp hx with e | e
  · rw [e]; exact h
  · exact r x e
theorem at_mem {xs : List V} {i : Int} (h0 : 0 ≤ i) (h1 : i < xs.length) : ∃ v, v ∈ xs ∧ atI xs i = some v := by
  obtain ⟨n, rfl⟩ : ∃ n : Nat, i = (n : Int) := ⟨i.toNat, by omega⟩
  exact ⟨xs[n]'(by omega), List.getElem_mem _, atI_nat (by simp)⟩
end Lw
namespace Lw
open PySem PySem.Spec PyProof.Rows L2 Gx
/-- fractions at some addresses -/
def Fqs (K : PySem.W.Frag) (H : Hp) (vs : List V) (qs : List Rat) : Prop := Paired (fun v q => ∃ p, v = V.ref p ∧ SqT K H p (Fr.fq q)) vs qs
theorem Fqs.same {K : PySem.W.Frag} {H H' : Hp} (e : Same H H') : ∀ {vs : List V} {qs : List Rat}, Fqs K H vs qs → Fqs K H' vs qs
  | _, _, .nil => .nil
  | _, _, .cons ⟨p, h1, h2⟩ r => .cons ⟨p, h1, seqT_same e h2⟩ (Fqs.same e r)
theorem Fqs.get {K : PySem.W.Frag} {H : Hp} : ∀ {vs : List V} {qs : List Rat} {i : Nat} {v : V}, Fqs K H vs qs → vs[i]? = some v → ∃ p q, v = .ref p ∧ qs[i]? = some q ∧ SqT K H p (Fr.fq q)
  | _, _, 0, v, .cons (b := q) ⟨p, h1, h2⟩ r, e => ⟨p, q, (Option.some.inj e).symm.trans h1, rfl, h2⟩
  | _, _, i + 1, v, .cons ⟨p, h1, h2⟩ r, e => Fqs.get (i := i) r e
theorem Fqs.len {K : PySem.W.Frag} {H : Hp} {vs : List V} {qs : List Rat} (h : Fqs K H vs qs) : vs.length = qs.length := Paired.length h
def sum (qs : List Rat) : Rat := qs.foldl (· + ·) 0
def szs (ns : List Nat) : Nat := ns.foldl (fun a n => a + n + 1) 1
theorem szs_snoc (l : List Nat) (n : Nat) : szs (l ++ [n]) = szs l + n + 1 := by simp [szs]
theorem sum_snoc (l : List Rat) (q : Rat) : sum (l ++ [q]) = sum l + q := by simp [sum]
theorem szs_take (l : List Nat) (i : Nat) : szs (l.take i) ≤ szs l := by
  have h : ∀ (m : List Nat) (a b : Nat), a ≤ b → a ≤ m.foldl (fun a n => a + n + 1) b := fun m => by
    induction m with
    | nil => intro a b h; exact h
    | cons x r ih => intro a b h; exact ih a _ (show a ≤ b + x + 1 by omega)
  have e : szs l = (l.drop i).foldl (fun a n => a + n + 1) (szs (l.take i)) := by
    unfold szs
    rw [← List.foldl_append, List.take_append_drop]
  rw [e]
  exact h _ _ _ (Nat.le_refl _)
theorem take_snoc {α : Type} {l : List α} {i : Nat} {x : α} (h : l[i]? = some x) : l.take (i + 1) = l.take i ++ [x] := by
  rw [List.take_add_one, h]
  rfl
theorem Paired.get {α β : Type} {F : α → β → Prop} : ∀ {as : List α} {bs : List β} {i : Nat} {a : α}, Paired F as bs → as[i]? = some a → ∃ b, bs[i]? = some b ∧ F a b
  | _, _, 0, a, .cons (b := b) h r, e => ⟨b, rfl, (Option.some.inj e) ▸ h⟩
  | _, _, i + 1, a, .cons h r, e => Paired.get (i := i) r e
theorem Fqs.snoc {K : PySem.W.Frag} {H : Hp} {p : Addr} {q : Rat} (h : SqT K H p (Fr.fq q)) : ∀ {vs : List V} {qs : List Rat}, Fqs K H vs qs → Fqs K H (vs ++ [.ref p]) (qs ++ [q])
  | _, _, .nil => .cons ⟨p, rfl, h⟩ .nil
  | _, _, .cons a r => .cons a (Fqs.snoc h r)
theorem Fqs.put {K : PySem.W.Frag} {H : Hp} {p : Addr} {q : Rat} (h : SqT K H p (Fr.fq q)) : ∀ (k : Nat) {vs : List V} {qs : List Rat}, Fqs K H vs qs → Fqs K H (vs.take k ++ [.ref p] ++ vs.drop k) (qs.take k ++ [q] ++ qs.drop k)
  | 0, _, _, r => .cons ⟨p, rfl, h⟩ r
  | _ + 1, _, _, .nil => .cons ⟨p, rfl, h⟩ .nil
  | k + 1, _, _, .cons a r => .cons a (Fqs.put h k r)
theorem foldl_add (l : List Rat) (a : Rat) : l.foldl (· + ·) a = a + sum l := by
  induction l generalizing a with
  | nil => show a = a + 0; rw [Rat.add_zero]
  | cons x r ih =>
    show r.foldl (· + ·) (a + x) = a + r.foldl (· + ·) (0 + x)
    rw [ih, ih, Rat.zero_add, Rat.add_assoc]
theorem sum_app (l m : List Rat) : sum (l ++ m) = sum l + sum m := by
  show (l ++ m).foldl (· + ·) 0 = _
  rw [List.foldl_append]
  exact foldl_add m _
theorem sum_put (l : List Rat) (k : Nat) (q : Rat) : sum (l.take k ++ [q] ++ l.drop k) = sum l + q := by
  have e : sum l = sum (l.take k) + sum (l.drop k) := by rw [← sum_app, List.take_append_drop]
  rw [sum_app, sum_app, e, show sum [q] = q from Rat.zero_add q, Rat.add_assoc, Rat.add_assoc, Rat.add_comm q]
theorem Fqs.dp {K : PySem.W.Frag} {H : Hp} : ∀ {vs : List V} {qs : List Rat}, Fqs K H vs qs → DpAll K H vs (qs.map Fr.fqd)
  | _, _, .nil => .nil
  | _, _, .cons ⟨p, e, h⟩ r => by
    subst e
    exact .cons (Fr.dp_fq h) (Fqs.dp r)
theorem shaped_fqs (qs : List Rat) : SeqAt.shaped (.list (qs.map Fr.fqd)) = true := by
  have h : ∀ l : List Rat, PyData.canLayAll0 (l.map Fr.fqd) = true ∧ PyData.depthAll (l.map Fr.fqd) ≤ 1 := fun l => by
    induction l with
    | nil => exact ⟨by simp [PyData.canLayAll0], by simp [PyData.depthAll]⟩
    | cons n r ih => exact ⟨by simp [PyData.canLayAll0, PyData.canLay0, Fr.fqd, ih.1], by simp [PyData.depthAll, PyData.depth, Fr.fqd]; have := ih.2; omega⟩
  obtain ⟨h1, h2⟩ := h qs
  have h3 : PyData.depthAll (qs.map Fr.fqd) + 1 ≤ 64 := by omega
  simp [SeqAt.shaped, PyData.canLay0, PyData.depth, h1, h3]
theorem szs_rep (n : Nat) : szs (List.replicate n 200) = 1 + 201 * n := by
  induction n with
  | zero => rfl
  | succ n ih => rw [List.replicate_succ', szs_snoc, ih]; omega
def All200 (qs : List Rat) : Prop := ∀ q ∈ qs, Fr.Sz 200 q
theorem All200.paired : ∀ {qs : List Rat}, All200 qs → Paired (fun q n => Fr.Sz n q) qs (List.replicate qs.length 200)
  | [], _ => .nil
  | q :: r, h => .cons (h q (List.mem_cons_self ..)) (All200.paired fun x hx => h x (List.mem_cons_of_mem _ hx))
end Lw
namespace Pl
open PySem PySem.Spec PyProof.Rows L2 Gx
abbrev P := List (Str × Int)
def pd (p : Str × Int) : PyData := .tuple [.str p.1, .int p.2]
def d (pl : P) : PyData := .tuple (pl.map pd)
def tot (pl : P) : Int := (pl.map (·.2)).sum
/-- a name: one to eight small letters -/
def Nm (s : Str) : Prop := 1 ≤ s.cps.size ∧ s.cps.size ≤ 8 ∧ ∀ c ∈ s.cps.toList, 97 ≤ c ∧ c ≤ 122
structure Good (pl : P) : Prop where
  nd : (pl.map (·.1)).Nodup
  nm : ∀ p ∈ pl, Nm p.1
  pos : ∀ p ∈ pl, 0 ≤ p.2
  t1 : 1 ≤ tot pl
  t2 : tot pl ≤ 60
  len : pl.length ≤ 9
def place : P → Int → Option (Str × Int)
  | [], _ => none
  | p :: r, k => if k < p.2 then some (p.1, k) else place r (k - p.2)
def numb : P → Str → Int → Int → Option Int
  | [], _, _, _ => none
  | p :: r, s, k, a => if p.1 = s ∧ 0 ≤ k ∧ k < p.2 then some (a + k) else numb r s k (a + p.2)
def row (p : Str × Int) : List (Str × Int) := (List.range p.2.toNat).map fun (k : Nat) => (p.1, (k : Int))
def places (pl : P) : List (Str × Int) := pl.flatMap row
theorem row_len (p : Str × Int) : (row p).length = p.2.toNat := by simp [row]
theorem tot_cons (p : Str × Int) (r : P) : tot (p :: r) = p.2 + tot r := by simp [tot]
theorem tot_nn : ∀ {pl : P}, (∀ p ∈ pl, 0 ≤ p.2) → 0 ≤ tot pl
  | [], _ => by simp [tot]
  | p :: r, h => by
    rw [tot_cons]
    have := tot_nn fun x hx => h x (List.mem_cons_of_mem p hx)
    have := h p (List.mem_cons_self ..)
    omega
theorem places_len : ∀ {pl : P}, (∀ p ∈ pl, 0 ≤ p.2) → ((places pl).length : Int) = tot pl
  | [], _ => rfl
  | p :: r, h => by
    have e : places (p :: r) = row p ++ places r := rfl
    rw [e, List.length_append, row_len, tot_cons]
    have := places_len fun x hx => h x (List.mem_cons_of_mem p hx)
    have := h p (List.mem_cons_self ..)
    omega
theorem row_at {p : Str × Int} {k : Nat} (h : (k : Int) < p.2) : (row p)[k]? = some (p.1, (k : Int)) := by
  unfold row
  rw [List.getElem?_map, List.getElem?_range (by omega)]
  rfl
theorem place_eq : ∀ {pl : P} {k : Nat}, (∀ p ∈ pl, 0 ≤ p.2) → place pl (k : Int) = (places pl)[k]?
  | [], k, _ => by simp [place, places]
  | p :: r, k, h => by
    have h0 := h p (List.mem_cons_self ..)
    have e : places (p :: r) = row p ++ places r := rfl
    rw [e]
    show (if (k : Int) < p.2 then _ else _) = _
    by_cases c : (k : Int) < p.2
    · rw [if_pos c, List.getElem?_append_left (by rw [row_len]; omega), row_at c]
    · rw [if_neg c, List.getElem?_append_right (by rw [row_len]; omega), row_len, show (k : Int) - p.2 = ((k - p.2.toNat : Nat) : Int) by omega]
      exact place_eq fun x hx => h x (List.mem_cons_of_mem p hx)
theorem mem_row {p q : Str × Int} (h : q ∈ row p) : q.1 = p.1 ∧ 0 ≤ q.2 ∧ q.2 < p.2 := by
  unfold row at h
  obtain ⟨k, hk, rfl⟩ := List.mem_map.mp h
  have := List.mem_range.mp hk
  exact ⟨rfl, by simp, by show (k : Int) < p.2; omega⟩
theorem mem_places : ∀ {pl : P} {q : Str × Int}, q ∈ places pl ↔ ∃ p ∈ pl, q.1 = p.1 ∧ 0 ≤ q.2 ∧ q.2 < p.2
  | pl, q => by
    unfold places
    rw [List.mem_flatMap]
    constructor
    · rintro ⟨p, hp, hq⟩
      exact ⟨p, hp, mem_row hq⟩
    · rintro ⟨p, hp, e, h0, h1⟩
      refine ⟨p, hp, ?_⟩
      unfold row
      rw [List.mem_map]
      refine ⟨q.2.toNat, List.mem_range.mpr (by omega), ?_⟩
      rw [← e, Int.toNat_of_nonneg h0]
theorem numb_none : ∀ {pl : P} {s : Str} {k a : Int}, numb pl s k a = none ↔ (s, k) ∉ places pl
  | [], s, k, a => by simp [numb, places]
  | p :: r, s, k, a => by
    have ih := numb_none (pl := r) (s := s) (k := k) (a := a + p.2)
    show (if _ then _ else _) = none ↔ _
    by_cases c : p.1 = s ∧ 0 ≤ k ∧ k < p.2
    · rw [if_pos c]
      refine ⟨fun z => (by cases z), fun z => (z ?_).elim⟩
      exact mem_places.mpr ⟨p, List.mem_cons_self .., c.1.symm, c.2.1, c.2.2⟩
    · rw [if_neg c, ih, mem_places, mem_places]
      constructor
      · rintro h ⟨x, hx, e⟩
        rcases List.mem_cons.mp hx with q | q
        · subst q; exact c ⟨e.1.symm, e.2.1, e.2.2⟩
        · exact h ⟨x, q, e⟩
      · rintro h ⟨x, hx, e⟩
        exact h ⟨x, List.mem_cons_of_mem _ hx, e⟩
theorem numb_at : ∀ {pl : P} {s : Str} {k a : Int} {i : Nat}, (pl.map (·.1)).Nodup → (∀ p ∈ pl, 0 ≤ p.2) → (places pl)[i]? = some (s, k) → numb pl s k a = some (a + (i : Int))
  | [], s, k, a, i, _, _, h => by simp [places] at h
  | p :: r, s, k, a, i, nd, h0, h => by
    have e : places (p :: r) = row p ++ places r := rfl
    have hp := h0 p (List.mem_cons_self ..)
    rw [List.map_cons, List.nodup_cons] at nd
    rw [e] at h
    show (if _ then _ else _) = _
    by_cases c : i < (row p).length
    · rw [List.getElem?_append_left c] at h
      rw [row_len] at c
      rw [row_at (by omega)] at h
      cases h
      rw [if_pos ⟨rfl, by omega, by omega⟩]
    · rw [List.getElem?_append_right (by omega)] at h
      rw [row_len] at h c
      have hm := mem_places.mp (List.mem_of_getElem? h)
      obtain ⟨x, hx, ex, _, _⟩ := hm
      rw [if_neg (fun z => nd.1 (by rw [z.1, show s = x.1 from ex]; exact List.mem_map_of_mem hx))]
      rw [numb_at nd.2 (fun x hx => h0 x (List.mem_cons_of_mem p hx)) h]
      congr 1
      omega
theorem sum_set : ∀ (cs : List Int) (j : Nat) (v : Int), j < cs.length → (cs.set j v).sum = cs.sum - cs.getD j 0 + v
  | [], j, v, h => by simp at h
  | c :: r, 0, v, h => by simp; omega
  | c :: r, j + 1, v, h => by
    have ih := sum_set r j v (by simpa using h)
    simp at ih ⊢
    omega
theorem sum_nn : ∀ {cs : List Int}, (∀ c ∈ cs, 0 ≤ c) → 0 ≤ cs.sum ∧ ∀ c ∈ cs, c ≤ cs.sum
  | [], _ => ⟨by simp, fun _ h => nomatch h⟩
  | c :: r, h => by
    obtain ⟨h1, h2⟩ := sum_nn fun x hx => h x (List.mem_cons_of_mem c hx)
    have h0 := h c (List.mem_cons_self ..)
    rw [List.sum_cons]
    refine ⟨by omega, fun x hx => ?_⟩
    rcases List.mem_cons.mp hx with e | e
    · rw [e]; omega
    · have := h2 x e; omega
theorem sum_set0 {cs : List Int} (h : ∀ c ∈ cs, 0 ≤ c) (h0 : cs.sum = 0) {j : Nat} (hj : j < cs.length) (v : Int) : (cs.set j v).sum = v := by
  obtain ⟨_, h2⟩ := sum_nn h
  have hm : cs.getD j 0 ∈ cs := by
    rw [show cs.getD j 0 = cs[j] by simp [hj]]
    exact List.getElem_mem hj
  have := h2 _ hm
  have := h _ hm
  rw [sum_set cs j v hj]
  omega
theorem zip_set : ∀ {ns : List Str} {cs : List Int} {j : Nat} {s : Str} (v : Int), ns[j]? = some s → ns.zip (cs.set j v) = (ns.zip cs).set j (s, v)
  | [], _, _, _, _, h => by simp at h
  | n :: r, [], j, s, v, h => by simp
  | n :: r, c :: t, 0, s, v, h => by simp at h; simp [h]
  | n :: r, c :: t, j + 1, s, v, h => by
    have ih := zip_set (cs := t) v (show r[j]? = some s by simpa using h)
    simp [ih]
/-! data -/
theorem noL_d (pl : P) : noL (d pl) = true := Dt.noL_tup fun x hx => by
  obtain ⟨p, _, rfl⟩ := List.mem_map.mp hx
  rfl
theorem Nm.ok {s : Str} (h : Nm s) : PyData.strOk s = true := by
  unfold PyData.strOk
  rw [← Array.all_toList, List.all_eq_true]
  intro c hc
  have := h.2.2 c hc
  simp
  omega
theorem sh_pd0 {k : Nat} {p : Str × Int} (h : PyData.strOk p.1 = true) : Dt.Sh (k + 1) (pd p) := Dt.sh_tup fun x hx => by
  rcases List.mem_cons.mp hx with e | e
  · rw [e]; exact Dt.sh_str h
  · rw [List.mem_singleton.mp e]; exact Dt.sh_int _
theorem ok_app {a b : Str} (h : PyData.strOk a = true) (g : PyData.strOk b = true) : PyData.strOk (a ++ b) = true := by
  unfold PyData.strOk at h g ⊢
  show (a.cps ++ b.cps).all _ = true
  rw [Array.all_append, h, g]
  rfl
theorem sh_pd {k : Nat} {p : Str × Int} (h : Nm p.1) : Dt.Sh (k + 1) (pd p) := Dt.sh_tup fun x hx => by
  rcases List.mem_cons.mp hx with e | e
  · rw [e]; exact Dt.sh_str h.ok
  · rw [List.mem_singleton.mp e]; exact Dt.sh_int _
theorem sh_places {pl : P} (h : ∀ p ∈ pl, Nm p.1) : ∀ q ∈ places pl, Nm q.1 := fun q hq => by
  obtain ⟨p, hp, e, _⟩ := mem_places.mp hq
  rw [e]
  exact h p hp
/-- a piles' tuple at a place -/
theorem at_pd {K : PySem.W.Frag} {H : Hp} {xs : List V} {pl : P} {i : Nat} {x : V} (h : DpAll K H xs (pl.map pd)) (e : xs[i]? = some x) : ∃ p s, pl[i]? = some p ∧ x = .ref s ∧ SqT K H s [.str p.1, .int p.2] := by
  obtain ⟨z, hz, hd⟩ := Dt.at_ h e
  rw [List.getElem?_map] at hz
  cases q : pl[i]? with
  | none => rw [q] at hz; cases hz
  | some p =>
    rw [q] at hz
    cases hz
    obtain ⟨s, u, v, rfl, hs, h1, h2⟩ := Dt.pair hd
    rw [Dt.str h1, Dt.int h2] at hs
    exact ⟨p, s, rfl, rfl, hs⟩
theorem dp_pd {K : PySem.W.Frag} {H : Hp} {s : Addr} {p : Str × Int} (h : SqT K H s [.str p.1, .int p.2]) : Dp K H (.ref s) (pd p) := .tup h (Dt.two (.str _) (.int _))
/-! what a place is -/
inductive IsPl (K : PySem.W.Frag) (H : Hp) : V → Option (Str × Int) → Prop
  | kind {x : V} {t : Value} (ht : TyX K H x t) (hk : PySem.W.kitOne K t (.type "tuple") = some false) : IsPl K H x none
  | len {p : Addr} {xs : List V} (h : SqT K H p xs) (hl : xs.length ≠ 2) : IsPl K H (.ref p) none
  | key {p : Addr} {u v : V} {t : Value} (h : SqT K H p [u, v]) (ht : TyX K H u t) (hk : PySem.W.kitOne K t (.type "str") = some false) : IsPl K H (.ref p) none
  | num {p : Addr} {s : Str} {v : V} (h : SqT K H p [.str s, v]) (hv : Lw.Whole K H v false) : IsPl K H (.ref p) none
  | yes {p : Addr} {s : Str} {k : Int} (h : SqT K H p [.str s, .int k]) : IsPl K H (.ref p) (some (s, k))
theorem IsPl.same {K : PySem.W.Frag} {H H' : Hp} (e : Same H H') {x : V} {o : Option (Str × Int)} (h : IsPl K H x o) : IsPl K H' x o := by
  cases h with
  | kind ht hk => exact .kind (tyx_same e ht) hk
  | len h hl => exact .len (seqT_same e h) hl
  | key h ht hk => exact .key (seqT_same e h) (tyx_same e ht) hk
  | num h hv => exact .num (seqT_same e h) (hv.same e)
  | yes h => exact .yes (seqT_same e h)
/-- a place, its name a text that can be laid -/
def Pq (K : PySem.W.Frag) (H : Hp) (x : V) : Prop := ∃ o, IsPl K H x o ∧ ∀ z, o = some z → PyData.strOk z.1 = true
theorem Pq.same {K : PySem.W.Frag} {H H' : Hp} (e : Same H H') {x : V} (h : Pq K H x) : Pq K H' x := by
  obtain ⟨o, h, g⟩ := h
  exact ⟨o, h.same e, g⟩
theorem Pq.no {K : PySem.W.Frag} {H : Hp} {x : V} (h : IsPl K H x none) : Pq K H x := ⟨none, h, fun _ z => nomatch z⟩
theorem Pq.yes {K : PySem.W.Frag} {H : Hp} {p : Addr} {s : Str} {k : Int} (h : SqT K H p [.str s, .int k]) (g : PyData.strOk s = true) : Pq K H (.ref p) := ⟨_, .yes h, fun z e => by cases e; exact g⟩
theorem eqv_pd (a b : Str × Int) : PyData.eqv (pd a) (pd b) = decide (a = b) := by
  obtain ⟨s, k⟩ := a
  obtain ⟨t, j⟩ := b
  by_cases h : s = t <;> by_cases g : k = j <;> simp [pd, PyData.eqv, PyData.eqvAll, h, g]
end Pl
namespace Pl
open PySem PySem.Spec PyProof.Rows L2 Gx
def abc : Str := "abcdefghijklmnopqrstuvwxyz"
theorem abc_at {i : Int} (h0 : 0 ≤ i) (h1 : i < 26) : atI abc.cps.toList i = some (97 + i.toNat) := by
  obtain ⟨k, rfl⟩ := Int.eq_ofNat_of_zero_le h0
  have h : ∀ k : Fin 26, atI abc.cps.toList ((k.1 : Nat) : Int) = some (97 + ((k.1 : Nat) : Int).toNat) := by decide +kernel
  exact h ⟨k, by omega⟩
def one (c : Nat) : Str := ⟨#[c]⟩
theorem join_ones : ∀ cs : List Nat, Txt.join Str.empty (cs.map one) = ⟨cs.toArray⟩ := fun cs => by
  show Builtin.Str.glued Str.empty (cs.map one) = _
  rw [PySem.StrLaws.glued_eq_join]
  induction cs with
  | nil => rfl
  | cons c r ih =>
    cases r with
    | nil => rfl
    | cons c2 r =>
      rw [List.map_cons, List.map_cons, join_cons_cons, ← List.map_cons, ih]
      show Str.append (Str.append (one c) Str.empty) ⟨_⟩ = _
      simp [Str.append, one, Str.empty]
theorem sum_ones (cs : List Nat) : ((cs.map one).map (·.length)).sum = cs.length := by
  induction cs with
  | nil => rfl
  | cons c r ih => rw [List.map_cons, List.map_cons, List.sum_cons, ih, List.length_cons]; show 1 + r.length = _; omega
/-- a text, one letter of it changed -/
def nm (cs : List Nat) (k : Nat) (c : Nat) : Str := ⟨(cs.set k c).toArray⟩
def Letters (cs : List Nat) : Prop := ∀ c ∈ cs, 97 ≤ c ∧ c ≤ 122
theorem Letters.set {cs : List Nat} (h : Letters cs) (k : Nat) {c : Nat} (hc : 97 ≤ c ∧ c ≤ 122) : Letters (cs.set k c) := fun x hx => by
  rcases List.mem_or_eq_of_mem_set hx with e | e
  · exact h x e
  · rw [e]; exact hc
theorem nm_of {cs : List Nat} (h : Letters cs) (h1 : 1 ≤ cs.length) (h8 : cs.length ≤ 8) : Nm ⟨cs.toArray⟩ := ⟨by simpa using h1, by simpa using h8, fun c hc => h c (by simpa using hc)⟩
theorem nm_inj {cs : List Nat} {k c d : Nat} (hk : k < cs.length) (h : nm cs k c = nm cs k d) : c = d := by
  unfold nm at h
  have h2 : cs.set k c = cs.set k d := by simpa using h
  have h3 := congrArg (fun l => l[k]?) h2
  simpa [hk] using h3
/-- so many names, one after another -/
def some_ (cs : List Nat) (k : Nat) (c0 : Int) (m : Nat) : List Str := (List.range m).map fun (j : Nat) => nm cs k (97 + ((c0 + (j : Int)) % 26).toNat)
theorem some_len (cs : List Nat) (k : Nat) (c0 : Int) (m : Nat) : (some_ cs k c0 m).length = m := by simp [some_]
theorem some_succ (cs : List Nat) (k : Nat) (c0 : Int) (m : Nat) : some_ cs k c0 (m + 1) = some_ cs k c0 m ++ [nm cs k (97 + ((c0 + (m : Int)) % 26).toNat)] := by simp [some_, List.range_succ]
theorem some_nd {cs : List Nat} {k : Nat} (hk : k < cs.length) (c0 : Int) {m : Nat} (hm : m ≤ 9) : (some_ cs k c0 m).Nodup := by
  unfold some_
  refine List.pairwise_map.mpr (List.Pairwise.imp_of_mem ?_ List.pairwise_lt_range)
  intro a b ha hb hab e
  have := nm_inj hk e
  have := List.mem_range.mp ha
  have := List.mem_range.mp hb
  omega
theorem some_nm {cs : List Nat} {k : Nat} (h : Letters cs) (h1 : 1 ≤ cs.length) (h8 : cs.length ≤ 8) (c0 : Int) (m : Nat) : ∀ s ∈ some_ cs k c0 m, Nm s := fun s hs => by
  obtain ⟨j, _, rfl⟩ := List.mem_map.mp hs
  exact nm_of (h.set k (by omega)) (by simpa using h1) (by simpa using h8)
theorem some_size {cs : List Nat} {k : Nat} {c0 : Int} {m : Nat} : ∀ s ∈ some_ cs k c0 m, s.cps.size = cs.length := fun s hs => by
  obtain ⟨j, _, rfl⟩ := List.mem_map.mp hs
  simp [nm]
/-- a text's front -/
theorem cut_front {s : Str} {k : Nat} (h : k ≤ s.cps.size) : cutS s none (some (k : Int)) = ⟨(s.cps.toList.take k).toArray⟩ := by
  unfold cutS
  rw [HT.sIx_none, HT.sIx_nat, Nat.min_eq_left (show k ≤ s.length from h)]
  rfl
def fr (s : Str) (k : Nat) : Str := ⟨(s.cps.toList.take (k + 1)).toArray⟩
theorem fr_size {s : Str} {k : Nat} (h : k < s.cps.size) : (fr s k).cps.size = k + 1 := by
  simp [fr]
  omega
theorem fr_nm {s : Str} {k : Nat} (h : Nm s) (hk : k < s.cps.size) : Nm (fr s k) := by
  refine ⟨by rw [fr_size hk]; omega, by rw [fr_size hk]; have := h.2.1; omega, fun c hc => h.2.2 c ?_⟩
  have : c ∈ s.cps.toList.take (k + 1) := by simpa [fr] using hc
  exact List.mem_of_mem_take this
theorem fr_all {s : Str} (h : s.cps.size = 8) : fr s 7 = s := by
  cases s with
  | mk a =>
    unfold fr
    congr 1
    have : a.toList.length = 8 := by simpa using h
    show (a.toList.take 8).toArray = a
    rw [List.take_of_length_le (by omega)]
/-- the fronts of the first, then the others -/
theorem fronts_nd {s : Str} {r : List Str} (h : s.cps.size = 8) (hr : ∀ x ∈ r, x.cps.size = 8) (nd : (s :: r).Nodup) : ((List.range 8).map (fr s) ++ r).Nodup := by
  have nd2 := List.nodup_cons.mp nd
  refine List.pairwise_append.mpr ⟨?_, nd2.2, ?_⟩
  · refine List.pairwise_map.mpr (List.Pairwise.imp_of_mem ?_ List.pairwise_lt_range)
    intro a b ha hb hab e
    have := List.mem_range.mp ha
    have := List.mem_range.mp hb
    have e2 : (fr s a).cps.size = (fr s b).cps.size := congrArg (fun x : Str => x.cps.size) e
    rw [fr_size (by omega), fr_size (by omega)] at e2
    omega
  · intro a ha b hb e
    obtain ⟨j, hj, rfl⟩ := List.mem_map.mp ha
    have := List.mem_range.mp hj
    have e2 : (fr s j).cps.size = b.cps.size := congrArg (fun x : Str => x.cps.size) e
    rw [fr_size (by omega), hr b hb] at e2
    obtain rfl : j = 7 := by omega
    rw [fr_all h] at e
    exact nd2.1 (e ▸ hb)
end Pl
namespace Lw
open PySem PySem.Spec PyProof.Rows L2 Gx
def top (i : Nat) : Stmt := PySem.Challenge.pw_surecount_k23_no_places.main.body.getD i (.Pass ⟨0, 0, 0, 0⟩)
abbrev s_is_whole : Stmt := top 10
theorem sc_is_whole : FnScope ["thing"] ["thing"] (defScope s_is_whole) := ⟨rfl, rfl, rfl, by decide +kernel, rfl, by decide +kernel, by decide +kernel⟩
abbrev s_ballots_in : Stmt := top 12
theorem sc_ballots_in : FnScope ["piles", "name", "count"] ["piles"] (defScope s_ballots_in) := ⟨rfl, rfl, rfl, by decide +kernel, rfl, by decide +kernel, by decide +kernel⟩
abbrev s_place_of : Stmt := top 13
theorem sc_place_of : FnScope ["piles", "number", "name", "count"] ["piles", "number"] (defScope s_place_of) := ⟨rfl, rfl, rfl, by decide +kernel, rfl, by decide +kernel, by decide +kernel⟩
abbrev s_number_of : Stmt := top 14
theorem sc_number_of : FnScope ["piles", "place", "ahead", "name", "count"] ["piles", "place"] (defScope s_number_of) := ⟨rfl, rfl, rfl, by decide +kernel, rfl, by decide +kernel, by decide +kernel⟩
abbrev s__law_whole : Stmt := top 16
theorem sc__law_whole : FnScope ["_law_found"] ["_law_found"] (defScope s__law_whole) := ⟨rfl, rfl, rfl, by decide +kernel, rfl, by decide +kernel, by decide +kernel⟩
abbrev s__law_digits : Stmt := top 17
theorem sc__law_digits : FnScope ["_law_script", "_law_k", "_law_cell", "_law_turn"] ["_law_script", "_law_k"] (defScope s__law_digits) := ⟨rfl, rfl, rfl, by decide +kernel, rfl, by decide +kernel, by decide +kernel⟩
abbrev s__law_deck : Stmt := top 18
theorem sc__law_deck : FnScope ["_law_script", "_law_most", "_law_deck_here", "_law_last", "_law_k", "_law_number_here"] ["_law_script", "_law_most"] (defScope s__law_deck) := ⟨rfl, rfl, rfl, by decide +kernel, rfl, by decide +kernel, by decide +kernel⟩
abbrev s__law_names : Stmt := top 19
theorem sc__law_names : FnScope ["_law_deck_here", "_law_many", "_law_letters", "_law_cell", "_law_size", "_law_k", "_law_base", "_law_at", "_law_some"] ["_law_deck_here", "_law_many"] (defScope s__law_names) := ⟨rfl, rfl, rfl, by decide +kernel, rfl, by decide +kernel, by decide +kernel⟩
abbrev s__law_piles : Stmt := top 20
theorem sc__law_piles : FnScope ["_law_deck_here", "_law_many", "_law_piles_here", "_law_left", "_law_name", "_law_cell", "_law_count"] ["_law_deck_here"] (defScope s__law_piles) := ⟨rfl, rfl, rfl, by decide +kernel, rfl, by decide +kernel, by decide +kernel⟩
abbrev s__law_places : Stmt := top 21
theorem sc__law_places : FnScope ["_law_piles_here", "_law_places_here", "_law_name", "_law_count", "_law_k"] ["_law_piles_here"] (defScope s__law_places) := ⟨rfl, rfl, rfl, by decide +kernel, rfl, by decide +kernel, by decide +kernel⟩
abbrev s__law_number : Stmt := top 22
theorem sc__law_number : FnScope ["_law_deck_here", "_law_many", "_law_cell", "_law_far", "_law_some"] ["_law_deck_here", "_law_many"] (defScope s__law_number) := ⟨rfl, rfl, rfl, by decide +kernel, rfl, by decide +kernel, by decide +kernel⟩
abbrev s__law_place : Stmt := top 23
theorem sc__law_place : FnScope ["_law_deck_here", "_law_piles_here", "_law_cell", "_law_name", "_law_count", "_law_number_here", "_law_strange", "_law_some", "_law_other"] ["_law_deck_here", "_law_piles_here"] (defScope s__law_place) := ⟨rfl, rfl, rfl, by decide +kernel, rfl, by decide +kernel, by decide +kernel⟩
abbrev s__law_refused : Stmt := top 24
theorem sc__law_refused : FnScope ["_law_way", "_law_piles_here", "_law_thing", "_law_refused_here", "_law_good", "e", "_law_others"] ["_law_way", "_law_piles_here", "_law_thing"] (defScope s__law_refused) := ⟨rfl, rfl, rfl, by decide +kernel, rfl, by decide +kernel, by decide +kernel⟩
abbrev s__law_is_place : Stmt := top 25
theorem sc__law_is_place : FnScope ["_law_piles_here", "_law_thing"] ["_law_piles_here", "_law_thing"] (defScope s__law_is_place) := ⟨rfl, rfl, rfl, by decide +kernel, rfl, by decide +kernel, by decide +kernel⟩
abbrev s_law : Stmt := top 26
theorem sc_law : FnScope ["_law_script", "_law_deck_here", "_law_piles_here", "_law_many", "_law_k", "_law_number_here", "_law_bad", "_law_place_here"] ["_law_script"] (defScope s_law) := ⟨rfl, rfl, rfl, by decide +kernel, rfl, by decide +kernel, by decide +kernel⟩
abbrev FnP (K : PySem.W.Frag) (x q : Str) (st : Stmt) (f : Addr) (fd : FuncData) : Prop := FunD K x q (defArgs st) (defBody st) (defScope st) [] [] f fd
structure Txt (K : PySem.W.Frag) (mg : Str → Option Value) : Prop where
  n_ValueError : mg "ValueError" = none
  n_bool : mg "bool" = none
  n_int : mg "int" = none
  n_isinstance : mg "isinstance" = none
  n_len : mg "len" = none
  n_max : mg "max" = none
  n_min : mg "min" = none
  n_range : mg "range" = none
  n_str : mg "str" = none
  n_sum : mg "sum" = none
  n_tuple : mg "tuple" = none
  c_Ended : ∃ u, mg "Ended" = some u ∧ RelV (.ref (He.ga K "Ended")) u
  c_NoBallot : ∃ u, mg "NoBallot" = some u ∧ RelV (.ref (He.ga K "NoBallot")) u
  c_NoName : ∃ u, mg "NoName" = some u ∧ RelV (.ref (He.ga K "NoName")) u
  c_NoNumber : ∃ u, mg "NoNumber" = some u ∧ RelV (.ref (He.ga K "NoNumber")) u
  c_NoRow : ∃ u, mg "NoRow" = some u ∧ RelV (.ref (He.ga K "NoRow")) u
  c_NoText : ∃ u, mg "NoText" = some u ∧ RelV (.ref (He.ga K "NoText")) u
  c_TooMany : ∃ u, mg "TooMany" = some u ∧ RelV (.ref (He.ga K "TooMany")) u
  g_NoNumber : mg "NoNumber" = some (.ref (He.ga K "NoNumber"))
  g_SureError : mg "SureError" = some (.ref (He.ga K "SureError"))
  e_NoNumber : ExcC K (He.ga K "NoNumber")
  i_NoNumber_Ended : PySem.W.kitOne K (.ref (He.ga K "NoNumber")) (.ref (He.ga K "Ended")) = some false
  i_NoNumber_NoBallot : PySem.W.kitOne K (.ref (He.ga K "NoNumber")) (.ref (He.ga K "NoBallot")) = some false
  i_NoNumber_NoName : PySem.W.kitOne K (.ref (He.ga K "NoNumber")) (.ref (He.ga K "NoName")) = some false
  i_NoNumber_NoNumber : PySem.W.kitOne K (.ref (He.ga K "NoNumber")) (.ref (He.ga K "NoNumber")) = some true
  i_NoNumber_NoRow : PySem.W.kitOne K (.ref (He.ga K "NoNumber")) (.ref (He.ga K "NoRow")) = some false
  i_NoNumber_NoText : PySem.W.kitOne K (.ref (He.ga K "NoNumber")) (.ref (He.ga K "NoText")) = some false
  i_NoNumber_TooMany : PySem.W.kitOne K (.ref (He.ga K "NoNumber")) (.ref (He.ga K "TooMany")) = some false
  i_NoNumber_ValueError : PySem.W.kitOne K (.ref (He.ga K "NoNumber")) (.type "ValueError") = some true
  m_NoNumber_SureError : PySem.W.exmOne K (.ref (He.ga K "NoNumber")) (.ref (He.ga K "SureError")) = some true
  x_NoNumber : PySem.W.excIn K (He.ga K "NoNumber") He.veBase "ValueError.__new__" = true ∧ PySem.W.keepIn K (.ref (He.ga K "NoNumber")) = true ∧ PySem.W.subIn K (.ref (He.ga K "NoNumber")) (.type "BaseException") = some true ∧ PySem.W.typeIn K (.ref (He.ga K "NoNumber")) = some (.type "type")
end Lw
namespace Lw
open PySem PySem.Spec PyProof.Rows L2 Gx
def sp_is_whole (K : PySem.W.Frag) : Sp := fun vs H Q _ => ∃ (x : V) (t : Value) (b1 b2 : Bool), vs = [x] ∧ TyX K H x t ∧ PySem.W.kitOne K t (.type "int") = some b1 ∧ PySem.W.kitOne K t (.type "bool") = some b2 ∧ Q (.bl (b1 && !b2)) H
theorem isw_int {K : PySem.W.Frag} {H : Hp} {Q : VK} {E : XK} {i : Int} (q : Q (.bl true) H) : sp_is_whole K [.int i] H Q E := ⟨_, .type "int", true, false, rfl, .base (.int i), kit_ty (by decide +kernel), kit_ty (by decide +kernel), q⟩
theorem isw_w {K : PySem.W.Frag} {H : Hp} {Q : VK} {E : XK} {x : V} {b : Bool} (h : Whole K H x b) (q : Q (.bl b) H) : sp_is_whole K [x] H Q E := by
  obtain ⟨t, b1, b2, ht, h1, h2, rfl⟩ := h
  exact ⟨x, t, b1, b2, rfl, ht, h1, h2, q⟩
def sp_ballots_in (K : PySem.W.Frag) : Sp := fun vs H Q _ => ∃ (v : V) (pl : Pl.P), vs = [v] ∧ Dp K H v (Pl.d pl) ∧ pl.length ≤ 1000 ∧ ∀ H', Same H H' → Q (.int (Pl.tot pl)) H'
def sp_place_of (K : PySem.W.Frag) : Sp := fun vs H Q E => ∃ (v x : V) (pl : Pl.P) (b : Bool), vs = [v, x] ∧ Dp K H v (Pl.d pl) ∧ (∀ p ∈ pl, 0 ≤ p.2) ∧ pl.length ≤ 1000 ∧ Whole K H x b ∧
  (b = false → ∀ H', Same H H' → E (.ref (He.ga K "NoNumber")) none H') ∧
  (b = true → ∃ n : Int, x = .int n ∧ (¬ (0 ≤ n ∧ n < Pl.tot pl) → ∀ H', Same H H' → E (.ref (He.ga K "NoNumber")) none H') ∧
    (0 ≤ n → n < Pl.tot pl → ∀ s k v' H', Pl.place pl n = some (s, k) → Same H H' → Dp K H' v' (Pl.pd (s, k)) → Q v' H'))
def sp_number_of (K : PySem.W.Frag) : Sp := fun vs H Q E => ∃ (v x : V) (pl : Pl.P) (o : Option (Str × Int)), vs = [v, x] ∧ Dp K H v (Pl.d pl) ∧ pl.length ≤ 1000 ∧ Pl.IsPl K H x o ∧
  ((o.bind fun z => Pl.numb pl z.1 z.2 0) = none → ∀ H', Same H H' → E (.ref (He.ga K "NoNumber")) none H') ∧
  (∀ i : Int, (o.bind fun z => Pl.numb pl z.1 z.2 0) = some i → ∀ H', Same H H' → Q (.int i) H')
def sp__law_whole (K : PySem.W.Frag) : Sp := fun vs H Q _ => ∃ (x : V) (t : Value) (b1 b2 : Bool), vs = [x] ∧ TyX K H x t ∧ PySem.W.kitOne K t (.type "int") = some b1 ∧ PySem.W.kitOne K t (.type "bool") = some b2 ∧ Q (.bl (b1 && !b2)) H
theorem whole_int {K : PySem.W.Frag} {H : Hp} {Q : VK} {E : XK} {i : Int} (q : Q (.bl true) H) : sp__law_whole K [.int i] H Q E := ⟨_, .type "int", true, false, rfl, .base (.int i), kit_ty (by decide +kernel), kit_ty (by decide +kernel), q⟩
theorem whole_w {K : PySem.W.Frag} {H : Hp} {Q : VK} {E : XK} {x : V} {b : Bool} (h : Whole K H x b) (q : Q (.bl b) H) : sp__law_whole K [x] H Q E := by
  obtain ⟨t, b1, b2, ht, h1, h2, rfl⟩ := h
  exact ⟨x, t, b1, b2, rfl, ht, h1, h2, q⟩
def sp__law_digits (K : PySem.W.Frag) : Sp := fun vs H Q _ => ∃ (a : Addr) (ns : List Int) (k : Int), vs = [.ref a, .int k] ∧ SqL K H a (ns.map V.int) ∧ ns.length ≤ 63 ∧ 0 ≤ k ∧ k ≤ 100000 ∧ ∀ (r : Int) H', Same H H' → 0 ≤ r → r < 10000000000000000000000000000000000000000000000000000000000000 → Q (.int r) H'
def sp__law_deck (K : PySem.W.Frag) : Sp := fun vs H Q _ => ∃ (a : Addr) (ns : List Int) (m : Nat), vs = [.ref a, .int (m : Int)] ∧ SqL K H a (ns.map V.int) ∧ ns.length ≤ 63 ∧ m ≤ 100000 ∧
  ∀ (l : Addr) (ds : List Int) H', Same H H' → H l = none → H' l = some (.lst (ds.map V.int)) → ds.length = m → Deck ds → Q (.ref l) H'
def sp__law_names (K : PySem.W.Frag) : Sp := fun vs H Q _ => ∃ (l : Addr) (ds : List Int) (e : Int) (m : Nat), vs = [.ref l, .int (m : Int)] ∧ H l = some (.lst ((ds ++ [e]).map V.int)) ∧ Deck (ds ++ [e]) ∧ 1 ≤ m ∧ m ≤ 9 ∧
  ∀ (q : Addr) (ns : List Str) H', But l H H' → H' l = some (.lst (ds.map V.int)) → H q = none → H' q = some (.lst (ns.map V.str)) → ns.length = m → ns.Nodup → (∀ s ∈ ns, Pl.Nm s) → Q (.ref q) H'
def sp__law_piles (K : PySem.W.Frag) : Sp := fun vs H Q _ => ∃ (l : Addr) (ds : List Int), vs = [.ref l] ∧ H l = some (.lst (ds.map V.int)) ∧ Deck ds ∧ 12 ≤ ds.length ∧
  ∀ (v : V) (pl : Pl.P) (ds' : List Int) H', But l H H' → H' l = some (.lst (ds'.map V.int)) → Deck ds' → ds.length ≤ ds'.length + 12 → Pl.Good pl → Dp K H' v (Pl.d pl) → Q v H'
def sp__law_places (K : PySem.W.Frag) : Sp := fun vs H Q _ => ∃ (v : V) (pl : Pl.P), vs = [v] ∧ Dp K H v (Pl.d pl) ∧ Pl.Good pl ∧ ∀ q H', Same H H' → Dp K H' (.ref q) (.list ((Pl.places pl).map Pl.pd)) → Q (.ref q) H'
def sp__law_number (K : PySem.W.Frag) : Sp := fun vs H Q _ => ∃ (l : Addr) (ds : List Int) (e m : Int), vs = [.ref l, .int m] ∧ H l = some (.lst ((ds ++ [e]).map V.int)) ∧ Deck (ds ++ [e]) ∧ 1 ≤ m ∧ m ≤ 60 ∧
  ∀ (x : V) (b : Bool) H', But l H H' → H' l = some (.lst (ds.map V.int)) → Whole K H' x b → (b = true → ∃ n, x = .int n) → Q x H'
def Num (K : PySem.W.Frag) (H : Hp) (x : V) : Prop := ∃ b, Whole K H x b ∧ (b = true → ∃ n, x = .int n)
theorem Num.int {K : PySem.W.Frag} {H : Hp} (i : Int) : Num K H (.int i) := ⟨true, Whole.int i, fun _ => ⟨i, rfl⟩⟩
theorem Num.no {K : PySem.W.Frag} {H : Hp} {x : V} (h : Whole K H x false) : Num K H x := ⟨false, h, fun z => nomatch z⟩
theorem at_all {P : V → Prop} {xs : List V} {i : Int} (h : ∀ x ∈ xs, P x) (h0 : 0 ≤ i) (h1 : i < xs.length) : ∃ x, P x ∧ atI xs i = some x := by
  obtain ⟨x, hx, e⟩ := at_mem h0 h1
  exact ⟨x, h x hx, e⟩
theorem at_all2 {P : V → Prop} {H : Hp} {p : Addr} {xs : List V} {i : Int} (_ : H p = some (.lst xs)) (h : ∀ x ∈ xs, P x) (h0 : 0 ≤ i) (h1 : i < xs.length) : ∃ x, P x ∧ atI xs i = some x := at_all h h0 h1
def sp__law_place (K : PySem.W.Frag) : Sp := fun vs H Q _ => ∃ (l : Addr) (ds : List Int) (e : Int) (v : V) (pl : Pl.P), vs = [.ref l, v] ∧ H l = some (.lst ((ds ++ [e]).map V.int)) ∧ Deck (ds ++ [e]) ∧ Dp K H v (Pl.d pl) ∧ Pl.Good pl ∧
  ∀ (x : V) H', But l H H' → H' l = some (.lst (ds.map V.int)) → Pl.Pq K H' x → Q x H'
def sp__law_refused (K : PySem.W.Frag) : Sp := fun vs H Q _ => ∃ (w : Int) (v x : V) (pl : Pl.P) (bad : Bool), vs = [.int w, v, x] ∧ Dp K H v (Pl.d pl) ∧ Pl.Good pl ∧
  ((w = 0 ∧ ∃ b, Whole K H x b ∧ (b = false → bad = true) ∧ (b = true → ∃ n : Int, x = .int n ∧ bad = !decide (0 ≤ n ∧ n < Pl.tot pl))) ∨ (w ≠ 0 ∧ ∃ o, Pl.IsPl K H x o ∧ bad = (o.bind fun z => Pl.numb pl z.1 z.2 0).isNone)) ∧
  ∀ p H', Same H H' → H' p = some (.tup [.bl bad, .bl bad]) → Q (.ref p) H'
def sp__law_is_place (K : PySem.W.Frag) : Sp := fun vs H Q _ => ∃ (v x : V) (pl : Pl.P) (o : Option (Str × Int)), vs = [v, x] ∧ Dp K H v (Pl.d pl) ∧ Pl.Good pl ∧ Pl.IsPl K H x o ∧ (∀ z, o = some z → PyData.strOk z.1 = true) ∧
  ∀ H', Same H H' → Q (.bl (!(o.bind fun z => Pl.numb pl z.1 z.2 0).isNone)) H'
theorem shb (a b : Bool) : Dt.Sh 1 (.tuple [.bool a, .bool b]) := Dt.sh_tup fun x hx => by
  rcases List.mem_cons.mp hx with e | e
  · rw [e]; exact Dt.sh_bl _
  · rw [List.mem_singleton.mp e]; exact Dt.sh_bl _
def sp_law (K : PySem.W.Frag) : Sp := fun vs H Q _ => ∃ (a : Addr) (ns : List Int), vs = [.ref a] ∧ SqL K H a (ns.map V.int) ∧ ns.length ≤ 63 ∧ ∀ H', Q (.bl true) H'
end Lw
namespace Lw
open PySem PySem.Spec PyProof.Rows L2 Gx
section
variable {P : Program} {w : World} {K : PySem.W.Frag} {mg : Str → Option Value} {base : Heap} {f : Addr} {fd : FuncData}
theorem ok_is_whole (F : FnP K "is_whole" "is_whole" s_is_whole f fd) (T : Txt K mg) : FnOk P w K mg base (L2.CX P w) 1 f fd ["thing"] (sp_is_whole K) := by
  refine F.ok sc_is_whole (fun vs H Q E h => ?_) (fun cdv A outer s H vs Q E hr h => ?_)
  · obtain ⟨x, t, b1, b2, rfl, _⟩ := h; rfl
  · refine ⟨_, (pss_one (ps_ret (pe_and (pe_callB call_isi (by rfl) T.n_isinstance (by decide +kernel) (pa_cons (pv 0) (pa_cons (pe_bltn (v := .ty "int") (by rfl) T.n_int (by decide +kernel) rfl) pa_nil))) (pe_one (pe_not (pe_callB call_isi (by rfl) T.n_isinstance (by decide +kernel) (pa_cons (pv 0) (pa_cons (pe_bltn (v := .ty "bool") (by rfl) T.n_bool (by decide +kernel) rfl) pa_nil)))))))), ?_⟩
    obtain ⟨x, t, b1, b2, rfl, ht, h1, h2, k⟩ := h
    walk_at "go"
    refine k_isi (.ty "int") ht h1 ?_
    walk_at "go"
    cases b1 with
    | false => walk_at "go"; exact k
    | true =>
      walk_at "go"
      refine k_isi (.ty "bool") ht h2 ?_
      walk_at "go"
      exact k
end
end Lw
namespace Lw
open PySem PySem.Spec PyProof.Rows L2 Gx
section
variable {P : Program} {w : World} {K : PySem.W.Frag} {mg : Str → Option Value} {base : Heap} {f : Addr} {fd : FuncData}
theorem ok_ballots_in (F : FnP K "ballots_in" "ballots_in" s_ballots_in f fd) (T : Txt K mg) : FnOk P w K mg base (L2.CX P w) 1 f fd ["piles"] (sp_ballots_in K) := by
  refine F.ok sc_ballots_in (fun vs H Q E h => ?_) (fun cdv A outer s H vs Q E hr h => ?_)
  · obtain ⟨v, pl, rfl, _⟩ := h; rfl
  · refine ⟨_, (pss_one (ps_ret (pe_callB (cr_sum rfl) (by rfl) T.n_sum (by decide +kernel) (pa_cons (pe_lc (own := [("name", 1), ("count", 2)]) (g := (gTup _ 2 (gCons (gName 1) (gCons (gName 2) gNil)))) (by rfl) sc_ballots_in.nd (pi_seqU (pv 0)) (blkOk_by (own := [("name", 1), ("count", 2)]) (N := ["piles", "name", "count"]) (sc := defScope s_ballots_in) (by decide +kernel)) (fun _ _ _ _ _ => (pg_tup rfl (pgs_cons (pg_name (i := 1) sc_ballots_in.nd rfl (Or.inl rfl)) (pgs_cons (pg_name (i := 2) sc_ballots_in.nd rfl (Or.inl rfl)) pgs_nil)))) (fun _ _ _ _ _ => pts_nil) (fun _ _ _ _ _ => (pv 2))) pa_nil)))), ?_⟩
    obtain ⟨v, pl, rfl, dv, hlen, kk⟩ := h
    obtain ⟨p, xs, rfl, hp, da⟩ := Dt.tup dv
    have hx : xs.length = pl.length := by rw [Dt.len da, List.length_map]
    walk_at "go"
    refine k_lcU (.inr hp) (fun D i ys H' => ys = ((pl.take i).map (·.2)).map V.int ∧ Same H H') (fun D H' nD sD hD => ⟨rfl, sD⟩) (fun D i ys H' nD h => h.2) ?_ ?_
    · rintro D i x ys H' nD hx2 ⟨rfl, s⟩ hD
      obtain ⟨q, u, e, rfl, hs⟩ := Pl.at_pd da hx2
      refine k_lcT ?_
      refine k_gtup (seqT_same s hs) rfl ?_
      walk_at "go"
      refine ⟨rfl, ?_⟩
      walk_at "go"
      refine ⟨_, hD, (by rw [sizeLine_eq]; simp; omega), _, ⟨?_, But.same nD s But.upd⟩, upd_same⟩
      rw [take_snoc e]
      simp
    · rintro D ys H' nD ⟨rfl, s⟩ hD
      refine k_sum (SqL.of hD) ?_
      rw [List.take_of_length_le (by omega)]
      exact kk H' s
end
end Lw
namespace Lw
open PySem PySem.Spec PyProof.Rows L2 Gx
section
variable {P : Program} {w : World} {K : PySem.W.Frag} {mg : Str → Option Value} {base : Heap} {f : Addr} {fd : FuncData}
theorem ok_place_of (F : FnP K "place_of" "place_of" s_place_of f fd) (T : Txt K mg) (c_ballots_in : Cl P w K mg base 1 "ballots_in" ["piles"] (sp_ballots_in K)) (c_is_whole : Cl P w K mg base 1 "is_whole" ["thing"] (sp_is_whole K)) : FnOk P w K mg base (L2.CX P w) 2 f fd ["piles", "number"] (sp_place_of K) := by
  refine F.ok sc_place_of (fun vs H Q E h => ?_) (fun cdv A outer s H vs Q E hr h => ?_)
  · obtain ⟨v, x, pl, b, rfl, _⟩ := h; rfl
  · refine ⟨_, (pss_cons (ps_if (PW.pt (pw_or (pt_not (pt_val (pcall c_is_whole hr (by first | decide | omega) (takes_of rfl rfl rfl rfl) (pa_cons (pv 1) pa_nil)))) (pw_or1 (pt_not (pt_chain op_le op_lt pe_int (pv 1) (pcall c_ballots_in hr (by first | decide | omega) (takes_of rfl rfl rfl rfl) (pa_cons (pv 0) pa_nil))))))) (pss_one (ps_raise rfl (takes_of rfl rfl rfl rfl) (pmk_own PySem.F.excBase_ValueError T.x_NoNumber.1 T.g_NoNumber T.x_NoNumber.2.1 (raises_own T.x_NoNumber.2.2.1 T.x_NoNumber.2.2.2) rfl))) pss_nil) (pss_cons (ps_for (passes_of rfl) rfl (pi_seqU (pv 0)) (pg_tup rfl (pgs_cons (pg_name (i := 2) sc_place_of.nd rfl (Or.inl rfl)) (pgs_cons (pg_name (i := 3) sc_place_of.nd rfl (Or.inl rfl)) pgs_nil))) (pss_cons (ps_if (pt_cmpR op_lt (pv 1) (pv 3) (nomark _)) (pss_one (ps_ret (pe_tup (pa_cons (pv 2) (pa_cons (pv 1) pa_nil))))) pss_nil) (pss_one (ps_aug (i := 1) sc_place_of.nd rfl (Or.inl rfl) (pv 3) ip_sub)))) (pss_one (ps_raise rfl (takes_of rfl rfl rfl rfl) (pmk_own PySem.F.excBase_ValueError T.x_NoNumber.1 T.g_NoNumber T.x_NoNumber.2.1 (raises_own T.x_NoNumber.2.2.1 T.x_NoNumber.2.2.2) rfl))))), ?_⟩
    obtain ⟨v, x, pl, b, rfl, dv, h0, hlen, hw, k0, k1⟩ := h
    have dv0 := dv
    obtain ⟨p, xs, rfl, hp, da⟩ := Dt.tup dv
    have hx : xs.length = pl.length := by rw [Dt.len da, List.length_map]
    walk_at "go"
    refine isw_w hw ?_
    walk_at "go"
    cases b with
    | false =>
      walk_at "go"
      exact k0 rfl H (Same.refl H)
    | true =>
      obtain ⟨n, rfl, k1, k2⟩ := k1 rfl
      walk_at "go"
      have main : ∀ H1, Same H H1 → 0 ≤ n → n < Pl.tot pl → ∀ H1, Same H H1 → True := fun _ _ _ _ _ _ => trivial
      refine k_if (fun c => ?_) (fun c => ?_)
      rotate_left
      · walk_at "go"
        exact k1 (by omega) H (Same.refl H)
      walk_at "go"
      refine ⟨_, pl, rfl, dv0, hlen, fun H1 s1 => ?_⟩
      walk_at "go"
      refine k_ifn (fun c2 => ?_) (fun c2 => ?_)
      · walk_at "go"
        exact k1 (by omega) H1 s1
      walk_at "go"
      refine k_itUT (seqT_same s1 hp) ?_
      refine k_loopT (fun i σ H' => ∃ (t1 t2 : Option V) (m : Int), σ = [some (.ref p), some (.int m), t1, t2] ∧ Same H H' ∧ 0 ≤ m ∧ Pl.place pl n = Pl.place (pl.drop i) m) ⟨none, none, n, rfl, s1, by omega, rfl⟩ (fun i σ H' _ h => by obtain ⟨_, _, _, _, s, _⟩ := h; exact seqT_same s hp) ?_ ?_
      · rintro i x σ H2 hx2 ⟨t1, t2, m, rfl, s2, m0, e⟩
        obtain ⟨q, u, eq, rfl, hs⟩ := Pl.at_pd da hx2
        refine k_gtup (seqT_same s2 hs) rfl ?_
        walk_at "go"
        have hi := (List.getElem?_eq_some_iff.mp eq).1
        have hdrop : pl.drop i = q :: pl.drop (i + 1) := by
          rw [List.drop_eq_getElem_cons hi]
          congr 1
          exact (List.getElem?_eq_some_iff.mp eq).2
        have e2 : Pl.place pl n = if m < q.2 then some (q.1, m) else Pl.place (pl.drop (i + 1)) (m - q.2) := by rw [e, hdrop]; rfl
        refine k_if (fun c3 => ?_) (fun c3 => ?_)
        · walk_at "go"
          refine k_tupx (fun r H3 nr s3 hr => ?_) (by simp [sizeLine_eq])
          rw [if_pos c3] at e2
          exact k2 (by omega) (by omega) _ _ _ _ e2 (s2.trans s3) (Pl.dp_pd (SqT.of hr))
        · walk_at "go"
          rw [if_neg c3] at e2
          exact ⟨_, _, _, rfl, s2, by omega, e2⟩
      · rintro σ H2 ⟨t1, t2, m, rfl, s2, m0, e⟩
        rw [hx, List.drop_length] at e
        exfalso
        obtain ⟨k, rfl⟩ := Int.eq_ofNat_of_zero_le (show 0 ≤ n by omega)
        rw [Pl.place_eq h0] at e
        have hl := Pl.places_len h0
        rw [List.getElem?_eq_getElem (by omega)] at e
        cases e
end
end Lw
namespace Lw
open PySem PySem.Spec PyProof.Rows L2 Gx
section
variable {P : Program} {w : World} {K : PySem.W.Frag} {mg : Str → Option Value} {base : Heap} {f : Addr} {fd : FuncData}
theorem ok_number_of (F : FnP K "number_of" "number_of" s_number_of f fd) (T : Txt K mg) (c_is_whole : Cl P w K mg base 1 "is_whole" ["thing"] (sp_is_whole K)) : FnOk P w K mg base (L2.CX P w) 2 f fd ["piles", "place"] (sp_number_of K) := by
  refine F.ok sc_number_of (fun vs H Q E h => ?_) (fun cdv A outer s H vs Q E hr h => ?_)
  · obtain ⟨v, x, pl, o, rfl, _⟩ := h; rfl
  · refine ⟨_, (pss_cons (ps_if (PW.pt (pw_or (pt_not (pt_val (pe_callB call_isi (by rfl) T.n_isinstance (by decide +kernel) (pa_cons (pv 1) (pa_cons (pe_bltn (v := .ty "tuple") (by rfl) T.n_tuple (by decide +kernel) rfl) pa_nil))))) (pw_or (pt_cmpR (op_neK (K := K) rfl hr) (pe_callB call_lenU (by rfl) T.n_len (by decide +kernel) (pa_cons (pv 1) pa_nil)) pe_int (nomark _)) (pw_or (pt_not (pt_val (pe_callB call_isi (by rfl) T.n_isinstance (by decide +kernel) (pa_cons (pe_ix (ix_K (K := K) rfl) (pv 1) pe_int (fun _ _ => rfl)) (pa_cons (pe_bltn (v := .ty "str") (by rfl) T.n_str (by decide +kernel) rfl) pa_nil))))) (pw_or1 (pt_not (pt_val (pcall c_is_whole hr (by first | decide | omega) (takes_of rfl rfl rfl rfl) (pa_cons (pe_ix (ix_K (K := K) rfl) (pv 1) pe_int (fun _ _ => rfl)) pa_nil))))))))) (pss_one (ps_raise rfl (takes_of rfl rfl rfl rfl) (pmk_own PySem.F.excBase_ValueError T.x_NoNumber.1 T.g_NoNumber T.x_NoNumber.2.1 (raises_own T.x_NoNumber.2.2.1 T.x_NoNumber.2.2.2) rfl))) pss_nil) (pss_cons (ps_set (i := 2) sc_number_of.nd rfl (Or.inl rfl) pe_int) (pss_cons (ps_for (passes_of rfl) rfl (pi_seqU (pv 0)) (pg_tup rfl (pgs_cons (pg_name (i := 3) sc_number_of.nd rfl (Or.inl rfl)) (pgs_cons (pg_name (i := 4) sc_number_of.nd rfl (Or.inl rfl)) pgs_nil))) (pss_cons (ps_if (PW.pt (pw_and (pt_cmpR (op_eqK (K := K) rfl hr) (pv 3) (pe_ix (ix_K (K := K) rfl) (pv 1) pe_int (fun _ _ => rfl)) (nomark _)) (pw_and1 (pt_chain op_le op_lt pe_int (pe_ix (ix_K (K := K) rfl) (pv 1) pe_int (fun _ _ => rfl)) (pv 4))))) (pss_one (ps_ret (pe_op (op_addK (K := K) rfl) (pv 2) (pe_ix (ix_K (K := K) rfl) (pv 1) pe_int (fun _ _ => rfl))))) pss_nil) (pss_one (ps_aug (i := 2) sc_number_of.nd rfl (Or.inl rfl) (pv 4) ip_add)))) (pss_one (ps_raise rfl (takes_of rfl rfl rfl rfl) (pmk_own PySem.F.excBase_ValueError T.x_NoNumber.1 T.g_NoNumber T.x_NoNumber.2.1 (raises_own T.x_NoNumber.2.2.1 T.x_NoNumber.2.2.2) rfl)))))), ?_⟩
    obtain ⟨v, x, pl, o, rfl, dv, hlen, hpl, k0, k1⟩ := h
    obtain ⟨p, xs, rfl, hp, da⟩ := Dt.tup dv
    have hx : xs.length = pl.length := by rw [Dt.len da, List.length_map]
    walk_at "go"
    cases hpl with
    | kind ht hk =>
      refine k_isi (.ty "tuple") ht hk ?_
      walk_at "go"
      exact k0 rfl H (Same.refl H)
    | len h hl =>
      refine k_isi (.ty "tuple") (ty_tup h) (kit_ty (r := true) (by decide +kernel)) ?_
      walk_at "go"
      refine k_lenT ?_ h
      walk_at "go"
      refine k_ifn (fun c => ?_) (fun c => absurd (by omega) hl)
      walk_at "go"
      exact k0 rfl H (Same.refl H)
    | @key q u v t h ht hk =>
      refine k_isi (.ty "tuple") (ty_tup h) (kit_ty (r := true) (by decide +kernel)) ?_
      walk_at "go"
      refine k_lenT ?_ h
      walk_at "go"
      refine k_ifn (fun c => absurd rfl c) (fun c => ?_)
      walk_at "go"
      refine k_ixT h (v := u) rfl ?_
      walk_at "go"
      refine k_isi (.ty "str") ht hk ?_
      walk_at "go"
      exact k0 rfl H (Same.refl H)
    | @num q s v h hv =>
      refine k_isi (.ty "tuple") (ty_tup h) (kit_ty (r := true) (by decide +kernel)) ?_
      walk_at "go"
      refine k_lenT ?_ h
      walk_at "go"
      refine k_ifn (fun c => absurd rfl c) (fun c => ?_)
      walk_at "go"
      refine k_ixT h (v := .str s) rfl ?_
      walk_at "go"
      refine k_isi (.ty "str") (.base (.str s)) (kit_ty (r := true) (by decide +kernel)) ?_
      walk_at "go"
      refine k_ixT h (v := v) rfl ?_
      walk_at "go"
      refine isw_w hv ?_
      walk_at "go"
      exact k0 rfl H (Same.refl H)
    | @yes q s k h =>
      refine k_isi (.ty "tuple") (ty_tup h) (kit_ty (r := true) (by decide +kernel)) ?_
      walk_at "go"
      refine k_lenT ?_ h
      walk_at "go"
      refine k_ifn (fun c => absurd rfl c) (fun c => ?_)
      walk_at "go"
      refine k_ixT h (v := .str s) rfl ?_
      walk_at "go"
      refine k_isi (.ty "str") (.base (.str s)) (kit_ty (r := true) (by decide +kernel)) ?_
      walk_at "go"
      refine k_ixT h (v := .int k) rfl ?_
      walk_at "go"
      refine isw_int ?_
      walk_at "go"
      have k0 : Pl.numb pl s k 0 = none → _ := k0
      have k1 : ∀ i : Int, Pl.numb pl s k 0 = some i → _ := k1
      refine k_itUT hp ?_
      refine k_loopT (fun i σ H' => ∃ (t1 t2 : Option V) (a : Int), σ = [some (.ref p), some (.ref q), some (.int a), t1, t2] ∧ Same H H' ∧ Pl.numb pl s k 0 = Pl.numb (pl.drop i) s k a) ⟨none, none, 0, rfl, Same.refl H, rfl⟩ (fun i σ H' _ h => by obtain ⟨_, _, _, _, s, _⟩ := h; exact seqT_same s hp) ?_ ?_
      · rintro i x σ H2 hx2 ⟨t1, t2, a, rfl, s2, e⟩
        obtain ⟨z, u, eq, rfl, hs⟩ := Pl.at_pd da hx2
        refine k_gtup (seqT_same s2 hs) rfl ?_
        walk_at "go"
        have hi := (List.getElem?_eq_some_iff.mp eq).1
        have hdrop : pl.drop i = z :: pl.drop (i + 1) := by
          rw [List.drop_eq_getElem_cons hi]
          congr 1
          exact (List.getElem?_eq_some_iff.mp eq).2
        have e2 : Pl.numb pl s k 0 = if z.1 = s ∧ 0 ≤ k ∧ k < z.2 then some (a + k) else Pl.numb (pl.drop (i + 1)) s k (a + z.2) := by rw [e, hdrop]; rfl
        have h2 := seqT_same s2 h
        refine k_ixT h2 (v := .str s) rfl ?_
        walk_at "go"
        have no : ¬ (z.1 = s ∧ 0 ≤ k ∧ k < z.2) → Pl.numb pl s k 0 = Pl.numb (pl.drop (i + 1)) s k (a + z.2) := fun c => by rw [e2, if_neg c]
        refine k_if (fun c1 => ?_) (fun c1 => ?_)
        · walk_at "go"
          refine k_ixT h2 (v := .int k) rfl ?_
          walk_at "go"
          refine k_if (fun c3 => ?_) (fun c3 => ?_)
          · walk_at "go"
            refine k_if (fun c4 => ?_) (fun c4 => ?_)
            · walk_at "go"
              refine k_ixT h2 (v := .int k) rfl ?_
              walk_at "go"
              rw [if_pos ⟨c1, c3, c4⟩] at e2
              exact k1 _ e2 H2 s2
            · walk_at "go"
              exact ⟨_, _, _, rfl, s2, no fun c => c4 c.2.2⟩
          · walk_at "go"
            exact ⟨_, _, _, rfl, s2, no fun c => c3 c.2.1⟩
        · walk_at "go"
          exact ⟨_, _, _, rfl, s2, no fun c => c1 c.1⟩
      · rintro σ H2 ⟨t1, t2, a, rfl, s2, e⟩
        rw [hx, List.drop_length] at e
        walk_at "go"
        exact k0 e H2 s2
end
end Lw
namespace Lw
open PySem PySem.Spec PyProof.Rows L2 Gx
section
variable {P : Program} {w : World} {K : PySem.W.Frag} {mg : Str → Option Value} {base : Heap} {f : Addr} {fd : FuncData}
theorem ok__law_whole (F : FnP K "_law_whole" "_law_whole" s__law_whole f fd) (T : Txt K mg) : FnOk P w K mg base (L2.CX P w) 1 f fd ["_law_found"] (sp__law_whole K) := by
  refine F.ok sc__law_whole (fun vs H Q E h => ?_) (fun cdv A outer s H vs Q E hr h => ?_)
  · obtain ⟨x, t, b1, b2, rfl, _⟩ := h; rfl
  · refine ⟨_, (pss_one (ps_ret (pe_and (pe_callB call_isi (by rfl) T.n_isinstance (by decide +kernel) (pa_cons (pv 0) (pa_cons (pe_bltn (v := .ty "int") (by rfl) T.n_int (by decide +kernel) rfl) pa_nil))) (pe_one (pe_not (pe_callB call_isi (by rfl) T.n_isinstance (by decide +kernel) (pa_cons (pv 0) (pa_cons (pe_bltn (v := .ty "bool") (by rfl) T.n_bool (by decide +kernel) rfl) pa_nil)))))))), ?_⟩
    obtain ⟨x, t, b1, b2, rfl, ht, h1, h2, k⟩ := h
    walk_at "go"
    refine k_isi (.ty "int") ht h1 ?_
    walk_at "go"
    cases b1 with
    | false => walk_at "go"; exact k
    | true =>
      walk_at "go"
      refine k_isi (.ty "bool") ht h2 ?_
      walk_at "go"
      exact k
end
end Lw
namespace Lw
open PySem PySem.Spec PyProof.Rows L2 Gx
section
variable {P : Program} {w : World} {K : PySem.W.Frag} {mg : Str → Option Value} {base : Heap} {f : Addr} {fd : FuncData}
theorem ok__law_digits (F : FnP K "_law_digits" "_law_digits" s__law_digits f fd) (T : Txt K mg) : FnOk P w K mg base (L2.CX P w) 1 f fd ["_law_script", "_law_k"] (sp__law_digits K) := by
  refine F.ok sc__law_digits (fun vs H Q E h => ?_) (fun cdv A outer s H vs Q E hr h => ?_)
  · obtain ⟨a, ns, k, rfl, _⟩ := h; rfl
  · refine ⟨_, (pss_cons (ps_if (pt_cmpR op_lt (pv 1) (pe_callB call_lenU (by rfl) T.n_len (by decide +kernel) (pa_cons (pv 0) pa_nil)) (nomark _)) (pss_one (ps_ret (pe_op op_modN (pe_ix (ix_K (K := K) rfl) (pv 0) (pv 1) (fun _ _ => rfl)) (pe_op op_pow pe_int pe_int)))) pss_nil) (pss_cons (ps_set (i := 2) sc__law_digits.nd rfl (Or.inl rfl) pe_int) (C8.pss_cut (ps_if (pt_cmpR (op_neK (K := K) rfl hr) (pv 0) (pe_lst pa_nil) (nomark _)) (pss_cons (ps_set (i := 2) sc__law_digits.nd rfl (Or.inl rfl) (pe_callB (call_maxU rfl) (by rfl) T.n_max (by decide +kernel) (pa_cons pe_int (pa_cons (pe_ix (ix_K (K := K) rfl) (pv 0) (pe_op op_modN (pv 1) (pe_callB call_lenU (by rfl) T.n_len (by decide +kernel) (pa_cons (pv 0) pa_nil))) (fun _ _ => rfl)) pa_nil)))) (pss_one (ps_for (passes_of rfl) rfl (pi_range1 rfl T.n_range (pa_cons (pe_op op_fdivG (pv 1) (pe_callB call_lenU (by rfl) T.n_len (by decide +kernel) (pa_cons (pv 0) pa_nil))) pa_nil)) (pg_name (i := 3) sc__law_digits.nd rfl (Or.inl rfl)) (pss_one (ps_set (i := 2) sc__law_digits.nd rfl (Or.inl rfl) (pe_op op_fdivG (pv 2) (pe_op op_pow pe_int pe_int))))))) pss_nil) (pss_one (ps_ret (pe_op op_modN (pv 2) (pe_op op_pow pe_int pe_int))))))), ?_⟩
    obtain ⟨a, ns, k, rfl, hS, hl, k0, k1, kk⟩ := h
    have hlm : (ns.map V.int).length = ns.length := List.length_map ..
    walk_at "go"
    refine k_lenL ?_ hS
    walk_at "go"
    refine k_if (fun c => ?_) (fun c => ?_)
    · walk_at "go"
      obtain ⟨z, hz⟩ := Dk.at_map (ns := ns) k0 (by omega)
      refine k_ixL hS hz ?_
      walk_at "go"
      refine kk _ _ (Same.refl H) (by omega) (by omega)
    · walk_at "go"
      refine k_cut0 ?_
      walk_at "go"
      refine k_lstx (fun p H1 np s1 hp1 => ?_) (by simp)
      have hS1 := seqL_same s1 hS
      refine k_neD (Dk.dp_ints hS1) (.lst (SqL.of hp1) .nil) ?_ (Dk.shaped_ints ns) rfl
      walk_at "go"
      rw [Dk.eqv_nil]
      refine k_ifb (fun c2 => ?_) (fun c2 => ?_)
      · have hpos : 0 < ns.length := by
          cases ns with
          | nil => simp at c2
          | cons => simp
        walk_at "go"
        refine k_lenL ?_ hS1
        walk_at "go"
        obtain ⟨z, hz⟩ := Dk.at_map (ns := ns) (i := k % (((ns.map V.int).length : Nat) : Int)) (Int.emod_nonneg _ (by omega)) (by
          have := Int.emod_lt_of_pos k (show (0 : Int) < ((ns.map V.int).length : Nat) by omega)
          omega)
        refine k_ixL hS1 hz ?_
        walk_at "go"
        refine k_lenL ?_ hS1
        walk_at "go"
        have hq0 : 0 ≤ k / (((ns.map V.int).length : Nat) : Int) := Int.ediv_nonneg k0 (by omega)
        have hq1 : k / (((ns.map V.int).length : Nat) : Int) ≤ k := Int.ediv_le_self _ k0
        refine k_rng1 (by omega) ?_
        refine k_loopR (fun _ σ H' => ∃ (c : Int) (t : Option V), σ = [some (.ref a), some (.int k), some (.int c), t] ∧ Same H1 H') ⟨_, none, rfl, Same.refl _⟩ ?_ ?_
        · rintro i σ H' hi ⟨c, t, rfl, s2⟩
          walk_at "go"
          exact ⟨_, _, rfl, s2⟩
        · rintro σ H' ⟨c, t, rfl, s2⟩
          walk_at "go"
          refine kk _ _ (s1.trans s2) (by omega) (by omega)
      · walk_at "go"
        refine kk _ _ s1 (by omega) (by omega)
end
end Lw
namespace Lw
open PySem PySem.Spec PyProof.Rows L2 Gx
section
variable {P : Program} {w : World} {K : PySem.W.Frag} {mg : Str → Option Value} {base : Heap} {f : Addr} {fd : FuncData}
theorem ok__law_deck (F : FnP K "_law_deck" "_law_deck" s__law_deck f fd) (T : Txt K mg) (c__law_digits : Cl P w K mg base 1 "_law_digits" ["_law_script", "_law_k"] (sp__law_digits K)) : FnOk P w K mg base (L2.CX P w) 2 f fd ["_law_script", "_law_most"] (sp__law_deck K) := by
  refine F.ok sc__law_deck (fun vs H Q E h => ?_) (fun cdv A outer s H vs Q E hr h => ?_)
  · obtain ⟨a, ns, m, rfl, _⟩ := h; rfl
  · refine ⟨_, (pss_cons (ps_set (i := 2) sc__law_deck.nd rfl (Or.inl rfl) (pe_lst pa_nil)) (pss_cons (ps_set (i := 3) sc__law_deck.nd rfl (Or.inl rfl) pe_int) (pss_cons (ps_for (passes_of rfl) rfl (pi_range1 rfl T.n_range (pa_cons (pv 1) pa_nil)) (pg_name (i := 4) sc__law_deck.nd rfl (Or.inl rfl)) (pss_cons (ps_set (i := 5) sc__law_deck.nd rfl (Or.inl rfl) (pcall c__law_digits hr (by first | decide | omega) (takes_of rfl rfl rfl rfl) (pa_cons (pv 0) (pa_cons (pv 4) pa_nil)))) (C8.pss_cut (ps_if (PW.pt (pw_and (pt_cmpR op_ge (pv 4) (pe_callB call_lenU (by rfl) T.n_len (by decide +kernel) (pa_cons (pv 0) pa_nil)) (nomark _)) (pw_and1 (pt_cmpR (op_eqK (K := K) rfl hr) (pv 5) pe_int (nomark _))))) (pss_one (ps_set (i := 5) sc__law_deck.nd rfl (Or.inl rfl) (pe_op op_modN (pe_op (op_mulK (K := K) rfl) (pe_op op_modN (pe_op (op_mulK (K := K) rfl) (pv 3) pe_int) pe_int) pe_int) pe_int))) pss_nil) (pss_cons (ps_set (i := 3) sc__law_deck.nd rfl (Or.inl rfl) (pe_op op_modN (pe_op (op_addK (K := K) rfl) (pe_op (op_addK (K := K) rfl) (pe_op (op_mulK (K := K) rfl) (pv 3) pe_int) (pv 5)) (pv 4)) pe_int)) (pss_one (ps_expr (pe_bm PySem.F.plainAttrs_list PySem.F.slot_list_append PySem.F.type_list_append mt_append (pv 2) (pa_cons (pv 5) pa_nil)))))))) (pss_one (ps_ret (pe_revL (pv 2))))))), ?_⟩
    obtain ⟨a, ns, m, rfl, hS, hl, hm, kk⟩ := h
    have hlm : (ns.map V.int).length = ns.length := List.length_map ..
    walk_at "go"
    refine k_lstx (fun l H1 nl s1 hl1 => ?_) (by simp)
    walk_at "go"
    refine k_rng1 (by omega) ?_
    have hmt : ((m : Int)).toNat = m := by omega
    rw [hmt]
    refine k_loopR (fun i σ H' => ∃ (c : Int) (t1 t2 : Option V) (ds : List Int), σ = [some (.ref a), some (.int (m : Int)), some (.ref l), some (.int c), t1, t2] ∧ Same H H' ∧ H' l = some (.lst (ds.map V.int)) ∧ ds.length = i ∧ Deck ds ∧ 0 ≤ c ∧ c < 2147483647) ⟨_, none, none, [], rfl, s1, hl1, rfl, fun d hd => (nomatch hd), by omega, by omega⟩ ?_ ?_
    · rintro i σ H2 hi ⟨c, t1, t2, ds, rfl, s2, hl2, hn, hd, c0, c1⟩
      walk_at "go"
      refine ⟨a, ns, (i : Int), rfl, seqL_same s2 hS, hl, by omega, by omega, fun r H3 s3 r0 r1 => ?_⟩
      walk_at "go"
      refine k_cut (fun σ H' => ∃ r : Int, 0 ≤ r ∧ r < 10000000000000000000000000000000000000000000000000000000000000 ∧ H' = H3 ∧ σ = [some (.ref a), some (.int (m : Int)), some (.ref l), some (.int c), some (.int (i : Int)), some (.int r)]) ?_ (fun σ H' => ?_)
      rotate_left
      · rintro ⟨r, r0, r1, rfl, rfl⟩
        have hl3 := s3 _ _ hl2
        walk_at "go"
        refine k_mulB (m := 40) (n := 40) (by omega) (by decide) (by decide) ?_
        walk_at "go"
        refine ⟨k_app0 hl3, ?_⟩
        walk_at "go"
        refine k_app1 hl3 (by rw [List.length_map, sizeLine_eq]; omega) (fun H4 b4 hl4 => ?_)
        refine ⟨_, _, _, ds ++ [r], rfl, But.same nl (s2.trans s3) b4, ?_, by simp [hn], ?_, by omega, by omega⟩
        · rw [hl4]; simp
        · intro d hd'
          rcases List.mem_append.mp hd' with q | q
          · exact hd d q
          · rw [List.mem_singleton.mp q]; exact ⟨r0, r1⟩
      walk_at "go"
      refine k_lenL ?_ (seqL_same s3 (seqL_same s2 hS))
      walk_at "go"
      have hl3 := s3 _ _ hl2
      have hz : (ds.map V.int).length < sizeLine := by rw [List.length_map, sizeLine_eq]; omega
      refine k_if (fun c2 => ?_) (fun c2 => ?_)
      · walk_at "go"
        refine k_if (fun c3 => ?_) (fun c3 => ?_)
        · walk_at "go"
          refine k_mulB (m := 40) (n := 40) (by omega) (by decide) (by decide) ?_
          walk_at "go"
          refine k_mulB (m := 40) (n := 40) (by omega) (by decide) (by decide) ?_
          walk_at "go"
          exact ⟨_, by omega, by omega, rfl, rfl⟩
        · walk_at "go"
          exact ⟨_, r0, r1, rfl, rfl⟩
      · walk_at "go"
        exact ⟨_, r0, r1, rfl, rfl⟩
    · rintro σ H2 ⟨c, t1, t2, ds, rfl, s2, hl2, hn, hd, c0, c1⟩
      walk_at "go"
      refine k_rev1 (SqL.of hl2) (fun p H3 np s3 hp => ?_)
      refine kk p ds.reverse H3 (s2.trans s3) (s2.free np) ?_ (by simp [hn]) (fun d hd' => hd d (List.mem_reverse.mp hd'))
      rw [hp, List.map_reverse]
end
end Lw
namespace Lw
open PySem PySem.Spec PyProof.Rows L2 Gx
section
variable {P : Program} {w : World} {K : PySem.W.Frag} {mg : Str → Option Value} {base : Heap} {f : Addr} {fd : FuncData}
theorem ok__law_names (F : FnP K "_law_names" "_law_names" s__law_names f fd) (T : Txt K mg) : FnOk P w K mg base (L2.CX P w) 1 f fd ["_law_deck_here", "_law_many"] (sp__law_names K) := by
  refine F.ok sc__law_names (fun vs H Q E h => ?_) (fun cdv A outer s H vs Q E hr h => ?_)
  · obtain ⟨l, ds, e, m, rfl, _⟩ := h; rfl
  · refine ⟨_, (pss_cons (ps_set (i := 2) sc__law_names.nd rfl (Or.inr rfl) pe_str) (pss_cons (ps_set (i := 3) sc__law_names.nd rfl (Or.inr rfl) (pe_bm0 PySem.F.plainAttrs_list PySem.F.slot_list_pop PySem.F.type_list_pop mt_pop (pv 0))) (pss_cons (ps_set (i := 4) sc__law_names.nd rfl (Or.inl rfl) (pe_op (op_addK (K := K) rfl) pe_int (pe_op op_modN (pv 3) pe_int))) (pss_cons (ps_setLc (i := 6) (own := [("_law_k", 5)]) (g := gName 5) (by rfl) sc__law_names.nd rfl rfl (sw_true rfl rfl rfl (by decide +kernel)) (pi_range1 rfl T.n_range (pa_cons (pv 4) pa_nil)) (blkOk_by (own := [("_law_k", 5)]) (N := ["_law_deck_here", "_law_many", "_law_letters", "_law_cell", "_law_size", "_law_k", "_law_base", "_law_at", "_law_some"]) (sc := defScope s__law_names) (by decide +kernel)) (fun _ _ _ _ _ => pg_name (i := 5) sc__law_names.nd rfl (Or.inl rfl)) (fun _ _ _ _ _ => pts_nil) (fun _ _ _ _ _ => (pe_ix (ix_K (K := K) rfl) (pv 2) (pe_op op_modN (pe_op op_fdivG (pv 3) (pe_op (op_addK (K := K) rfl) (pv 5) pe_int)) pe_int) (fun _ _ => rfl)))) (pss_cons (ps_set (i := 7) sc__law_names.nd rfl (Or.inl rfl) (pe_op op_modN (pe_op op_fdivG (pv 3) pe_int) (pv 4))) (pss_cons (ps_set (i := 8) sc__law_names.nd rfl (Or.inr rfl) (pe_lst pa_nil)) (pss_cons (ps_for (passes_of rfl) rfl (pi_range1 rfl T.n_range (pa_cons (pv 1) pa_nil)) (pg_name (i := 5) sc__law_names.nd rfl (Or.inl rfl)) (pss_cons (ps_asg (pe_ix (ix_K (K := K) rfl) (pv 2) (pe_op op_modN (pe_op (op_addK (K := K) rfl) (pe_op op_fdivG (pv 3) pe_int) (pv 5)) pe_int) (fun _ _ => rfl)) (pg_sub (pv 6) (pv 7) set_list)) (pss_one (ps_expr (pe_bm PySem.F.plainAttrs_list PySem.F.slot_list_append PySem.F.type_list_append mt_append (pv 8) (pa_cons (pe_m1 PySem.F.slot_str_join PySem.F.type_str_join (mt_joinK (K := K) rfl) pe_str (pv 6)) pa_nil)))))) (C8.pss_cut (ps_if (PW.pt (pw_and (pt_cmpR (op_eqK (K := K) rfl hr) (pe_op op_modN (pe_op op_fdivG (pv 3) pe_int) pe_int) pe_int (nomark _)) (pw_and1 (pt_cmpR (op_eqK (K := K) rfl hr) (pv 4) pe_int (nomark _))))) (pss_one (ps_set (i := 8) sc__law_names.nd rfl (Or.inr rfl) (pe_op (op_addK (K := K) rfl) (pe_lc (own := [("_law_k", 5)]) (g := gName 5) (by rfl) sc__law_names.nd (pi_range1 rfl T.n_range (pa_cons pe_int pa_nil)) (blkOk_by (own := [("_law_k", 5)]) (N := ["_law_deck_here", "_law_many", "_law_letters", "_law_cell", "_law_size", "_law_k", "_law_base", "_law_at", "_law_some"]) (sc := defScope s__law_names) (by decide +kernel)) (fun _ _ _ _ _ => pg_name (i := 5) sc__law_names.nd rfl (Or.inl rfl)) (fun _ _ _ _ _ => pts_nil) (fun _ _ _ _ _ => (pe_slice (sl_K (K := K) rfl) (pe_ix (ix_K (K := K) rfl) (pv 8) pe_int (fun _ _ => rfl)) po_none (po_some (pe_op (op_addK (K := K) rfl) (pv 5) pe_int))))) (pe_slice (sl_K (K := K) rfl) (pv 8) (po_some pe_int) po_none)))) pss_nil) (pss_one (ps_ret (pe_slice (sl_K (K := K) rfl) (pv 8) po_none (po_some (pv 1))))))))))))), ?_⟩
    obtain ⟨l, ds, e, m, rfl, hl, hd, m1, m9, kk⟩ := h
    obtain ⟨hd, e0, e1⟩ := hd.last
    walk_at "go"
    rw [List.map_append] at hl
    refine k_pop hl (fun H1 b1 hl1 => ?_)
    walk_at "go"
    obtain ⟨z, ez⟩ := Int.eq_ofNat_of_zero_le (show 0 ≤ 1 + e % 8 by omega)
    have hz : 1 ≤ z ∧ z ≤ 8 := by omega
    rw [ez]
    refine k_rng1 (by omega) ?_
    rw [show ((z : Int)).toNat = z by omega]
    refine k_lcR (fun D i ys H' => ∃ cs : List Nat, ys = (cs.map Pl.one).map V.str ∧ cs.length = i ∧ Pl.Letters cs ∧ Same H1 H') (fun D H' nD sD hD => ⟨[], rfl, rfl, fun _ h => (nomatch h), sD⟩) ?_ ?_
    · rintro D i ys H' nD hi ⟨cs, rfl, hc, hL, s⟩ hD
      refine k_lcB rfl ?_
      walk_at "go"
      refine k_ixS (by rw [sizeLine_eq]; decide +kernel) (Pl.abc_at (by omega) (by omega)) ?_
      refine ⟨_, hD, (by rw [sizeLine_eq]; simp; omega), _, ⟨cs ++ [_], by simp; rfl, by simp [hc], ?_, But.same nD s But.upd⟩, upd_same⟩
      intro c hc2
      rcases List.mem_append.mp hc2 with h | h
      · exact hL c h
      · rw [List.mem_singleton.mp h]; omega
    rintro b ys H2 nb ⟨cs, rfl, hc, hL, s2⟩ hb
    walk_at "go"
    obtain ⟨at_, ea⟩ := Int.eq_ofNat_of_zero_le (show 0 ≤ e / 8 % (z : Int) from Int.emod_nonneg _ (by omega))
    have hat : at_ < z := by
      have := Int.emod_lt_of_pos (e / 8) (show (0 : Int) < (z : Int) by omega)
      omega
    rw [ea]
    refine k_lstx (fun p H3 np s3 hp => ?_) (by simp)
    walk_at "go"
    have nbp : b ≠ p := ne_of_none hb np
    have hl2 : H2 l = some (.lst (ds.map V.int)) := s2 _ _ hl1
    have nlb : l ≠ b := ne_of_none hl1 nb
    have nlp : l ≠ p := ne_of_none hl2 np
    refine k_rng1 (by omega) ?_
    rw [show ((m : Int)).toNat = m by omega]
    refine k_loopR (n := m) (fun i σ H' => ∃ (t : Option V) (cs2 : List Nat), σ = [some (.ref l), some (.int (m : Int)), some (.str Pl.abc), some (.int e), some (.int (z : Int)), t, some (.ref b), some (.int (at_ : Int)), some (.ref p)] ∧
      (∃ H4, Same H3 H4 ∧ True) ∧ H' l = some (.lst (ds.map V.int)) ∧ But l H H' ∧ H' b = some (.lst ((cs2.map Pl.one).map V.str)) ∧ cs2.length = z ∧ (∀ c, cs2.set at_ c = cs.set at_ c) ∧ H' p = some (.lst ((Pl.some_ cs at_ (e / 64) i).map V.str)))
      ⟨_, cs, rfl, ⟨H3, Same.refl _, trivial⟩, by walk_at "up", ?_, by walk_at "up", hc, fun _ => rfl, hp⟩ ?_ ?_
    · exact fun a o n h => s3 _ _ (s2 _ _ (b1 _ _ n h))
    · rintro i σ H4 hi ⟨t, cs2, rfl, _, hl4, bl4, hb4, hc2, hset, hp4⟩
      walk_at "go"
      refine k_ixS (by rw [sizeLine_eq]; decide +kernel) (Pl.abc_at (by omega) (by omega)) ?_
      walk_at "go"
      refine k_setL (j := at_) hb4 (ixN_nat (by simp; omega)) (fun H5 b5 hb5 => ?_)
      walk_at "go"
      have hp5 := b5 _ _ (Ne.symm nbp) hp4
      refine ⟨k_app0 hp5, ?_⟩
      walk_at "go"
      have hx : ((cs2.map Pl.one).map V.str).set at_ (.str ⟨#[97 + ((e / 64 + (i : Int)) % 26).toNat]⟩) = ((cs2.set at_ (97 + ((e / 64 + (i : Int)) % 26).toNat)).map Pl.one).map V.str := by
        rw [List.map_set, List.map_set]
        rfl
      rw [hx] at hb5
      refine k_join (.inl (SqL.of hb5)) (by rw [Pl.sum_ones, show (Str.ofString "").length = 0 by decide +kernel]; simp; omega) ?_
      walk_at "go"
      have e2 := Pl.join_ones (cs2.set at_ (97 + ((e / 64 + (i : Int)) % 26).toNat))
      refine k_app1 hp5 (by rw [sizeLine_eq]; simp [Pl.some_len]; omega) (fun H6 b6 hp6 => ?_)
      refine ⟨_, cs2.set at_ (97 + ((e / 64 + (i : Int)) % 26).toNat), rfl, ⟨H3, Same.refl _, trivial⟩, ?_, ?_, b6 _ _ nbp hb5, by simp [hc2], fun c => by rw [List.set_set, hset], ?_⟩
      · exact b6 _ _ nlp (b5 _ _ nlb hl4)
      · intro a o n h
        have h4 := bl4 _ _ n h
        have n5 : a ≠ b := fun e => by subst e; exact absurd (b1 _ _ n h) (by rw [nb]; simp)
        have n6 : a ≠ p := fun e => by subst e; exact absurd (s2 _ _ (b1 _ _ n h)) (by rw [np]; simp)
        exact b6 _ _ n6 (b5 _ _ n5 h4)
      · rw [hp6, Pl.some_succ, List.map_append]
        have e3 : Txt.join (Str.ofString "") ((cs2.set at_ (97 + ((e / 64 + (i : Int)) % 26).toNat)).map Pl.one) = Pl.nm cs at_ (97 + ((e / 64 + (i : Int)) % 26).toNat) := by
          unfold Pl.nm
          rw [← hset]
          exact e2
        rw [e3]
        rfl
    · rintro σ H4 ⟨t, cs2, rfl, _, hl4, bl4, hb4, hc2, hset, hp4⟩
      walk_at "go"
      have np0 : ∀ a, H2 a = none → a ≠ l → H a = none := fun a n nl => by
        cases q : H a with
        | none => rfl
        | some o => exact absurd (s2 _ _ (b1 _ _ nl q)) (by rw [n]; simp)
      have nd := Pl.some_nd (show at_ < cs.length by omega) (e / 64) m9
      have hnm := Pl.some_nm (k := at_) hL (by omega) (by omega) (e / 64) m
      refine k_cut (fun σ H' => ∃ (p2 : Addr) (ns : List Str) (t : Option V), σ = [some (.ref l), some (.int (m : Int)), some (.str Pl.abc), some (.int e), some (.int (z : Int)), t, some (.ref b), some (.int (at_ : Int)), some (.ref p2)] ∧ Same H4 H' ∧ H' p2 = some (.lst (ns.map V.str)) ∧
        m ≤ ns.length ∧ ns.Nodup ∧ (∀ s ∈ ns, Pl.Nm s)) ?_ ?_
      · walk_at "go"
        have keep : (∃ (p2 : Addr) (ns : List Str) (t2 : Option V), [some (V.ref l), some (.int (m : Int)), some (.str Pl.abc), some (.int e), some (.int (z : Int)), t, some (.ref b), some (.int (at_ : Int)), some (.ref p)] = [some (.ref l), some (.int (m : Int)), some (.str Pl.abc), some (.int e), some (.int (z : Int)), t2, some (.ref b), some (.int (at_ : Int)), some (.ref p2)] ∧ Same H4 H4 ∧ H4 p2 = some (.lst (ns.map V.str)) ∧
          m ≤ ns.length ∧ ns.Nodup ∧ (∀ s ∈ ns, Pl.Nm s)) := ⟨p, _, t, rfl, Same.refl _, hp4, by rw [Pl.some_len]; exact Nat.le_refl m, nd, hnm⟩
        refine k_if (fun c => ?_) (fun c => ?_)
        · walk_at "go"
          refine k_if (fun c2 => ?_) (fun c2 => ?_)
          · walk_at "go"
            have z8 : z = 8 := by omega
            obtain ⟨s0, r, es⟩ : ∃ s0 r, Pl.some_ cs at_ (e / 64) m = s0 :: r := by
              have := Pl.some_len cs at_ (e / 64) m
              cases q : Pl.some_ cs at_ (e / 64) m with
              | nil => rw [q] at this; simp at this; omega
              | cons s0 r => exact ⟨s0, r, rfl⟩
            have sz : ∀ s ∈ s0 :: r, s.cps.size = 8 := fun s hs => by
              rw [← es] at hs
              rw [Pl.some_size s hs, hc, z8]
            have hlen := Pl.some_len cs at_ (e / 64) m
            rw [es] at hp4 hnm nd hlen
            have s08 := sz s0 (by simp)
            refine k_rng1 (by omega) ?_
            refine k_lcR (n := 8) (fun D i ys H' => ys = ((List.range i).map (Pl.fr s0)).map V.str ∧ Same H4 H') (fun D H' nD sD hD => ⟨rfl, sD⟩) ?_ ?_
            · rintro D i ys H' nD hi ⟨rfl, s⟩ hD
              refine k_lcB rfl ?_
              walk_at "go"
              refine k_ixL (SqL.of (s _ _ hp4)) (v := .str s0) (atI_nat (j := 0) rfl) ?_
              walk_at "go"
              refine k_slS ?_ (by rw [sizeLine_eq]; show s0.cps.size ≤ _; omega)
              rw [show (0 : Int) + (i : Int) + 1 = ((i + 1 : Nat) : Int) by omega, Pl.cut_front (by omega)]
              exact ⟨_, hD, (by rw [sizeLine_eq]; simp; omega), _, ⟨by rw [List.range_succ]; simp; rfl, But.same nD s But.upd⟩, upd_same⟩
            · rintro D ys H5 nD ⟨rfl, s5⟩ hD
              walk_at "go"
              refine k_slL (SqL.of (s5 _ _ hp4)) (fun u H6 nu s6 hu => ?_)
              rw [show (some (1 : Int)) = some ((1 : Nat) : Int) from rfl, Ct.from_ (by simp), List.map_cons, List.drop_one, List.tail_cons] at hu
              walk_at "go"
              have hlr : r.length ≤ 8 := by simp at hlen; omega
              refine k_addL (s6 _ _ hD) hu (fun w H7 nw s7 hw => ?_) (by rw [sizeLine_eq]; simp; omega)
              walk_at "go"
              refine ⟨w, (List.range 8).map (Pl.fr s0) ++ r, t, rfl, (s5.trans s6).trans s7, by rw [hw, ← List.map_append], by simp at hlen ⊢; omega, Pl.fronts_nd s08 (fun x hx => sz x (List.mem_cons_of_mem _ hx)) nd, ?_⟩
              intro s hs
              rcases List.mem_append.mp hs with h | h
              · obtain ⟨j, hj, rfl⟩ := List.mem_map.mp h
                have := List.mem_range.mp hj
                exact Pl.fr_nm (hnm s0 (by simp)) (by omega)
              · exact hnm s (List.mem_cons_of_mem _ h)
          · walk_at "go"
            exact keep
        · walk_at "go"
          exact keep
      · rintro σ H5 ⟨p2, ns, t2, rfl, s5, hp5, hlen, nd2, hnm2⟩
        walk_at "go"
        refine k_slL (SqL.of hp5) (fun w H6 nw s6 hw => ?_)
        rw [Ct.to (by simpa using hlen)] at hw
        have bl6 : But l H H6 := fun a o n h => s6 _ _ (s5 _ _ (bl4 _ _ n h))
        refine kk w (ns.take m) H6 bl6 (s6 _ _ (s5 _ _ hl4)) ?_ (by rw [hw, List.map_take]) (by rw [List.length_take]; omega) (nd2.sublist (List.take_sublist ..)) (fun s hs => hnm2 s (List.mem_of_mem_take hs))
        have nwl : w ≠ l := fun e => by subst e; rw [s5 _ _ hl4] at nw; cases nw
        cases q : H w with
        | none => rfl
        | some o => exact absurd (s5 _ _ (bl4 _ _ nwl q)) (by rw [nw]; simp)
end
end Lw
namespace Lw
open PySem PySem.Spec PyProof.Rows L2 Gx
section
variable {P : Program} {w : World} {K : PySem.W.Frag} {mg : Str → Option Value} {base : Heap} {f : Addr} {fd : FuncData}
theorem ok__law_piles (F : FnP K "_law_piles" "_law_piles" s__law_piles f fd) (T : Txt K mg) (c__law_names : Cl P w K mg base 1 "_law_names" ["_law_deck_here", "_law_many"] (sp__law_names K)) : FnOk P w K mg base (L2.CX P w) 2 f fd ["_law_deck_here"] (sp__law_piles K) := by
  refine F.ok sc__law_piles (fun vs H Q E h => ?_) (fun cdv A outer s H vs Q E hr h => ?_)
  · obtain ⟨l, ds, rfl, _⟩ := h; rfl
  · refine ⟨_, (pss_cons (ps_set (i := 1) sc__law_piles.nd rfl (Or.inl rfl) (pe_op (op_addK (K := K) rfl) pe_int (pe_op op_modN (pe_bm0 PySem.F.plainAttrs_list PySem.F.slot_list_pop PySem.F.type_list_pop mt_pop (pv 0)) pe_int))) (pss_cons (ps_set (i := 2) sc__law_piles.nd rfl (Or.inl rfl) (pe_lst pa_nil)) (pss_cons (ps_set (i := 3) sc__law_piles.nd rfl (Or.inl rfl) pe_int) (pss_cons (ps_for (passes_of rfl) rfl (pi_seqU (pcall c__law_names hr (by first | decide | omega) (takes_of rfl rfl rfl rfl) (pa_cons (pv 0) (pa_cons (pv 1) pa_nil)))) (pg_name (i := 4) sc__law_piles.nd rfl (Or.inl rfl)) (pss_cons (ps_set (i := 5) sc__law_piles.nd rfl (Or.inl rfl) (pe_bm0 PySem.F.plainAttrs_list PySem.F.slot_list_pop PySem.F.type_list_pop mt_pop (pv 0))) (pss_cons (ps_set (i := 6) sc__law_piles.nd rfl (Or.inl rfl) (pe_callB (call_minU rfl) (by rfl) T.n_min (by decide +kernel) (pa_cons (pv 3) (pa_cons (pe_op op_modN (pe_op op_fdivG (pv 5) pe_int) (pe_ix (ix_K (K := K) rfl) (pe_lst (pa_cons pe_int (pa_cons pe_int (pa_cons pe_int pa_nil)))) (pe_op op_modN (pv 5) pe_int) (fun _ _ => rfl))) pa_nil)))) (pss_cons (ps_set (i := 3) sc__law_piles.nd rfl (Or.inl rfl) (pe_op op_sub (pv 3) (pv 6))) (pss_one (ps_expr (pe_bm PySem.F.plainAttrs_list PySem.F.slot_list_append PySem.F.type_list_append mt_append (pv 2) (pa_cons (pe_tup (pa_cons (pv 4) (pa_cons (pv 6) pa_nil))) pa_nil)))))))) (C8.pss_cut (ps_if (pt_cmpR (op_eqK (K := K) rfl hr) (pv 3) pe_int (nomark _)) (pss_one (ps_asg (pe_tup (pa_cons (pe_ix (ix_K (K := K) rfl) (pe_ix (ix_K (K := K) rfl) (pv 2) (pe_op op_fdivG (pv 1) pe_int) (fun _ _ => rfl)) pe_int (fun _ _ => rfl)) (pa_cons (pe_op (op_addK (K := K) rfl) pe_int (pe_op op_modN (pe_bm0 PySem.F.plainAttrs_list PySem.F.slot_list_pop PySem.F.type_list_pop mt_pop (pv 0)) pe_int)) pa_nil))) (pg_sub (pv 2) (pe_op op_fdivG (pv 1) pe_int) set_list))) pss_nil) (pss_one (ps_ret (pe_callTy call_tupU (by rfl) T.n_tuple (by decide +kernel) (pa_cons (pv 2) pa_nil))))))))), ?_⟩
    obtain ⟨l, ds, rfl, hl, hd, hn, kk⟩ := h
    obtain ⟨es, e1, rfl⟩ := Dk.last ds (by omega)
    obtain ⟨hd, a0, a1⟩ := hd.last
    walk_at "go"
    rw [List.map_append] at hl
    refine k_pop hl (fun H1 b1 hl1 => ?_)
    walk_at "go"
    obtain ⟨m, em⟩ := Int.eq_ofNat_of_zero_le (show 0 ≤ 1 + e1 % 9 by omega)
    have hm : 1 ≤ m ∧ m ≤ 9 := by omega
    rw [em]
    refine k_lstx (fun p H2 np s2 hp => ?_) (by simp)
    walk_at "go"
    obtain ⟨es, e2, rfl⟩ := Dk.last es (by simp at hn; omega)
    have hl2 := s2 _ _ hl1
    have nlp : l ≠ p := ne_of_none hl1 np
    refine ⟨l, es, e2, m, rfl, hl2, hd, hm.1, hm.2, fun q ns H3 b3 hl3 nq hq hnl hnd hnm => ?_⟩
    have hd2 := hd.last.1
    have npq : p ≠ q := ne_of_none hp nq
    have nlq : l ≠ q := ne_of_none hl2 nq
    have nsl : (ns.map V.str).length = m := by simp [hnl]
    refine k_itUL (SqL.of hq) ?_
    refine k_loopL (fun i σ H' => ∃ (t1 t2 t3 : Option V) (ds : List Int) (xs : List V) (cs : List Int) (k : Int), σ = [some (.ref l), some (.int (m : Int)), some (.ref p), some (.int k), t1, t2, t3] ∧
      But l H1 H' ∧ H' l = some (.lst (ds.map V.int)) ∧ ds.length + i = es.length ∧ Deck ds ∧ H' q = some (.lst (ns.map V.str)) ∧ H' p = some (.lst xs) ∧ DpAll K H' xs (((ns.take i).zip cs).map Pl.pd) ∧ cs.length = i ∧ (∀ c ∈ cs, 0 ≤ c) ∧ k = 60 - cs.sum ∧ 0 ≤ k)
      ⟨none, none, none, es, [], [], 60, rfl, (But.of s2).trans b3, hl3, rfl, hd2, hq, b3 _ _ (Ne.symm nlp) hp, .nil, rfl, fun _ h => (nomatch h), rfl, by decide⟩ (fun i σ H' _ h => by obtain ⟨_, _, _, _, _, _, _, _, _, _, _, _, h, _⟩ := h; exact SqL.of h) ?_ ?_
    · rintro i x σ H4 hx ⟨t1, t2, t3, ds, xs, cs, k, rfl, b4, hl4, hdl, hd4, hq4, hp4, da, hcl, hc0, hk, k0⟩
      obtain ⟨s, hs, rfl⟩ : ∃ s, ns[i]? = some s ∧ x = V.str s := by
        rw [List.getElem?_map] at hx
        cases q : ns[i]? with
        | none => rw [q] at hx; cases hx
        | some n => rw [q] at hx; exact ⟨n, rfl, (Option.some.inj hx).symm⟩
      have hi : i < m := by have := (List.getElem?_eq_some_iff.mp hs).1; omega
      obtain ⟨ds, e, rfl⟩ := Dk.last ds (by simp at hn; omega)
      obtain ⟨hd4, e0, _⟩ := hd4.last
      walk_at "go"
      rw [List.map_append] at hl4
      refine k_pop hl4 (fun H5 b5 hl5 => ?_)
      have hp5 := b5 _ _ (Ne.symm nlp) hp4
      have hq5 := b5 _ _ (Ne.symm nlq) hq4
      have noL1 : ∀ (zs : List (Str × Int)), noLs (zs.map Pl.pd) = true := fun zs => Dt.noLs_of fun x hx => by
        obtain ⟨p, _, rfl⟩ := List.mem_map.mp hx
        rfl
      have da5 := dpAll_but b5 hl4 (noL1 _) da
      walk_at "go"
      refine k_lstx (fun u H6 nu s6 hu => ?_) (by simp [sizeLine_eq])
      walk_at "go"
      obtain ⟨z, hz1, hz⟩ : ∃ z : Int, 0 < z ∧ atI [V.int 4, V.int 9, V.int 61] (e % 3) = some (.int z) ∧ z < 100 := by
        have c : e % 3 = 0 ∨ e % 3 = 1 ∨ e % 3 = 2 := by omega
        rcases c with c | c | c
        · exact ⟨4, by decide, by rw [c]; rfl, by decide⟩
        · exact ⟨9, by decide, by rw [c]; rfl, by decide⟩
        · exact ⟨61, by decide, by rw [c]; rfl, by decide⟩
      refine k_ixL (SqL.of hu) hz.1 ?_
      walk_at "go"
      have v0 := Int.emod_nonneg (e / 3) (show z ≠ 0 by omega)
      generalize hc : min k (e / 3 % z) = c
      have hp6 := s6 _ _ hp5
      refine ⟨k_app0 hp6, ?_⟩
      walk_at "go"
      refine k_tupx (fun w H7 nw s7 hw => ?_) (by simp [sizeLine_eq])
      walk_at "go"
      have hxl : xs.length = i := by rw [Dt.len da, List.length_map, List.length_zip, List.length_take]; omega
      refine k_app1 (s7 _ _ hp6) (by rw [sizeLine_eq]; omega) (fun H8 b8 hp8 => ?_)
      have hp7 := s7 _ _ hp6
      refine ⟨_, _, _, ds, xs ++ [.ref w], cs ++ [c], k - c, rfl, ?_, ?_, by simp at hdl; omega, hd4, ?_, hp8, ?_, by simp [hcl], ?_, by simp; omega, by omega⟩
      · intro a o n h
        have h7 := s7 _ _ (s6 _ _ (b5 _ _ n (b4 _ _ n h)))
        have na : a ≠ p := fun e => by subst e; rw [np] at h; cases h
        exact b8 _ _ na h7
      · exact b8 _ _ nlp (s7 _ _ (s6 _ _ hl5))
      · exact b8 _ _ (Ne.symm npq) (s7 _ _ (s6 _ _ hq5))
      · have h7 := dpAll_but b8 hp7 (noL1 _) (dpAll_same s7 (dpAll_same s6 da5))
        have h8 : SqT K H8 w [.str s, .int c] := seqT_but b8 hp7 (SqT.of hw)
        have e : (ns.take (i + 1)).zip (cs ++ [c]) = (ns.take i).zip cs ++ [(s, c)] := by
          rw [take_snoc hs, List.zip_append (by rw [List.length_take]; omega)]
          rfl
        rw [e, List.map_append]
        exact Dt.snoc h7 (Pl.dp_pd h8)
      · intro y hy
        rcases List.mem_append.mp hy with h | h
        · exact hc0 y h
        · rw [List.mem_singleton.mp h]; omega
    · rintro σ H4 ⟨t1, t2, t3, ds, xs, cs, k, rfl, b4, hl4, hdl, hd4, hq4, hp4, da, hcl, hc0, hk, k0⟩
      have noL1 : ∀ (zs : List (Str × Int)), noLs (zs.map Pl.pd) = true := fun zs => Dt.noLs_of fun x hx => by
        obtain ⟨p, _, rfl⟩ := List.mem_map.mp hx
        rfl
      rw [nsl] at hcl hdl
      rw [List.take_of_length_le (by rw [nsl]; omega)] at da
      have fstz : ∀ cs : List Int, cs.length = m → (ns.zip cs).map (·.1) = ns := fun cs h => List.map_fst_zip (by omega)
      have sndz : ∀ cs : List Int, cs.length = m → (ns.zip cs).map (·.2) = cs := fun cs h => List.map_snd_zip (by omega)
      have good : ∀ cs : List Int, cs.length = m → (∀ c ∈ cs, 0 ≤ c) → 1 ≤ cs.sum → cs.sum ≤ 60 → Pl.Good (ns.zip cs) := fun cs h h0 h1 h2 =>
        ⟨by rw [fstz cs h]; exact hnd, fun p hp => hnm p.1 (by rw [← fstz cs h]; exact List.mem_map_of_mem hp), fun p hp => h0 p.2 (by rw [← sndz cs h]; exact List.mem_map_of_mem hp), by unfold Pl.tot; rw [sndz cs h]; exact h1, by unfold Pl.tot; rw [sndz cs h]; exact h2, by rw [List.length_zip]; omega⟩
      have b14 : But l H H4 := b1.trans b4
      walk_at "go"
      refine k_cut (fun σ H' => ∃ (ds : List Int) (xs : List V) (cs : List Int), σ = [some (.ref l), some (.int (m : Int)), some (.ref p), some (.int k), t1, t2, t3] ∧ But l H H' ∧ H' l = some (.lst (ds.map V.int)) ∧ es.length ≤ ds.length + m + 1 ∧ Deck ds ∧ H' p = some (.lst xs) ∧ DpAll K H' xs ((ns.zip cs).map Pl.pd) ∧ Pl.Good (ns.zip cs)) ?_ ?_
      · walk_at "go"
        refine k_if (fun c => ?_) (fun c => ?_)
        · walk_at "go"
          obtain ⟨ds, e, rfl⟩ := Dk.last ds (by simp at hn; omega)
          obtain ⟨hd4, e0, _⟩ := hd4.last
          obtain ⟨j, ej⟩ := Int.eq_ofNat_of_zero_le (show 0 ≤ (m : Int) / 2 by omega)
          have hj : j < m := by omega
          rw [ej]
          have hxl : xs.length = m := by rw [Dt.len da, List.length_map, List.length_zip]; omega
          obtain ⟨r, u, er, hr, hu⟩ := Pl.at_pd da (show xs[j]? = some (xs[j]'(by omega)) by simp)
          have e1 : ns[j]? = some r.1 := by
            have := List.getElem?_map (f := (·.1)) (l := ns.zip cs) (i := j)
            rw [fstz cs hcl, er] at this
            exact this
          refine k_ixL (SqL.of hp4) (atI_nat (show xs[j]? = some (.ref u) by rw [← hr]; simp)) ?_
          refine k_ixT hu (v := .str r.1) rfl ?_
          walk_at "go"
          rw [List.map_append] at hl4
          refine k_pop hl4 (fun H5 b5 hl5 => ?_)
          walk_at "go"
          refine k_tupx (fun w H6 nw s6 hw => ?_) (by simp [sizeLine_eq])
          walk_at "go"
          have hp6 := s6 _ _ (b5 _ _ (Ne.symm nlp) hp4)
          rw [ej]
          refine k_setL hp6 (ixN_nat (show j < xs.length by omega)) (fun H7 b7 hp7 => ?_)
          have dz : ∀ cs' : List Int, cs'.length = m → True := fun _ _ => trivial
          refine ⟨ds, _, cs.set j (1 + e % 60), rfl, ?_, b7 _ _ nlp (s6 _ _ hl5), by simp at hdl; omega, hd4, hp7, ?_, good _ (by simp [hcl]) ?_ ?_ ?_⟩
          · intro a o n h
            have h6 := s6 _ _ (b5 _ _ n (b14 _ _ n h))
            have na : a ≠ p := fun e => by subst e; exact absurd (b1 _ _ n h) (by rw [np]; simp)
            exact b7 _ _ na h6
          · have h7 := dpAll_but b7 hp6 (noL1 _) (dpAll_same s6 (dpAll_but b5 hl4 (noL1 _) da))
            have h8 : SqT K H7 w [.str r.1, .int (1 + e % 60)] := seqT_but b7 hp6 (SqT.of hw)
            have e2 : ns.zip (cs.set j (1 + e % 60)) = (ns.zip cs).set j (r.1, 1 + e % 60) := by
              exact Pl.zip_set _ e1
            rw [e2, List.map_set]
            exact Dt.set j h7 (Pl.dp_pd (p := (r.1, 1 + e % 60)) h8)
          · intro y hy
            rcases List.mem_or_eq_of_mem_set hy with h | h
            · exact hc0 y h
            · rw [h]; omega
          · rw [Pl.sum_set0 hc0 (by omega) (by omega)]; omega
          · rw [Pl.sum_set0 hc0 (by omega) (by omega)]; omega
        · walk_at "go"
          have := (Pl.sum_nn hc0).1
          refine ⟨ds, xs, cs, rfl, b14, hl4, by omega, hd4, hp4, da, good cs hcl hc0 (by omega) (by omega)⟩
      · rintro σ H5 ⟨ds, xs, cs, rfl, b5, hl5, hdl5, hd5, hp5, da5, g⟩
        walk_at "go"
        refine k_tupL (SqL.of hp5) (fun w H6 nw s6 hw => ?_)
        exact kk _ _ ds H6 (b5.trans (But.of s6)) (s6 _ _ hl5) hd5 (by simp at hn ⊢; omega) g (.tup (SqT.of hw) (dpAll_same s6 da5))
end
end Lw
namespace Lw
open PySem PySem.Spec PyProof.Rows L2 Gx
section
variable {P : Program} {w : World} {K : PySem.W.Frag} {mg : Str → Option Value} {base : Heap} {f : Addr} {fd : FuncData}
theorem ok__law_places (F : FnP K "_law_places" "_law_places" s__law_places f fd) (T : Txt K mg) : FnOk P w K mg base (L2.CX P w) 1 f fd ["_law_piles_here"] (sp__law_places K) := by
  refine F.ok sc__law_places (fun vs H Q E h => ?_) (fun cdv A outer s H vs Q E hr h => ?_)
  · obtain ⟨v, pl, rfl, _⟩ := h; rfl
  · refine ⟨_, (pss_cons (ps_set (i := 1) sc__law_places.nd rfl (Or.inl rfl) (pe_lst pa_nil)) (pss_cons (ps_for (passes_of rfl) rfl (pi_seqU (pv 0)) (pg_tup rfl (pgs_cons (pg_name (i := 2) sc__law_places.nd rfl (Or.inr rfl)) (pgs_cons (pg_name (i := 3) sc__law_places.nd rfl (Or.inl rfl)) pgs_nil))) (pss_one (ps_set (i := 1) sc__law_places.nd rfl (Or.inl rfl) (pe_op (op_addK (K := K) rfl) (pv 1) (pe_lc (own := [("_law_k", 4)]) (g := gName 4) (by rfl) sc__law_places.nd (pi_range1 rfl T.n_range (pa_cons (pv 3) pa_nil)) (blkOk_by (own := [("_law_k", 4)]) (N := ["_law_piles_here", "_law_places_here", "_law_name", "_law_count", "_law_k"]) (sc := defScope s__law_places) (by decide +kernel)) (fun _ _ _ _ _ => pg_name (i := 4) sc__law_places.nd rfl (Or.inl rfl)) (fun _ _ _ _ _ => pts_nil) (fun _ _ _ _ _ => (pe_tup (pa_cons (pv 2) (pa_cons (pv 4) pa_nil))))))))) (pss_one (ps_ret (pv 1))))), ?_⟩
    obtain ⟨v, pl, rfl, dv, g, kk⟩ := h
    obtain ⟨p, xs, rfl, hp, da⟩ := Dt.tup dv
    have hx : xs.length = pl.length := by rw [Dt.len da, List.length_map]
    have hpl : ∀ i, ((Pl.places (pl.take i)).length : Int) ≤ 60 := fun i => by
      rw [Pl.places_len fun p hp => g.pos p (List.mem_of_mem_take hp)]
      have e : Pl.tot pl = Pl.tot (pl.take i) + Pl.tot (pl.drop i) := by
        unfold Pl.tot
        rw [← List.sum_append, ← List.map_append, List.take_append_drop]
      have := Pl.tot_nn fun p hp => g.pos p (List.mem_of_mem_drop (i := i) hp)
      have := g.t2
      omega
    walk_at "go"
    refine k_lstx (fun q H1 nq s1 hq => ?_) (by simp)
    walk_at "go"
    refine k_itUT (seqT_same s1 hp) ?_
    refine k_loopT (fun i σ H' => ∃ (t1 t2 : Option V) (q : Addr) (ys : List V), σ = [some (.ref p), some (.ref q), t1, t2, none] ∧ Same H H' ∧ H' q = some (.lst ys) ∧ DpAll K H' ys ((Pl.places (pl.take i)).map Pl.pd)) ⟨none, none, q, [], rfl, s1, hq, .nil⟩ (fun i σ H' _ h => by obtain ⟨_, _, _, _, _, s, _⟩ := h; exact seqT_same s hp) ?_ ?_
    · rintro i x σ H2 hx2 ⟨t1, t2, q, ys, rfl, s2, hq2, dy⟩
      obtain ⟨r, u, e, rfl, hs⟩ := Pl.at_pd da hx2
      refine k_gtup (seqT_same s2 hs) rfl ?_
      walk_at "go"
      have hi := (List.getElem?_eq_some_iff.mp e).1
      have hr : r ∈ pl := List.mem_of_getElem? e
      have r0 := g.pos r hr
      have e3 : Pl.places (pl.take (i + 1)) = Pl.places (pl.take i) ++ Pl.row r := by
        rw [take_snoc e]
        simp [Pl.places]
      have h60 := hpl (i + 1)
      rw [e3, List.length_append, Pl.row_len] at h60
      obtain ⟨z, ez⟩ := Int.eq_ofNat_of_zero_le r0
      rw [ez]
      refine k_rng1 (by omega) ?_
      rw [show ((z : Int)).toNat = z by omega]
      refine k_lcR (fun D j zs H' => Same H2 H' ∧ DpAll K H' zs ((List.range j).map fun (k : Nat) => Pl.pd (r.1, (k : Int))) ∧ zs.length = j) (fun D H' nD sD hD => ⟨sD, .nil, rfl⟩) ?_ ?_
      · rintro D j zs H' nD hj ⟨s, dz, hzl⟩ hD
        refine k_lcB rfl ?_
        walk_at "go"
        refine k_tupx (fun w H3 nw s3 hw => ?_) (by simp [sizeLine_eq])
        have hD3 := s3 _ _ hD
        have noL1 : noLs ((List.range j).map fun (k : Nat) => Pl.pd (r.1, (k : Int))) = true := Dt.noLs_of fun x hx => by
          obtain ⟨p, _, rfl⟩ := List.mem_map.mp hx
          rfl
        refine ⟨_, hD3, (by rw [sizeLine_eq]; omega), _, ⟨But.same nD (s.trans s3) But.upd, ?_, by simp [hzl]⟩, upd_same⟩
        rw [List.range_succ, List.map_append]
        refine Dt.snoc (dpAll_but But.upd hD3 noL1 (dpAll_same s3 dz)) ?_
        exact Pl.dp_pd (p := (r.1, (j : Int))) (seqT_but But.upd hD3 (SqT.of (by rw [Int.zero_add] at hw; exact hw)))
      · rintro D zs H3 nD ⟨s3, dz, hzl⟩ hD
        have hyl : ys.length = (Pl.places (pl.take i)).length := by rw [Dt.len dy, List.length_map]
        refine k_addL (s3 _ _ hq2) hD (fun w H4 nw s4 hw => ?_) (by rw [sizeLine_eq]; omega)
        walk_at "go"
        refine ⟨_, _, w, _, rfl, (s2.trans s3).trans s4, hw, ?_⟩
        rw [e3, List.map_append]
        refine Dt.app (dpAll_same s4 (dpAll_same s3 dy)) (dpAll_same s4 ?_)
        unfold Pl.row
        rw [List.map_map, show r.2.toNat = z by omega]
        exact dz
    · rintro σ H2 ⟨t1, t2, q, ys, rfl, s2, hq2, dy⟩
      walk_at "go"
      rw [List.take_of_length_le (by omega)] at dy
      exact kk q H2 s2 (.lst (SqL.of hq2) dy)
end
end Lw
namespace Lw
open PySem PySem.Spec PyProof.Rows L2 Gx
section
variable {P : Program} {w : World} {K : PySem.W.Frag} {mg : Str → Option Value} {base : Heap} {f : Addr} {fd : FuncData}
theorem ok__law_number (F : FnP K "_law_number" "_law_number" s__law_number f fd) (T : Txt K mg) : FnOk P w K mg base (L2.CX P w) 1 f fd ["_law_deck_here", "_law_many"] (sp__law_number K) := by
  refine F.ok sc__law_number (fun vs H Q E h => ?_) (fun cdv A outer s H vs Q E hr h => ?_)
  · obtain ⟨l, ds, e, m, rfl, _⟩ := h; rfl
  · refine ⟨_, (pss_cons (ps_set (i := 2) sc__law_number.nd rfl (Or.inl rfl) (pe_bm0 PySem.F.plainAttrs_list PySem.F.slot_list_pop PySem.F.type_list_pop mt_pop (pv 0))) (pss_cons (ps_set (i := 3) sc__law_number.nd rfl (Or.inl rfl) (pe_op op_modN (pe_op op_fdivG (pv 2) pe_int) (pe_op op_pow pe_int pe_int))) (pss_cons (ps_set (i := 4) sc__law_number.nd rfl (Or.inl rfl) (pe_lst (pa_cons pe_int (pa_cons (pe_op op_sub (pv 1) pe_int) (pa_cons (pv 1) (pa_cons (pe_op (op_addK (K := K) rfl) (pe_op (op_addK (K := K) rfl) (pv 1) pe_int) (pv 3)) (pa_cons (pe_un un_neg pe_int) (pa_cons (pe_op op_sub (pe_un un_neg pe_int) (pv 3)) (pa_cons pe_bl (pa_cons pe_bl (pa_cons pe_non (pa_cons (pe_callTy call_strU (by rfl) T.n_str (by decide +kernel) (pa_cons (pe_op op_modN (pv 3) (pv 1)) pa_nil)) (pa_cons (pe_tup (pa_cons pe_int pa_nil)) (pa_cons (pe_lst (pa_cons pe_int pa_nil)) pa_nil)))))))))))))) (pss_cons (ps_set (i := 4) sc__law_number.nd rfl (Or.inl rfl) (pe_op (op_addK (K := K) rfl) (pv 4) (pe_lst (pa_cons pe_dnewK (pa_cons (pe_disp (pps_cons pe_str pe_int pps_nil) rfl rfl (by simp) (by decide)) pa_nil))))) (pss_one (ps_ret (pe_ix (ix_K (K := K) rfl) (pv 4) (pe_op op_modN (pv 2) pe_int) (fun _ _ => rfl)))))))), ?_⟩
    obtain ⟨l, ds, e, m, rfl, hl, hd, m1, m60, kk⟩ := h
    obtain ⟨hd, e0, e1⟩ := hd.last
    walk_at "go"
    rw [List.map_append] at hl
    refine k_pop hl (fun H1 b1 hl1 => ?_)
    walk_at "go"
    refine k_strI ?_ ?_
    rotate_left
    · have := Int.emod_lt_of_pos (e / 14 % 100000000000000000000) (show 0 < m by omega)
      have := Int.emod_nonneg (e / 14 % 100000000000000000000) (show m ≠ 0 by omega)
      exact Nat.lt_of_lt_of_le (PySem.Flt.log2_lt_of (k := 64) (by decide) (by omega)) (by decide)
    walk_at "go"
    refine k_tupx (fun p2 H2 n2 s2 h2 => ?_) (by simp [sizeLine_eq])
    walk_at "go"
    refine k_lstx (fun p3 H3 n3 s3 h3 => ?_) (by simp [sizeLine_eq])
    walk_at "go"
    refine k_lstx (fun p4 H4 n4 s4 h4 => ?_) (by simp [sizeLine_eq])
    walk_at "go"
    refine k_dict1 (fun p5 H5 n5 s5 h5 => ?_)
    walk_at "go"
    refine k_disp1 (fun p6 H6 n6 s6 h6 => ?_)
    walk_at "go"
    refine k_disp1x h6 (fun H7 b7 h7 => ?_)
    have s7 : Same H5 H7 := But.same n6 s6 b7
    walk_at "go"
    refine k_lstx (fun p8 H8 n8 s8 h8 => ?_) (by simp [sizeLine_eq])
    walk_at "go"
    refine k_addL (show H8 p4 = _ by walk_at "up") h8 (fun p9 H9 n9 s9 h9 => ?_) (by simp [sizeLine_eq])
    walk_at "go"
    have t8 := s9
    have t7 := s8.trans t8
    have t5 := s7.trans t7
    have t4 := s5.trans t5
    have t3 := s4.trans t4
    have t2 := s3.trans t3
    have t1 := s2.trans t2
    obtain ⟨x, ⟨b, hw, hb⟩, hat⟩ := at_all2 (P := Num K H9) (i := e % 14) h9 (all_cons (P := Num K H9) (Num.int _) (all_cons (P := Num K H9) (Num.int _) (all_cons (P := Num K H9) (Num.int _) (all_cons (P := Num K H9) (Num.int _) (all_cons (P := Num K H9) (Num.int _) (all_cons (P := Num K H9) (Num.int _)
      (all_cons (P := Num K H9) (Num.no (Whole.bl _)) (all_cons (P := Num K H9) (Num.no (Whole.bl _)) (all_cons (P := Num K H9) (Num.no Whole.non) (all_cons (P := Num K H9) (Num.no (Whole.str _))
      (all_cons (P := Num K H9) (Num.no (Whole.tup (SqT.of (t2 _ _ h2)))) (all_cons (P := Num K H9) (Num.no (Whole.lst (SqL.of (t3 _ _ h3)))) (all_cons (P := Num K H9) (Num.no (Whole.dict (t5 _ _ h5))) (all_cons (P := Num K H9) (Num.no (Whole.dict (t7 _ _ h7))) (fun x (h : x ∈ ([] : List V)) => (nomatch h)))))))))))))))) (by omega) (by show e % 14 < 14; omega)
    refine k_ixL (SqL.of h9) hat ?_
    exact kk x b H9 (b1.trans (But.of t1)) (t1 _ _ hl1) hw hb
end
end Lw
namespace Lw
open PySem PySem.Spec PyProof.Rows L2 Gx
section
variable {P : Program} {w : World} {K : PySem.W.Frag} {mg : Str → Option Value} {base : Heap} {f : Addr} {fd : FuncData}
theorem ok__law_place (F : FnP K "_law_place" "_law_place" s__law_place f fd) (T : Txt K mg) : FnOk P w K mg base (L2.CX P w) 1 f fd ["_law_deck_here", "_law_piles_here"] (sp__law_place K) := by
  refine F.ok sc__law_place (fun vs H Q E h => ?_) (fun cdv A outer s H vs Q E hr h => ?_)
  · obtain ⟨l, ds, e, v, pl, rfl, _⟩ := h; rfl
  · refine ⟨_, (pss_cons (ps_set (i := 2) sc__law_place.nd rfl (Or.inl rfl) (pe_bm0 PySem.F.plainAttrs_list PySem.F.slot_list_pop PySem.F.type_list_pop mt_pop (pv 0))) (pss_cons (ps_asg (pe_ix (ix_K (K := K) rfl) (pv 1) (pe_op op_modN (pe_op op_fdivG (pv 2) pe_int) (pe_callB call_lenU (by rfl) T.n_len (by decide +kernel) (pa_cons (pv 1) pa_nil))) (fun _ _ => rfl)) (pg_tup rfl (pgs_cons (pg_name (i := 3) sc__law_place.nd rfl (Or.inl rfl)) (pgs_cons (pg_name (i := 4) sc__law_place.nd rfl (Or.inl rfl)) pgs_nil)))) (pss_cons (ps_set (i := 5) sc__law_place.nd rfl (Or.inl rfl) (pe_op op_sub (pe_op op_modN (pe_op op_fdivG (pv 2) pe_int) (pe_op (op_addK (K := K) rfl) (pv 4) pe_int)) pe_int)) (pss_cons (ps_set (i := 6) sc__law_place.nd rfl (Or.inl rfl) (pe_ix (ix_K (K := K) rfl) (pe_lc (own := [("_law_other", 8)]) (g := gName 8) (by rfl) sc__law_place.nd (pi_seqU (pv 1)) (blkOk_by (own := [("_law_other", 8)]) (N := ["_law_deck_here", "_law_piles_here", "_law_cell", "_law_name", "_law_count", "_law_number_here", "_law_strange", "_law_some", "_law_other"]) (sc := defScope s__law_place) (by decide +kernel)) (fun _ _ _ _ _ => pg_name (i := 8) sc__law_place.nd rfl (Or.inl rfl)) (fun _ _ _ _ _ => pts_nil) (fun _ _ _ _ _ => (pe_op (op_addK (K := K) rfl) (pe_ix (ix_K (K := K) rfl) (pv 8) pe_int (fun _ _ => rfl)) pe_str))) pe_int (fun _ _ => rfl))) (pss_cons (ps_set (i := 7) sc__law_place.nd rfl (Or.inl rfl) (pe_lst (pa_cons (pe_tup (pa_cons (pv 3) (pa_cons (pv 5) pa_nil))) (pa_cons (pe_tup (pa_cons (pv 3) (pa_cons (pv 5) pa_nil))) (pa_cons (pe_tup (pa_cons (pv 3) (pa_cons (pv 5) pa_nil))) (pa_cons (pe_tup (pa_cons (pv 3) (pa_cons (pv 5) pa_nil))) (pa_cons (pe_tup (pa_cons (pv 6) (pa_cons pe_int pa_nil))) (pa_cons (pe_tup (pa_cons (pv 3) pa_nil)) (pa_cons (pv 3) (pa_cons (pv 5) pa_nil)))))))))) (pss_cons (ps_set (i := 7) sc__law_place.nd rfl (Or.inl rfl) (pe_op (op_addK (K := K) rfl) (pv 7) (pe_lst (pa_cons (pe_tup (pa_cons (pv 3) (pa_cons pe_bl pa_nil))) (pa_cons (pe_lst (pa_cons (pv 3) (pa_cons (pv 5) pa_nil))) (pa_cons (pe_tup (pa_cons (pv 5) (pa_cons (pv 3) pa_nil))) (pa_cons (pe_tup (pa_cons (pv 3) (pa_cons (pv 5) (pa_cons pe_int pa_nil)))) (pa_cons (pe_tup (pa_cons (pe_lst (pa_cons (pv 3) pa_nil)) (pa_cons (pv 5) pa_nil))) pa_nil)))))))) (pss_cons (ps_set (i := 7) sc__law_place.nd rfl (Or.inl rfl) (pe_op (op_addK (K := K) rfl) (pv 7) (pe_lst (pa_cons (pe_tup (pa_cons (pe_disp (pps_cons (pv 3) (pv 5) pps_nil) rfl rfl (by simp) (by decide)) (pa_cons (pv 5) pa_nil))) (pa_cons (pe_tup (pa_cons pe_non (pa_cons (pv 5) pa_nil))) (pa_cons (pe_tup (pa_cons (pv 3) (pa_cons (pe_lst (pa_cons (pv 5) pa_nil)) pa_nil))) (pa_cons (pe_tup (pa_cons (pv 3) (pa_cons pe_non pa_nil))) (pa_cons (pe_tup (pa_cons (pe_tup (pa_cons (pv 3) (pa_cons (pv 5) pa_nil))) (pa_cons (pv 5) pa_nil))) pa_nil)))))))) (pss_one (ps_ret (pe_ix (ix_K (K := K) rfl) (pv 7) (pe_op op_modN (pe_op op_fdivG (pv 2) pe_int) pe_int) (fun _ _ => rfl))))))))))), ?_⟩
    obtain ⟨l, ds, e, v, pl, rfl, hl, hd, dv, g, kk⟩ := h
    obtain ⟨hd, e0, e1⟩ := hd.last
    walk_at "go"
    rw [List.map_append] at hl
    refine k_pop hl (fun H1 b1x hl1 => ?_)
    have dv1 := dp_but b1x hl (Pl.noL_d pl) dv
    obtain ⟨p, xs, rfl, hp, da⟩ := Dt.tup dv1
    have hx : xs.length = pl.length := by rw [Dt.len da, List.length_map]
    have hpos : 0 < pl.length := by
      cases pl with
      | nil => have := g.t1; simp [Pl.tot] at this
      | cons a r => simp
    walk_at "go"
    refine k_lenT ?_ hp
    walk_at "go"
    obtain ⟨j, ej⟩ := Int.eq_ofNat_of_zero_le (show 0 ≤ e / 12 % (xs.length : Int) from Int.emod_nonneg _ (by omega))
    have hj : j < xs.length := by
      have := Int.emod_lt_of_pos (e / 12) (show (0 : Int) < (xs.length : Int) by omega)
      omega
    rw [ej]
    obtain ⟨r, u, er, hr, hu⟩ := Pl.at_pd da (show xs[j]? = some (xs[j]'hj) by simp)
    refine k_ixT hp (atI_nat (show xs[j]? = some (.ref u) by rw [← hr]; simp)) ?_
    refine k_gtup hu rfl ?_
    walk_at "go"
    have r0 := g.pos r (List.mem_of_getElem? er)
    have rn := g.nm r (List.mem_of_getElem? er)
    walk_at "go"
    generalize e / 108 % (r.2 + 4) - 1 = n
    refine k_lcU (.inr hp) (fun D i ys H' => (∃ ns : List Str, ys = ns.map V.str ∧ ns.length = i ∧ ∀ s ∈ ns, PyData.strOk s = true) ∧ Same H1 H') (fun D H' nD sD hD => ⟨⟨[], rfl, rfl, fun _ h => (nomatch h)⟩, sD⟩) (fun D i ys H' nD h => h.2) ?_ ?_
    · rintro D i x ys H' nD hx2 ⟨⟨ns, rfl, hns, hok⟩, s⟩ hD
      obtain ⟨q, w, e, rfl, hs⟩ := Pl.at_pd da hx2
      have hi := (List.getElem?_eq_some_iff.mp hx2).1
      have g9 := g.len
      refine k_lcB rfl ?_
      walk_at "go"
      refine k_ixT (seqT_same s hs) (v := .str q.1) rfl ?_
      walk_at "go"
      have qn := g.nm q (List.mem_of_getElem? e)
      refine k_addS ?_ (by rw [sizeLine_eq]; have := qn.2.1; show q.1.cps.size + 1 ≤ _; omega)
      refine ⟨_, hD, (by rw [sizeLine_eq]; simp; omega), _, ⟨⟨ns ++ [q.1 ++ Str.ofString "q"], by simp, by simp [hns], ?_⟩, But.same nD s But.upd⟩, upd_same⟩
      intro z hz
      rcases List.mem_append.mp hz with h | h
      · exact hok z h
      · rw [List.mem_singleton.mp h]
        exact Pl.ok_app qn.ok (by decide +kernel)
    rintro D ys H2 nD ⟨⟨ns, rfl, hns, hok⟩, sx⟩ hD
    obtain ⟨st, ns, rfl⟩ : ∃ st r, ns = st :: r := by
      cases ns with
      | nil => simp at hns; omega
      | cons a r => exact ⟨a, r, rfl⟩
    have okq := hok st (List.mem_cons_self ..)
    have ok := rn.ok
    walk_at "go"
    refine k_ixL (SqL.of hD) (v := .str st) (atI_nat (j := 0) rfl) ?_
    replace hl1 := sx _ _ hl1
    replace b1x := b1x.trans (But.of sx)
    walk_at "go"
    refine k_tupx (fun p1 G1 q1 s1 h1 => ?_) (by simp [sizeLine_eq])
    walk_at "go"
    refine k_tupx (fun p2 G2 q2 s2 h2 => ?_) (by simp [sizeLine_eq])
    walk_at "go"
    refine k_tupx (fun p3 G3 q3 s3 h3 => ?_) (by simp [sizeLine_eq])
    walk_at "go"
    refine k_tupx (fun p4 G4 q4 s4 h4 => ?_) (by simp [sizeLine_eq])
    walk_at "go"
    refine k_tupx (fun p5 G5 q5 s5 h5 => ?_) (by simp [sizeLine_eq])
    walk_at "go"
    refine k_tupx (fun p6 G6 q6 s6 h6 => ?_) (by simp [sizeLine_eq])
    walk_at "go"
    refine k_lstx (fun p7 G7 q7 s7 h7 => ?_) (by simp [sizeLine_eq])
    walk_at "go"
    refine k_tupx (fun p8 G8 q8 s8 h8 => ?_) (by simp [sizeLine_eq])
    walk_at "go"
    refine k_lstx (fun p9 G9 q9 s9 h9 => ?_) (by simp [sizeLine_eq])
    walk_at "go"
    refine k_tupx (fun p10 G10 q10 s10 h10 => ?_) (by simp [sizeLine_eq])
    walk_at "go"
    refine k_tupx (fun p11 G11 q11 s11 h11 => ?_) (by simp [sizeLine_eq])
    walk_at "go"
    refine k_lstx (fun p12 G12 q12 s12 h12 => ?_) (by simp [sizeLine_eq])
    walk_at "go"
    refine k_tupx (fun p13 G13 q13 s13 h13 => ?_) (by simp [sizeLine_eq])
    walk_at "go"
    refine k_lstx (fun p14 G14 q14 s14 h14 => ?_) (by simp [sizeLine_eq])
    walk_at "go"
    refine k_addL (show G14 p7 = _ by walk_at "up") h14 (fun p15 G15 q15 s15 h15 => ?_) (by simp [sizeLine_eq])
    walk_at "go"
    walk_at "go"
    refine k_disp1 (fun p16 G16 q16 s16 h16 => ?_)
    walk_at "go"
    refine k_disp1x h16 (fun G17 b17 h17 => ?_)
    have s17 : Same G15 G17 := But.same q16 s16 b17
    walk_at "go"
    refine k_tupx (fun p18 G18 q18 s18 h18 => ?_) (by simp [sizeLine_eq])
    walk_at "go"
    refine k_tupx (fun p19 G19 q19 s19 h19 => ?_) (by simp [sizeLine_eq])
    walk_at "go"
    refine k_lstx (fun p20 G20 q20 s20 h20 => ?_) (by simp [sizeLine_eq])
    walk_at "go"
    refine k_tupx (fun p21 G21 q21 s21 h21 => ?_) (by simp [sizeLine_eq])
    walk_at "go"
    refine k_tupx (fun p22 G22 q22 s22 h22 => ?_) (by simp [sizeLine_eq])
    walk_at "go"
    refine k_tupx (fun p23 G23 q23 s23 h23 => ?_) (by simp [sizeLine_eq])
    walk_at "go"
    refine k_tupx (fun p24 G24 q24 s24 h24 => ?_) (by simp [sizeLine_eq])
    walk_at "go"
    refine k_lstx (fun p25 G25 q25 s25 h25 => ?_) (by simp [sizeLine_eq])
    walk_at "go"
    refine k_addL (show G25 p15 = _ by walk_at "up") h25 (fun p26 G26 q26 s26 h26 => ?_) (by simp [sizeLine_eq])
    walk_at "go"
    have t26 : Same G26 G26 := Same.refl _
    have t25 : Same G25 G26 := s26.trans t26
    have t24 : Same G24 G26 := s25.trans t25
    have t23 : Same G23 G26 := s24.trans t24
    have t22 : Same G22 G26 := s23.trans t23
    have t21 : Same G21 G26 := s22.trans t22
    have t20 : Same G20 G26 := s21.trans t21
    have t19 : Same G19 G26 := s20.trans t20
    have t18 : Same G18 G26 := s19.trans t19
    have t17 : Same G17 G26 := s18.trans t18
    have t15 : Same G15 G26 := s17.trans t17
    have t14 : Same G14 G26 := s15.trans t15
    have t13 : Same G13 G26 := s14.trans t14
    have t12 : Same G12 G26 := s13.trans t13
    have t11 : Same G11 G26 := s12.trans t12
    have t10 : Same G10 G26 := s11.trans t11
    have t9 : Same G9 G26 := s10.trans t10
    have t8 : Same G8 G26 := s9.trans t9
    have t7 : Same G7 G26 := s8.trans t8
    have t6 : Same G6 G26 := s7.trans t7
    have t5 : Same G5 G26 := s6.trans t6
    have t4 : Same G4 G26 := s5.trans t5
    have t3 : Same G3 G26 := s4.trans t4
    have t2 : Same G2 G26 := s3.trans t3
    have t1 : Same G1 G26 := s2.trans t2
    obtain ⟨x, hx, hat⟩ := at_all2 (P := Pl.Pq K G26) (i := e / 7 % 18) h26 (all_cons (P := Pl.Pq K G26) (Pl.Pq.yes (SqT.of (t1 _ _ h1)) ok) (all_cons (P := Pl.Pq K G26) (Pl.Pq.yes (SqT.of (t2 _ _ h2)) ok) (all_cons (P := Pl.Pq K G26) (Pl.Pq.yes (SqT.of (t3 _ _ h3)) ok) (all_cons (P := Pl.Pq K G26) (Pl.Pq.yes (SqT.of (t4 _ _ h4)) ok) (all_cons (P := Pl.Pq K G26) (Pl.Pq.yes (SqT.of (t5 _ _ h5)) okq) (all_cons (P := Pl.Pq K G26) (Pl.Pq.no (.len (SqT.of (t6 _ _ h6)) (by simp))) (all_cons (P := Pl.Pq K G26) (Pl.Pq.no (.kind (.base (.str _)) (kit_ty (by decide +kernel)))) (all_cons (P := Pl.Pq K G26) (Pl.Pq.no (.kind (.base (.int _)) (kit_ty (by decide +kernel)))) (all_cons (P := Pl.Pq K G26) (Pl.Pq.no (.num (SqT.of (t8 _ _ h8)) (Whole.bl _))) (all_cons (P := Pl.Pq K G26) (Pl.Pq.no (.kind (ty_lst (SqL.of (t9 _ _ h9))) (kit_ty (by decide +kernel)))) (all_cons (P := Pl.Pq K G26) (Pl.Pq.no (.key (SqT.of (t10 _ _ h10)) (.base (.int _)) (kit_ty (by decide +kernel)))) (all_cons (P := Pl.Pq K G26) (Pl.Pq.no (.len (SqT.of (t11 _ _ h11)) (by simp))) (all_cons (P := Pl.Pq K G26) (Pl.Pq.no (.key (SqT.of (t13 _ _ h13)) (ty_lst (SqL.of (t12 _ _ h12))) (kit_ty (by decide +kernel)))) (all_cons (P := Pl.Pq K G26) (Pl.Pq.no (.key (SqT.of (t18 _ _ h18)) (.base (.dK (t17 _ _ h17))) (kit_ty (by decide +kernel)))) (all_cons (P := Pl.Pq K G26) (Pl.Pq.no (.key (SqT.of (t19 _ _ h19)) (.base .non) (kit_ty (by decide +kernel)))) (all_cons (P := Pl.Pq K G26) (Pl.Pq.no (.num (SqT.of (t21 _ _ h21)) (Whole.lst (SqL.of (t20 _ _ h20))))) (all_cons (P := Pl.Pq K G26) (Pl.Pq.no (.num (SqT.of (t22 _ _ h22)) Whole.non)) (all_cons (P := Pl.Pq K G26) (Pl.Pq.no (.key (SqT.of (t24 _ _ h24)) (ty_tup (SqT.of (t23 _ _ h23))) (kit_ty (by decide +kernel)))) (fun x (h : x ∈ ([] : List V)) => (nomatch h)))))))))))))))))))) (by omega) (by show e / 7 % 18 < 18; omega)
    refine k_ixL (SqL.of h26) hat ?_
    exact kk x G26 (b1x.trans (But.of (s1.trans t1))) ((s1.trans t1) _ _ hl1) hx
end
end Lw
namespace Lw
open PySem PySem.Spec PyProof.Rows L2 Gx
section
variable {P : Program} {w : World} {K : PySem.W.Frag} {mg : Str → Option Value} {base : Heap} {f : Addr} {fd : FuncData}
theorem ok__law_refused (F : FnP K "_law_refused" "_law_refused" s__law_refused f fd) (T : Txt K mg) (c_place_of : Cl P w K mg base 2 "place_of" ["piles", "number"] (sp_place_of K)) (c_number_of : Cl P w K mg base 2 "number_of" ["piles", "place"] (sp_number_of K)) : FnOk P w K mg base (L2.CX P w) 3 f fd ["_law_way", "_law_piles_here", "_law_thing"] (sp__law_refused K) := by
  refine F.ok sc__law_refused (fun vs H Q E h => ?_) (fun cdv A outer s H vs Q E hr h => ?_)
  · obtain ⟨w, v, x, pl, bad, rfl, _⟩ := h; rfl
  · refine ⟨_, (pss_cons (ps_set (i := 3) sc__law_refused.nd rfl (Or.inl rfl) pe_bl) (pss_cons (ps_set (i := 4) sc__law_refused.nd rfl (Or.inl rfl) pe_bl) (pss_cons (ps_try_as (i := 5) rfl rfl sc__law_refused.nd rfl rfl ⟨rfl, by decide, Or.inl T.g_SureError⟩ (takes_of rfl rfl rfl rfl) (fun W pn xe tk po => (pss_one (ps_if (pt_cmpR (op_eqK (K := K) rfl hr) (pv 0) pe_int (nomark _)) (pss_one (ps_expr (pcall c_place_of hr (by first | decide | omega) tk (pa_cons (pv 1) (pa_cons (pv 2) pa_nil))))) (pss_one (ps_expr (pcall c_number_of hr (by first | decide | omega) tk (pa_cons (pv 1) (pa_cons (pv 2) pa_nil)))))))) (fun a oe cls d pn hz hf => (pss_cons (ps_set (i := 6) sc__law_refused.nd rfl (Or.inl rfl) (pe_lst (pa_cons (pe_callB (call_isEU hz hf) (by rfl) T.n_isinstance (by decide +kernel) (pa_cons (pv 5) (pa_cons (C8.pe_gc (v := .ref (He.ga K "Ended")) (by rfl) T.c_Ended) pa_nil))) (pa_cons (pe_callB (call_isEU hz hf) (by rfl) T.n_isinstance (by decide +kernel) (pa_cons (pv 5) (pa_cons (C8.pe_gc (v := .ref (He.ga K "NoBallot")) (by rfl) T.c_NoBallot) pa_nil))) (pa_cons (pe_callB (call_isEU hz hf) (by rfl) T.n_isinstance (by decide +kernel) (pa_cons (pv 5) (pa_cons (C8.pe_gc (v := .ref (He.ga K "NoName")) (by rfl) T.c_NoName) pa_nil))) (pa_cons (pe_callB (call_isEU hz hf) (by rfl) T.n_isinstance (by decide +kernel) (pa_cons (pv 5) (pa_cons (C8.pe_gc (v := .ref (He.ga K "NoRow")) (by rfl) T.c_NoRow) pa_nil))) pa_nil)))))) (pss_cons (ps_set (i := 6) sc__law_refused.nd rfl (Or.inl rfl) (pe_op (op_addK (K := K) rfl) (pv 6) (pe_lst (pa_cons (pe_callB (call_isEU hz hf) (by rfl) T.n_isinstance (by decide +kernel) (pa_cons (pv 5) (pa_cons (C8.pe_gc (v := .ref (He.ga K "NoText")) (by rfl) T.c_NoText) pa_nil))) (pa_cons (pe_callB (call_isEU hz hf) (by rfl) T.n_isinstance (by decide +kernel) (pa_cons (pv 5) (pa_cons (C8.pe_gc (v := .ref (He.ga K "TooMany")) (by rfl) T.c_TooMany) pa_nil))) (pa_cons (pe_not (pe_callB (call_isEU hz hf) (by rfl) T.n_isinstance (by decide +kernel) (pa_cons (pv 5) (pa_cons (pe_bltn (v := .ty "ValueError") (by rfl) T.n_ValueError (by decide +kernel) rfl) pa_nil)))) pa_nil)))))) (pss_cons (ps_set (i := 3) sc__law_refused.nd rfl (Or.inl rfl) pe_bl) (pss_one (ps_set (i := 4) sc__law_refused.nd rfl (Or.inl rfl) (pe_and (pe_callB (call_isEU hz hf) (by rfl) T.n_isinstance (by decide +kernel) (pa_cons (pv 5) (pa_cons (C8.pe_gc (v := .ref (He.ga K "NoNumber")) (by rfl) T.c_NoNumber) pa_nil))) (pe_one (pe_cmpR (op_niK (K := K) rfl) pe_bl (pv 6) (by with_unfolding_all rfl))))))))))) (pss_one (ps_ret (pe_tup (pa_cons (pv 3) (pa_cons (pv 4) pa_nil)))))))), ?_⟩
    obtain ⟨w, v, x, pl, bad, rfl, dv, g, hw, kk⟩ := h
    have g1000 : pl.length ≤ 1000 := by have := g.len; omega
    walk_at "go"
    rcases hw with ⟨rfl, b, hb, hb0, hb1⟩ | ⟨w0, o, ho, hbad⟩
    · walk_at "go"
      refine k_if (fun _ => ?_) (fun c => absurd rfl c)
      walk_at "go"
      refine ⟨v, x, pl, b, rfl, dv, g.pos, g1000, hb, fun eb H1 s1 => ?_, fun eb => ?_⟩
      · have ebad := hb0 eb
        refine ⟨true, T.m_NoNumber_SureError, fun _ a na => ?_, fun z => nomatch z⟩
        walk_at "go"
        refine k_isE T.e_NoNumber T.i_NoNumber_Ended (fun _ h => h) ?_
        walk_at "go"
        refine k_isE T.e_NoNumber T.i_NoNumber_NoBallot (fun _ h => h) ?_
        walk_at "go"
        refine k_isE T.e_NoNumber T.i_NoNumber_NoName (fun _ h => h) ?_
        walk_at "go"
        refine k_isE T.e_NoNumber T.i_NoNumber_NoRow (fun _ h => h) ?_
        walk_at "go"
        refine k_lstx (fun l1 H2 n1 s2 h1 => ?_) (by simp [sizeLine_eq])
        walk_at "go"
        refine k_isE T.e_NoNumber T.i_NoNumber_NoText (fun _ h => h) ?_
        walk_at "go"
        refine k_isE T.e_NoNumber T.i_NoNumber_TooMany (fun _ h => h) ?_
        walk_at "go"
        refine k_isE T.e_NoNumber T.i_NoNumber_ValueError (fun _ h => h) ?_
        walk_at "go"
        refine k_lstx (fun l2 H3 n2 s3 h2 => ?_) (by simp [sizeLine_eq])
        walk_at "go"
        refine k_addL (s3 _ _ h1) h2 (fun l3 H4 n3 s4 h3 => ?_) (by simp [sizeLine_eq])
        walk_at "go"
        refine k_isE T.e_NoNumber T.i_NoNumber_NoNumber (fun _ h => h) ?_
        walk_at "go"
        refine k_ni0 (b := false) (.inl (SqL.of h3)) rfl rfl rfl ?_
        walk_at "go"
        refine k_tupx (fun p5 H5 n5 s5 h5 => ?_) (by simp [sizeLine_eq])
        exact kk p5 H5 ((((s1.trans s2).trans s3).trans s4).trans s5) (by rw [ebad]; exact h5)
      · obtain ⟨n, rfl, hn⟩ := hb1 eb
        refine ⟨n, rfl, fun c H1 s1 => ?_, fun c0 c1 s k v' H1 e s1 dv' => ?_⟩
        · have ebad : bad = true := by rw [hn, decide_eq_false c]; rfl
          refine ⟨true, T.m_NoNumber_SureError, fun _ a na => ?_, fun z => nomatch z⟩
          walk_at "go"
          refine k_isE T.e_NoNumber T.i_NoNumber_Ended (fun _ h => h) ?_
          walk_at "go"
          refine k_isE T.e_NoNumber T.i_NoNumber_NoBallot (fun _ h => h) ?_
          walk_at "go"
          refine k_isE T.e_NoNumber T.i_NoNumber_NoName (fun _ h => h) ?_
          walk_at "go"
          refine k_isE T.e_NoNumber T.i_NoNumber_NoRow (fun _ h => h) ?_
          walk_at "go"
          refine k_lstx (fun l1 H2 n1 s2 h1 => ?_) (by simp [sizeLine_eq])
          walk_at "go"
          refine k_isE T.e_NoNumber T.i_NoNumber_NoText (fun _ h => h) ?_
          walk_at "go"
          refine k_isE T.e_NoNumber T.i_NoNumber_TooMany (fun _ h => h) ?_
          walk_at "go"
          refine k_isE T.e_NoNumber T.i_NoNumber_ValueError (fun _ h => h) ?_
          walk_at "go"
          refine k_lstx (fun l2 H3 n2 s3 h2 => ?_) (by simp [sizeLine_eq])
          walk_at "go"
          refine k_addL (s3 _ _ h1) h2 (fun l3 H4 n3 s4 h3 => ?_) (by simp [sizeLine_eq])
          walk_at "go"
          refine k_isE T.e_NoNumber T.i_NoNumber_NoNumber (fun _ h => h) ?_
          walk_at "go"
          refine k_ni0 (b := false) (.inl (SqL.of h3)) rfl rfl rfl ?_
          walk_at "go"
          refine k_tupx (fun p5 H5 n5 s5 h5 => ?_) (by simp [sizeLine_eq])
          exact kk p5 H5 ((((s1.trans s2).trans s3).trans s4).trans s5) (by rw [ebad]; exact h5)
        · have ebad : bad = false := by rw [hn, decide_eq_true ⟨c0, c1⟩]; rfl
          walk_at "go"
          refine k_tupx (fun p5 H5 n5 s5 h5 => ?_) (by simp [sizeLine_eq])
          exact kk p5 H5 (s1.trans s5) (by rw [ebad]; exact h5)
    · refine k_if (fun c => absurd c w0) (fun _ => ?_)
      walk_at "go"
      refine ⟨v, x, pl, o, rfl, dv, g1000, ho, fun e H1 s1 => ?_, fun i e H1 s1 => ?_⟩
      · have ebad : bad = true := by rw [hbad, e]; rfl
        refine ⟨true, T.m_NoNumber_SureError, fun _ a na => ?_, fun z => nomatch z⟩
        walk_at "go"
        refine k_isE T.e_NoNumber T.i_NoNumber_Ended (fun _ h => h) ?_
        walk_at "go"
        refine k_isE T.e_NoNumber T.i_NoNumber_NoBallot (fun _ h => h) ?_
        walk_at "go"
        refine k_isE T.e_NoNumber T.i_NoNumber_NoName (fun _ h => h) ?_
        walk_at "go"
        refine k_isE T.e_NoNumber T.i_NoNumber_NoRow (fun _ h => h) ?_
        walk_at "go"
        refine k_lstx (fun l1 H2 n1 s2 h1 => ?_) (by simp [sizeLine_eq])
        walk_at "go"
        refine k_isE T.e_NoNumber T.i_NoNumber_NoText (fun _ h => h) ?_
        walk_at "go"
        refine k_isE T.e_NoNumber T.i_NoNumber_TooMany (fun _ h => h) ?_
        walk_at "go"
        refine k_isE T.e_NoNumber T.i_NoNumber_ValueError (fun _ h => h) ?_
        walk_at "go"
        refine k_lstx (fun l2 H3 n2 s3 h2 => ?_) (by simp [sizeLine_eq])
        walk_at "go"
        refine k_addL (s3 _ _ h1) h2 (fun l3 H4 n3 s4 h3 => ?_) (by simp [sizeLine_eq])
        walk_at "go"
        refine k_isE T.e_NoNumber T.i_NoNumber_NoNumber (fun _ h => h) ?_
        walk_at "go"
        refine k_ni0 (b := false) (.inl (SqL.of h3)) rfl rfl rfl ?_
        walk_at "go"
        refine k_tupx (fun p5 H5 n5 s5 h5 => ?_) (by simp [sizeLine_eq])
        exact kk p5 H5 ((((s1.trans s2).trans s3).trans s4).trans s5) (by rw [ebad]; exact h5)
      · have ebad : bad = false := by rw [hbad, e]; rfl
        walk_at "go"
        refine k_tupx (fun p5 H5 n5 s5 h5 => ?_) (by simp [sizeLine_eq])
        exact kk p5 H5 (s1.trans s5) (by rw [ebad]; exact h5)
end
end Lw
namespace Lw
open PySem PySem.Spec PyProof.Rows L2 Gx
section
variable {P : Program} {w : World} {K : PySem.W.Frag} {mg : Str → Option Value} {base : Heap} {f : Addr} {fd : FuncData}
theorem ok__law_is_place (F : FnP K "_law_is_place" "_law_is_place" s__law_is_place f fd) (T : Txt K mg) (c__law_places : Cl P w K mg base 1 "_law_places" ["_law_piles_here"] (sp__law_places K)) (c__law_whole : Cl P w K mg base 1 "_law_whole" ["_law_found"] (sp__law_whole K)) : FnOk P w K mg base (L2.CX P w) 2 f fd ["_law_piles_here", "_law_thing"] (sp__law_is_place K) := by
  refine F.ok sc__law_is_place (fun vs H Q E h => ?_) (fun cdv A outer s H vs Q E hr h => ?_)
  · obtain ⟨v, x, pl, o, rfl, _⟩ := h; rfl
  · refine ⟨_, (pss_cons (ps_if (PW.pt (pw_or (pt_not (pt_val (pe_callB call_isi (by rfl) T.n_isinstance (by decide +kernel) (pa_cons (pv 1) (pa_cons (pe_bltn (v := .ty "tuple") (by rfl) T.n_tuple (by decide +kernel) rfl) pa_nil))))) (pw_or (pt_cmpR (op_neK (K := K) rfl hr) (pe_callB call_lenU (by rfl) T.n_len (by decide +kernel) (pa_cons (pv 1) pa_nil)) pe_int (nomark _)) (pw_or (pt_not (pt_val (pe_callB call_isi (by rfl) T.n_isinstance (by decide +kernel) (pa_cons (pe_ix (ix_K (K := K) rfl) (pv 1) pe_int (fun _ _ => rfl)) (pa_cons (pe_bltn (v := .ty "str") (by rfl) T.n_str (by decide +kernel) rfl) pa_nil))))) (pw_or1 (pt_not (pt_val (pcall c__law_whole hr (by first | decide | omega) (takes_of rfl rfl rfl rfl) (pa_cons (pe_ix (ix_K (K := K) rfl) (pv 1) pe_int (fun _ _ => rfl)) pa_nil))))))))) (pss_one (ps_ret pe_bl)) pss_nil) (pss_one (ps_ret (pe_cmpR (op_inUK (K := K) rfl hr) (pv 1) (pcall c__law_places hr (by first | decide | omega) (takes_of rfl rfl rfl rfl) (pa_cons (pv 0) pa_nil)) (by with_unfolding_all rfl))))), ?_⟩
    obtain ⟨v, x, pl, o, rfl, dv, g, hpl, hok, kk⟩ := h
    walk_at "go"
    cases hpl with
    | kind ht hk =>
      refine k_isi (.ty "tuple") ht hk ?_
      walk_at "go"
      exact kk H (Same.refl H)
    | len h hl =>
      refine k_isi (.ty "tuple") (ty_tup h) (kit_ty (r := true) (by decide +kernel)) ?_
      walk_at "go"
      refine k_lenT ?_ h
      walk_at "go"
      refine k_ifn (fun c => ?_) (fun c => absurd (by omega) hl)
      walk_at "go"
      exact kk H (Same.refl H)
    | @key q u v t h ht hk =>
      refine k_isi (.ty "tuple") (ty_tup h) (kit_ty (r := true) (by decide +kernel)) ?_
      walk_at "go"
      refine k_lenT ?_ h
      walk_at "go"
      refine k_ifn (fun c => absurd rfl c) (fun c => ?_)
      walk_at "go"
      refine k_ixT h (v := u) rfl ?_
      walk_at "go"
      refine k_isi (.ty "str") ht hk ?_
      walk_at "go"
      exact kk H (Same.refl H)
    | @num q s v h hv =>
      refine k_isi (.ty "tuple") (ty_tup h) (kit_ty (r := true) (by decide +kernel)) ?_
      walk_at "go"
      refine k_lenT ?_ h
      walk_at "go"
      refine k_ifn (fun c => absurd rfl c) (fun c => ?_)
      walk_at "go"
      refine k_ixT h (v := .str s) rfl ?_
      walk_at "go"
      refine k_isi (.ty "str") (.base (.str s)) (kit_ty (r := true) (by decide +kernel)) ?_
      walk_at "go"
      refine k_ixT h (v := v) rfl ?_
      walk_at "go"
      refine whole_w hv ?_
      walk_at "go"
      exact kk H (Same.refl H)
    | @yes q s k h =>
      refine k_isi (.ty "tuple") (ty_tup h) (kit_ty (r := true) (by decide +kernel)) ?_
      walk_at "go"
      refine k_lenT ?_ h
      walk_at "go"
      refine k_ifn (fun c => absurd rfl c) (fun c => ?_)
      walk_at "go"
      refine k_ixT h (v := .str s) rfl ?_
      walk_at "go"
      refine k_isi (.ty "str") (.base (.str s)) (kit_ty (r := true) (by decide +kernel)) ?_
      walk_at "go"
      refine k_ixT h (v := .int k) rfl ?_
      walk_at "go"
      refine whole_int ?_
      walk_at "go"
      refine ⟨v, pl, rfl, dv, g, fun q H1 s1 dq => ?_⟩
      walk_at "go"
      have hs := hok (s, k) rfl
      refine k_inD (Pl.dp_pd (p := (s, k)) (seqT_same s1 h)) dq (Dt.Sh.ok (k := 1) (Pl.sh_pd0 (p := (s, k)) hs)) (Dt.Sh.ok (k := 2) (Dt.sh_lst fun x hx => ?_)) ?_
      · obtain ⟨z, hz, rfl⟩ := List.mem_map.mp hx
        exact Pl.sh_pd (Pl.sh_places g.nm z hz)
      · have e : ((Pl.places pl).map Pl.pd).any (fun z => PyData.eqv z (Pl.pd (s, k))) = !((some (s, k)).bind fun z => Pl.numb pl z.1 z.2 0).isNone := by
          show _ = !(Pl.numb pl s k 0).isNone
          rw [List.any_map]
          by_cases c : (s, k) ∈ Pl.places pl
          · have h1 : Pl.numb pl s k 0 ≠ none := fun e => Pl.numb_none.mp e c
            rw [List.any_eq_true.mpr ⟨(s, k), c, by show PyData.eqv _ _ = true; rw [Pl.eqv_pd]; simp⟩]
            cases e : Pl.numb pl s k 0 with
            | none => exact absurd e h1
            | some x => rfl
          · rw [Pl.numb_none.mpr c]
            rw [show (!(none : Option Int).isNone) = false from rfl, List.any_eq_false]
            intro x hx
            show ¬ (PyData.eqv _ _ = true)
            rw [Pl.eqv_pd]
            intro e
            exact c (of_decide_eq_true e ▸ hx)
        rw [e]
        exact kk H1 s1
end
end Lw
namespace Lw
open PySem PySem.Spec PyProof.Rows L2 Gx
section
variable {P : Program} {w : World} {K : PySem.W.Frag} {mg : Str → Option Value} {base : Heap} {f : Addr} {fd : FuncData}
theorem ok_law (F : FnP K "law" "law" s_law f fd) (T : Txt K mg) (c__law_refused : Cl P w K mg base 3 "_law_refused" ["_law_way", "_law_piles_here", "_law_thing"] (sp__law_refused K)) (c__law_is_place : Cl P w K mg base 2 "_law_is_place" ["_law_piles_here", "_law_thing"] (sp__law_is_place K)) (c__law_place : Cl P w K mg base 1 "_law_place" ["_law_deck_here", "_law_piles_here"] (sp__law_place K)) (c__law_whole : Cl P w K mg base 1 "_law_whole" ["_law_found"] (sp__law_whole K)) (c__law_number : Cl P w K mg base 1 "_law_number" ["_law_deck_here", "_law_many"] (sp__law_number K)) (c__law_places : Cl P w K mg base 1 "_law_places" ["_law_piles_here"] (sp__law_places K)) (c__law_piles : Cl P w K mg base 2 "_law_piles" ["_law_deck_here"] (sp__law_piles K)) (c__law_deck : Cl P w K mg base 2 "_law_deck" ["_law_script", "_law_most"] (sp__law_deck K)) : FnOk P w K mg base CX0 4 f fd ["_law_script"] (sp_law K) := by
  refine F.ok sc_law (fun vs H Q E h => ?_) (fun cdv A outer s H vs Q E hr h => ?_)
  · obtain ⟨a, ns, rfl, _⟩ := h; rfl
  · refine ⟨_, PSs.nox (pss_cons (ps_set (i := 1) sc_law.nd rfl (Or.inl rfl) (pcallN c__law_deck hr (by first | decide | omega) (pa_cons (pv 0) (pa_cons pe_int pa_nil)))) (pss_cons (ps_set (i := 2) sc_law.nd rfl (Or.inl rfl) (pcallN c__law_piles hr (by first | decide | omega) (pa_cons (pv 1) pa_nil))) (pss_cons (ps_set (i := 3) sc_law.nd rfl (Or.inl rfl) (pe_callB call_lenU (by rfl) T.n_len (by decide +kernel) (pa_cons (pcallN c__law_places hr (by first | decide | omega) (pa_cons (pv 2) pa_nil)) pa_nil))) (pss_cons (ps_for PassesOwn.never rfl (pi_range1 rfl T.n_range (pa_cons pe_int pa_nil)) (pg_name (i := 4) sc_law.nd rfl (Or.inl rfl)) (pss_cons (ps_set (i := 5) sc_law.nd rfl (Or.inl rfl) (pcallN c__law_number hr (by first | decide | omega) (pa_cons (pv 1) (pa_cons (pv 3) pa_nil)))) (pss_cons (ps_set (i := 6) sc_law.nd rfl (Or.inl rfl) (pe_or (pe_not (pcallN c__law_whole hr (by first | decide | omega) (pa_cons (pv 5) pa_nil))) (pe_one (pe_not (pe_chain op_le op_lt pe_int (pv 5) (pv 3)))))) (pss_cons (ps_if (pt_cmpR (op_neK (K := K) rfl hr) (pcallN c__law_refused hr (by first | decide | omega) (pa_cons pe_int (pa_cons (pv 2) (pa_cons (pv 5) pa_nil)))) (pe_tup (pa_cons (pv 6) (pa_cons (pv 6) pa_nil))) (nomark _)) (pss_one (ps_ret pe_bl)) pss_nil) (pss_cons (ps_set (i := 7) sc_law.nd rfl (Or.inl rfl) (pcallN c__law_place hr (by first | decide | omega) (pa_cons (pv 1) (pa_cons (pv 2) pa_nil)))) (pss_cons (ps_set (i := 6) sc_law.nd rfl (Or.inl rfl) (pe_not (pcallN c__law_is_place hr (by first | decide | omega) (pa_cons (pv 2) (pa_cons (pv 7) pa_nil))))) (pss_one (ps_if (pt_cmpR (op_neK (K := K) rfl hr) (pcallN c__law_refused hr (by first | decide | omega) (pa_cons pe_int (pa_cons (pv 2) (pa_cons (pv 7) pa_nil)))) (pe_tup (pa_cons (pv 6) (pa_cons (pv 6) pa_nil))) (nomark _)) (pss_one (ps_ret pe_bl)) pss_nil)))))))) (pss_one (ps_ret pe_bl)))))), ?_⟩
    obtain ⟨a, ns, rfl, hS, hl, kk⟩ := h
    walk_at "go"
    refine ⟨a, ns, 70, rfl, hS, hl, by decide, fun l ds H1 s1 nl hl1 hn hd => ?_⟩
    walk_at "go"
    refine ⟨l, ds, rfl, hl1, hd, by omega, fun v pl ds' H2 b2 hl2 hd2 hn2 g dv => ?_⟩
    walk_at "go"
    refine ⟨v, pl, rfl, dv, g, fun q H3 s3 dq => ?_⟩
    walk_at "go"
    obtain ⟨q', ys, e, hq, dy⟩ := Dt.lst dq
    cases e
    have hyl : ((ys.length : Nat) : Int) = Pl.tot pl := by rw [Dt.len dy, List.length_map]; exact Pl.places_len g.pos
    refine k_lenL ?_ hq
    walk_at "go"
    rw [hyl]
    have g1 := g.t1
    have g2 := g.t2
    refine k_rng1 (by decide) ?_
    refine k_loopR (n := 20) (fun i σ H' => ∃ (t1 t2 t3 t4 : Option V) (ds : List Int), σ = [some (.ref a), some (.ref l), some v, some (.int (Pl.tot pl)), t1, t2, t3, t4] ∧ H' l = some (.lst (ds.map V.int)) ∧ Deck ds ∧ 50 ≤ ds.length + 2 * i ∧ Dp K H' v (Pl.d pl)) ⟨none, none, none, none, ds', rfl, s3 _ _ hl2, hd2, by omega, dp_same s3 dv⟩ ?_ ?_
    · rintro i σ H4 hi ⟨t1, t2, t3, t4, ds, rfl, hl4, hd4, hn4, dv4⟩
      obtain ⟨es, e2, e1, rfl⟩ := Dk.last2 ds (by omega)
      rw [show es ++ [e2, e1] = (es ++ [e2]) ++ [e1] by simp] at hl4 hd4 hn4
      walk_at "go"
      refine ⟨l, _, e1, Pl.tot pl, rfl, hl4, hd4, g1, g2, fun x b H5 b5 hl5 hw hb => ?_⟩
      have dv5 := dp_but b5 hl4 (Pl.noL_d pl) dv4
      walk_at "n"
      walk_at "n"
      refine k_ev (fun v H' => H5 = H' ∧ ∃ bad : Bool, v = .bl bad ∧ (b = false → bad = true) ∧ (b = true → ∃ n : Int, x = .int n ∧ bad = !decide (0 ≤ n ∧ n < Pl.tot pl))) (fun Q kq => ?_) ?_
      · walk_at "go"
        refine whole_w hw ?_
        walk_at "go"
        cases b with
        | false =>
          walk_at "go"
          exact kq _ _ ⟨rfl, true, rfl, fun _ => rfl, fun z => nomatch z⟩
        | true =>
          obtain ⟨n, rfl⟩ := hb rfl
          walk_at "go"
          refine k_if (fun c1 => ?_) (fun c1 => ?_)
          · walk_at "go"
            by_cases c2 : n < Pl.tot pl
            · rw [decide_eq_true c2]
              exact kq _ _ ⟨rfl, false, rfl, (fun z => nomatch z), fun _ => ⟨n, rfl, by rw [decide_eq_true ⟨c1, c2⟩]; rfl⟩⟩
            · rw [decide_eq_false c2]
              exact kq _ _ ⟨rfl, true, rfl, (fun z => rfl), fun _ => ⟨n, rfl, by rw [decide_eq_false fun z => c2 z.2]; rfl⟩⟩
          · walk_at "go"
            exact kq _ _ ⟨rfl, true, rfl, (fun z => rfl), fun _ => ⟨n, rfl, by rw [decide_eq_false fun z => c1 z.1]; rfl⟩⟩
      rintro _ _ ⟨rfl, bad, rfl, hb0, hb1⟩
      walk_at "go"
      refine ⟨0, v, x, pl, bad, rfl, dv5, g, .inl ⟨rfl, b, hw, hb0, hb1⟩, fun p H6 s6 hp => ?_⟩
      walk_at "go"
      refine k_tupx (fun p2 H7 n7 s7 hp2 => ?_) (by simp [sizeLine_eq])
      refine k_neD (.tup (SqT.of (s7 _ _ hp)) (Dt.two (.bl bad) (.bl bad))) (.tup (SqT.of hp2) (Dt.two (.bl bad) (.bl bad))) ?_ (Dt.Sh.ok (k := 1) (shb bad bad)) (Dt.Sh.ok (k := 1) (shb bad bad))
      rw [Dt.refl (shb bad bad)]
      walk_at "go"
      have s57 := s6.trans s7
      have dv7 := dp_same s57 dv5
      refine ⟨l, _, e2, v, pl, rfl, s57 _ _ hl5, hd4.last.1, dv7, g, fun y H8 b8 hl8 hy => ?_⟩
      obtain ⟨o, ho, hok⟩ := hy
      walk_at "go"
      have dv8 := dp_but b8 (s57 _ _ hl5) (Pl.noL_d pl) dv7
      refine ⟨v, y, pl, o, rfl, dv8, g, ho, hok, fun H9 s9 => ?_⟩
      walk_at "go"
      have dv9 := dp_same s9 dv8
      refine ⟨1, v, y, pl, _, rfl, dv9, g, .inr ⟨by decide, o, ho.same s9, rfl⟩, fun p3 H10 s10 hp3 => ?_⟩
      walk_at "go"
      refine k_tupx (fun p4 H11 n11 s11 hp4 => ?_) (by simp [sizeLine_eq])
      rw [Bool.not_not] at hp4
      generalize (o.bind fun z => Pl.numb pl z.1 z.2 0).isNone = bad2 at hp3 hp4
      refine k_neD (.tup (SqT.of (s11 _ _ hp3)) (Dt.two (.bl bad2) (.bl bad2))) (.tup (SqT.of hp4) (Dt.two (.bl bad2) (.bl bad2))) ?_ (Dt.Sh.ok (k := 1) (shb bad2 bad2)) (Dt.Sh.ok (k := 1) (shb bad2 bad2))
      rw [Dt.refl (shb bad2 bad2)]
      walk_at "go"
      refine ⟨_, _, _, _, es, rfl, (s9.trans (s10.trans s11)) _ _ hl8, hd4.last.1.last.1, by simp at hn4; omega, dp_same (s10.trans s11) dv9⟩
    · rintro σ H4 ⟨t1, t2, t3, t4, ds, rfl, hl4, hd4, hn4, dv4⟩
      walk_at "go"
      exact kk _
end
end Lw
namespace Lw
open PySem PySem.Spec PyProof.Rows L2 Gx
def d_is_whole : He.DefD := ⟨("is_whole", none), "is_whole", "is_whole", defArgs s_is_whole, defBody s_is_whole, defScope s_is_whole, [], []⟩
def d_ballots_in : He.DefD := ⟨("ballots_in", none), "ballots_in", "ballots_in", defArgs s_ballots_in, defBody s_ballots_in, defScope s_ballots_in, [], []⟩
def d_place_of : He.DefD := ⟨("place_of", none), "place_of", "place_of", defArgs s_place_of, defBody s_place_of, defScope s_place_of, [], []⟩
def d_number_of : He.DefD := ⟨("number_of", none), "number_of", "number_of", defArgs s_number_of, defBody s_number_of, defScope s_number_of, [], []⟩
def d__law_whole : He.DefD := ⟨("_law_whole", none), "_law_whole", "_law_whole", defArgs s__law_whole, defBody s__law_whole, defScope s__law_whole, [], []⟩
def d__law_digits : He.DefD := ⟨("_law_digits", none), "_law_digits", "_law_digits", defArgs s__law_digits, defBody s__law_digits, defScope s__law_digits, [], []⟩
def d__law_deck : He.DefD := ⟨("_law_deck", none), "_law_deck", "_law_deck", defArgs s__law_deck, defBody s__law_deck, defScope s__law_deck, [], []⟩
def d__law_names : He.DefD := ⟨("_law_names", none), "_law_names", "_law_names", defArgs s__law_names, defBody s__law_names, defScope s__law_names, [], []⟩
def d__law_piles : He.DefD := ⟨("_law_piles", none), "_law_piles", "_law_piles", defArgs s__law_piles, defBody s__law_piles, defScope s__law_piles, [], []⟩
def d__law_places : He.DefD := ⟨("_law_places", none), "_law_places", "_law_places", defArgs s__law_places, defBody s__law_places, defScope s__law_places, [], []⟩
def d__law_number : He.DefD := ⟨("_law_number", none), "_law_number", "_law_number", defArgs s__law_number, defBody s__law_number, defScope s__law_number, [], []⟩
def d__law_place : He.DefD := ⟨("_law_place", none), "_law_place", "_law_place", defArgs s__law_place, defBody s__law_place, defScope s__law_place, [], []⟩
def d__law_refused : He.DefD := ⟨("_law_refused", none), "_law_refused", "_law_refused", defArgs s__law_refused, defBody s__law_refused, defScope s__law_refused, [], []⟩
def d__law_is_place : He.DefD := ⟨("_law_is_place", none), "_law_is_place", "_law_is_place", defArgs s__law_is_place, defBody s__law_is_place, defScope s__law_is_place, [], []⟩
def d_law : He.DefD := ⟨("law", none), "law", "law", defArgs s_law, defBody s_law, defScope s_law, [], []⟩
def fn : List He.DefD := [d_is_whole, d_ballots_in, d_place_of, d_number_of, d__law_whole, d__law_digits, d__law_deck, d__law_names, d__law_piles, d__law_places, d__law_number, d__law_place, d__law_refused, d__law_is_place, d_law]
def fa : List He.Fa := [.free "ValueError", .free "bool", .free "int", .free "isinstance", .free "len", .free "max", .free "min", .free "range", .free "str", .free "sum", .free "tuple", .glo "Ended", .glo "NoBallot", .glo "NoName", .glo "NoNumber", .glo "NoRow", .glo "NoText", .glo "TooMany", .glo "NoNumber", .glo "SureError", .exm "NoNumber" "SureError" true, .exc "NoNumber", .glo "is_whole", .glo "ballots_in", .glo "place_of", .glo "number_of", .glo "_law_whole", .glo "_law_digits", .glo "_law_deck", .glo "_law_names", .glo "_law_piles", .glo "_law_places", .glo "_law_number", .glo "_law_place", .glo "_law_refused", .glo "_law_is_place", .glo "law"]
abbrev R : PySem.W.OpenRow := PySem.W.OpenLaw.row PySem.Challenge.rw_surecount_k23_no_places
def exl : List (PySem.W.Frag → Bool) := [fun K => excB K "NoNumber", fun K => kitB2 K "NoNumber" (.ref (He.ga K "Ended")) false, fun K => kitB2 K "NoNumber" (.ref (He.ga K "NoBallot")) false, fun K => kitB2 K "NoNumber" (.ref (He.ga K "NoName")) false, fun K => kitB2 K "NoNumber" (.ref (He.ga K "NoNumber")) true, fun K => kitB2 K "NoNumber" (.ref (He.ga K "NoRow")) false, fun K => kitB2 K "NoNumber" (.ref (He.ga K "NoText")) false, fun K => kitB2 K "NoNumber" (.ref (He.ga K "TooMany")) false, fun K => kitB2 K "NoNumber" (.type "ValueError") true]
def exB (K : PySem.W.Frag) : Bool := exl.all fun f => f K
abbrev hk : PySem.W.Hook := He.hookX 5 fa fn [] [] exB
def ob (s : PySem.W.SharedT) : He.AlX := He.obsX 5 fa fn [] [] exB (HandSHeadRun.getT s)
theorem ob_eq (s : PySem.W.SharedT) : ob s = hk.obs s.abs := He.obsX_eq (HandSHeadRun.getT_eq s)
def loose : List PySem.Str := (["is_whole", "ballots_in", "place_of", "number_of", "_law_whole", "_law_digits", "_law_deck", "_law_names", "_law_piles", "_law_places", "_law_number", "_law_place", "_law_refused", "_law_is_place", "SureError", "NoNumber", "Ended", "NoBallot", "NoRow", "NoName", "NoText", "TooMany"] : List PySem.Str)
theorem run (w : World) : HandSHeadRun.RunEq R (PySem.W.view R.prog [26]) hk ob 6000 loose w := by
  intro os
  kernel_rfl
theorem facts {P : Program} {w : World} {K : PySem.W.Frag} {h : Heap} {mg : Str → Option Value} {f : Addr} (X : K.In h) (G : h.Ns mainGlobals mg) (hfa : mg ("law" : Str) = some (.ref f)) (c : He.SaysD fa fn K) (cx : (exl.all fun f => f K) = true) :
    ∃ fd : FuncData, (∀ (s : Shared) (v : Value), BindsTo s fd ⟨[v], []⟩ [("_law_script", v)]) ∧ ∀ base : Heap, K.In base → base.Ns mainGlobals mg → FnOk P w K mg base CX0 4 f fd ["_law_script"] (sp_law K) := by
  obtain ⟨fd0, F0⟩ := c.def_ 0 (d := d_is_whole) rfl
  obtain ⟨fd1, F1⟩ := c.def_ 1 (d := d_ballots_in) rfl
  obtain ⟨fd2, F2⟩ := c.def_ 2 (d := d_place_of) rfl
  obtain ⟨fd3, F3⟩ := c.def_ 3 (d := d_number_of) rfl
  obtain ⟨fd4, F4⟩ := c.def_ 4 (d := d__law_whole) rfl
  obtain ⟨fd5, F5⟩ := c.def_ 5 (d := d__law_digits) rfl
  obtain ⟨fd6, F6⟩ := c.def_ 6 (d := d__law_deck) rfl
  obtain ⟨fd7, F7⟩ := c.def_ 7 (d := d__law_names) rfl
  obtain ⟨fd8, F8⟩ := c.def_ 8 (d := d__law_piles) rfl
  obtain ⟨fd9, F9⟩ := c.def_ 9 (d := d__law_places) rfl
  obtain ⟨fd10, F10⟩ := c.def_ 10 (d := d__law_number) rfl
  obtain ⟨fd11, F11⟩ := c.def_ 11 (d := d__law_place) rfl
  obtain ⟨fd12, F12⟩ := c.def_ 12 (d := d__law_refused) rfl
  obtain ⟨fd13, F13⟩ := c.def_ 13 (d := d__law_is_place) rfl
  obtain ⟨fd14, F14⟩ := c.def_ 14 (d := d_law) rfl
  have T : Txt K mg := { n_ValueError := He.free_ok X G (c.fact 0 rfl), n_bool := He.free_ok X G (c.fact 1 rfl), n_int := He.free_ok X G (c.fact 2 rfl), n_isinstance := He.free_ok X G (c.fact 3 rfl), n_len := He.free_ok X G (c.fact 4 rfl), n_max := He.free_ok X G (c.fact 5 rfl), n_min := He.free_ok X G (c.fact 6 rfl), n_range := He.free_ok X G (c.fact 7 rfl), n_str := He.free_ok X G (c.fact 8 rfl), n_sum := He.free_ok X G (c.fact 9 rfl), n_tuple := He.free_ok X G (c.fact 10 rfl), c_Ended := ⟨_, He.glo_ok X G (c.fact 11 rfl), rfl⟩, c_NoBallot := ⟨_, He.glo_ok X G (c.fact 12 rfl), rfl⟩, c_NoName := ⟨_, He.glo_ok X G (c.fact 13 rfl), rfl⟩, c_NoNumber := ⟨_, He.glo_ok X G (c.fact 14 rfl), rfl⟩, c_NoRow := ⟨_, He.glo_ok X G (c.fact 15 rfl), rfl⟩, c_NoText := ⟨_, He.glo_ok X G (c.fact 16 rfl), rfl⟩, c_TooMany := ⟨_, He.glo_ok X G (c.fact 17 rfl), rfl⟩, g_NoNumber := He.glo_ok X G (c.fact 18 rfl), g_SureError := He.glo_ok X G (c.fact 19 rfl), m_NoNumber_SureError := He.exm_ok (c.fact 20 rfl), x_NoNumber := He.exc_ok (c.fact 21 rfl), e_NoNumber := excB_ok (xat cx 0 rfl), i_NoNumber_Ended := of_decide_eq_true (xat cx 1 rfl), i_NoNumber_NoBallot := of_decide_eq_true (xat cx 2 rfl), i_NoNumber_NoName := of_decide_eq_true (xat cx 3 rfl), i_NoNumber_NoNumber := of_decide_eq_true (xat cx 4 rfl), i_NoNumber_NoRow := of_decide_eq_true (xat cx 5 rfl), i_NoNumber_NoText := of_decide_eq_true (xat cx 6 rfl), i_NoNumber_TooMany := of_decide_eq_true (xat cx 7 rfl), i_NoNumber_ValueError := of_decide_eq_true (xat cx 8 rfl) }
  have g_is_whole := He.glo_ok X G (c.fact 22 (f := .glo "is_whole") rfl)
  have g_ballots_in := He.glo_ok X G (c.fact 23 (f := .glo "ballots_in") rfl)
  have g_place_of := He.glo_ok X G (c.fact 24 (f := .glo "place_of") rfl)
  have g_number_of := He.glo_ok X G (c.fact 25 (f := .glo "number_of") rfl)
  have g__law_whole := He.glo_ok X G (c.fact 26 (f := .glo "_law_whole") rfl)
  have g__law_digits := He.glo_ok X G (c.fact 27 (f := .glo "_law_digits") rfl)
  have g__law_deck := He.glo_ok X G (c.fact 28 (f := .glo "_law_deck") rfl)
  have g__law_names := He.glo_ok X G (c.fact 29 (f := .glo "_law_names") rfl)
  have g__law_piles := He.glo_ok X G (c.fact 30 (f := .glo "_law_piles") rfl)
  have g__law_places := He.glo_ok X G (c.fact 31 (f := .glo "_law_places") rfl)
  have g__law_number := He.glo_ok X G (c.fact 32 (f := .glo "_law_number") rfl)
  have g__law_place := He.glo_ok X G (c.fact 33 (f := .glo "_law_place") rfl)
  have g__law_refused := He.glo_ok X G (c.fact 34 (f := .glo "_law_refused") rfl)
  have g__law_is_place := He.glo_ok X G (c.fact 35 (f := .glo "_law_is_place") rfl)
  have g_law := He.glo_ok X G (c.fact 36 (f := .glo "law") rfl)
  have e := hfa.symm.trans g_law
  cases e
  have b := FunD.bindsA (ps := ["_law_script"]) F14 fun _ _ _ _ _ _ us hl => match us, hl with | [_], _ => rfl
  refine ⟨fd14, fun s v => b s [v] rfl, fun base _ _ => ?_⟩
  have c_is_whole : Cl P w K mg base 1 "is_whole" ["thing"] (sp_is_whole K) := ⟨_, fd0, ok_is_whole F0 T , g_is_whole, F0.kp, F0.bindsN fun _ _ _ _ _ _ us hl => match us, hl with | [_], _ => rfl⟩
  have c_ballots_in : Cl P w K mg base 1 "ballots_in" ["piles"] (sp_ballots_in K) := ⟨_, fd1, ok_ballots_in F1 T , g_ballots_in, F1.kp, F1.bindsN fun _ _ _ _ _ _ us hl => match us, hl with | [_], _ => rfl⟩
  have c_place_of : Cl P w K mg base 2 "place_of" ["piles", "number"] (sp_place_of K) := ⟨_, fd2, ok_place_of F2 T c_ballots_in c_is_whole, g_place_of, F2.kp, F2.bindsN fun _ _ _ _ _ _ us hl => match us, hl with | [_, _], _ => rfl⟩
  have c_number_of : Cl P w K mg base 2 "number_of" ["piles", "place"] (sp_number_of K) := ⟨_, fd3, ok_number_of F3 T c_is_whole, g_number_of, F3.kp, F3.bindsN fun _ _ _ _ _ _ us hl => match us, hl with | [_, _], _ => rfl⟩
  have c__law_whole : Cl P w K mg base 1 "_law_whole" ["_law_found"] (sp__law_whole K) := ⟨_, fd4, ok__law_whole F4 T , g__law_whole, F4.kp, F4.bindsN fun _ _ _ _ _ _ us hl => match us, hl with | [_], _ => rfl⟩
  have c__law_digits : Cl P w K mg base 1 "_law_digits" ["_law_script", "_law_k"] (sp__law_digits K) := ⟨_, fd5, ok__law_digits F5 T , g__law_digits, F5.kp, F5.bindsN fun _ _ _ _ _ _ us hl => match us, hl with | [_, _], _ => rfl⟩
  have c__law_deck : Cl P w K mg base 2 "_law_deck" ["_law_script", "_law_most"] (sp__law_deck K) := ⟨_, fd6, ok__law_deck F6 T c__law_digits, g__law_deck, F6.kp, F6.bindsN fun _ _ _ _ _ _ us hl => match us, hl with | [_, _], _ => rfl⟩
  have c__law_names : Cl P w K mg base 1 "_law_names" ["_law_deck_here", "_law_many"] (sp__law_names K) := ⟨_, fd7, ok__law_names F7 T , g__law_names, F7.kp, F7.bindsN fun _ _ _ _ _ _ us hl => match us, hl with | [_, _], _ => rfl⟩
  have c__law_piles : Cl P w K mg base 2 "_law_piles" ["_law_deck_here"] (sp__law_piles K) := ⟨_, fd8, ok__law_piles F8 T c__law_names, g__law_piles, F8.kp, F8.bindsN fun _ _ _ _ _ _ us hl => match us, hl with | [_], _ => rfl⟩
  have c__law_places : Cl P w K mg base 1 "_law_places" ["_law_piles_here"] (sp__law_places K) := ⟨_, fd9, ok__law_places F9 T , g__law_places, F9.kp, F9.bindsN fun _ _ _ _ _ _ us hl => match us, hl with | [_], _ => rfl⟩
  have c__law_number : Cl P w K mg base 1 "_law_number" ["_law_deck_here", "_law_many"] (sp__law_number K) := ⟨_, fd10, ok__law_number F10 T , g__law_number, F10.kp, F10.bindsN fun _ _ _ _ _ _ us hl => match us, hl with | [_, _], _ => rfl⟩
  have c__law_place : Cl P w K mg base 1 "_law_place" ["_law_deck_here", "_law_piles_here"] (sp__law_place K) := ⟨_, fd11, ok__law_place F11 T , g__law_place, F11.kp, F11.bindsN fun _ _ _ _ _ _ us hl => match us, hl with | [_, _], _ => rfl⟩
  have c__law_refused : Cl P w K mg base 3 "_law_refused" ["_law_way", "_law_piles_here", "_law_thing"] (sp__law_refused K) := ⟨_, fd12, ok__law_refused F12 T c_place_of c_number_of, g__law_refused, F12.kp, F12.bindsN fun _ _ _ _ _ _ us hl => match us, hl with | [_, _, _], _ => rfl⟩
  have c__law_is_place : Cl P w K mg base 2 "_law_is_place" ["_law_piles_here", "_law_thing"] (sp__law_is_place K) := ⟨_, fd13, ok__law_is_place F13 T c__law_places c__law_whole, g__law_is_place, F13.kp, F13.bindsN fun _ _ _ _ _ _ us hl => match us, hl with | [_, _], _ => rfl⟩
  exact ok_law F14 T c__law_refused c__law_is_place c__law_place c__law_whole c__law_number c__law_places c__law_piles c__law_deck
end Lw
open PySem PySem.W PySem.Calls PyProof.Rows
theorem PySem.Challenge.cw_surecount_k23_no_places_holds : PySem.Challenge.rw_surecount_k23_no_places.Holds := by
  w_on; o_law
  refine HandSHeadRun.head_any (r := OpenLaw.row PySem.Challenge.rw_surecount_k23_no_places) (q := view (OpenLaw.row PySem.Challenge.rw_surecount_k23_no_places).prog [26]) (H := Lw.hk) (ob := Lw.ob) (M := 6000) (loose := Lw.loose) (d := HandSHeadRun.topDef (OpenLaw.row PySem.Challenge.rw_surecount_k23_no_places).prog 26) (kwd := []) Lw.ob_eq
    (by kernel_rfl) (fun s => by kernel_rfl) Lw.run (by kernel_rfl) (by kernel_rfl) (by kernel_rfl) (by rfl) (by first | assumption | decide +kernel) (by decide +kernel) ⟨rfl, rfl, rfl, rfl, rfl, by decide +kernel⟩ ?hw ?hc
  case hw => w_witness2
  case hc =>
    refine L2.walk_ofE (l := PySem.Challenge.rw_surecount_k23_no_places) (n := 63) (k := 4) (x := "_law_script") (CX := L2.CX0) rfl (by decide) (by kernel_rfl) ⟨rfl, by decide, by decide⟩ ?F (fun _ _ _ _ z => z)
    case F =>
      intro w mg fa h Y G hmg0
      obtain ⟨K, KX, c⟩ := Y
      have hmg : mg ("law" : PySem.Str) = some (.ref fa) := by
        have e : (HandSHeadRun.topDef (OpenLaw.row PySem.Challenge.rw_surecount_k23_no_places).prog 26).name = ("law" : PySem.Str) := by kernel_rfl
        rw [← e]
        exact hmg0
      obtain ⟨fd, hb, hF⟩ := Lw.facts (P := (PySem.Challenge.rw_surecount_k23_no_places).prog) (w := w) KX G hmg c.t.d c.more
      exact ⟨K, fd, Lw.sp_law K, KX, hb, fun H a ns hl _ hS => ⟨a, ns, rfl, hS, hl, fun _ => rfl⟩, hF⟩
