import PyProof.Rows.All
import Wide.All
import OpenK.AllK
import Wide.FinOn
import Lean
import HandS.ForMost
import HandS.ForExc
import HandS.Wide
import HandS.WideBits
import HandS.TupAny
import HandS.TupMul
import HandS.Deep
import HandS.IsInst
import HandS.ExcIs
import HandS.Style
import HandS.Codes
import HandS.Conv
import HandS.SetFor
import HandS.Zip
import HandS.Defaults
import HandS.Small
import HandS.HeadEnd
import HandS.HeadHook1
import HandS.HeadHook2
import HandS.HeadHook3
import HandS.HeadHook4
import HandS.Head0
import HandS.Head1
import HandS.Head2
import PySem.Challenge.RW_surecount_k24_drawn
set_option Elab.async false
set_option linter.all false
set_option maxRecDepth 100000
set_option maxHeartbeats 4000000
/-! ### own short words over the hand layer -/
namespace Gx
open PySem PySem.Spec PyProof.Rows L2
/-- all but l stays -/
def But (l : Addr) (H H' : Hp) : Prop := ∀ a o, a ≠ l → H a = some o → H' a = some o
theorem But.of {H H' : Hp} {l : Addr} (e : Same H H') : But l H H' := fun a o _ h => e a o h
theorem But.trans {H H1 H2 : Hp} {l : Addr} (a : But l H H1) (b : But l H1 H2) : But l H H2 := fun c o n h => b c o n (a c o n h)
theorem But.upd {H : Hp} {l : Addr} {o : HO} : But l H (upd H l o) := fun a u n h => by
  rw [upd_ne n]
  exact h
theorem same_new {H : Hp} {p : Addr} {o : HO} (h : H p = none) : Same H (upd H p o) := fun b u q => by
  rw [upd_ne (ne_of_none q h)]
  exact q
theorem But.same {H H1 H2 : Hp} {l : Addr} (n : H l = none) (a : Same H H1) (b : But l H1 H2) : Same H H2 := fun c o h => b c o (ne_of_none h n) (a c o h)
/-! ### reading facts through heaps -/
theorem up_same {H H' : Hp} (e : Same H H') {a : Addr} {o : HO} (h : H a = some o) : H' a = some o := e a o h
theorem up_but {H H' : Hp} {l : Addr} (e : But l H H') {a : Addr} {o : HO} (n : a ≠ l) (h : H a = some o) : H' a = some o := e a o n h
theorem seqL_same {K : PySem.W.Frag} {H H' : Hp} (e : Same H H') {a : Addr} {xs : List V} (h : SqL K H a xs) : SqL K H' a xs := e.seq h
theorem seqT_same {K : PySem.W.Frag} {H H' : Hp} (e : Same H H') {a : Addr} {xs : List V} (h : SqT K H a xs) : SqT K H' a xs := by
  rcases h with (h | ⟨o, h⟩) | h
  · exact .inl (.inl (e _ _ h))
  · exact .inl (.inr ⟨o, e _ _ h⟩)
  · exact .inr h
/-- tuples stay while a list changes -/
theorem seqT_but {K : PySem.W.Frag} {H H' : Hp} {l : Addr} {ys : List V} (e : But l H H') (hl : H l = some (.lst ys)) {a : Addr} {xs : List V} (h : SqT K H a xs) : SqT K H' a xs := by
  rcases h with (h | ⟨o, h⟩) | h
  · exact .inl (.inl (e _ _ (ne_of h hl (by intro z; cases z)) h))
  · exact .inl (.inr ⟨o, e _ _ (ne_of h hl (by intro z; cases z)) h⟩)
  · exact .inr h
theorem seqL_but {K : PySem.W.Frag} {H H' : Hp} {l : Addr} (e : But l H H') {a : Addr} (n : a ≠ l) {xs : List V} (h : SqL K H a xs) : SqL K H' a xs := by
  rcases h with (h | ⟨o, h⟩) | h
  · exact .inl (.inl (e _ _ n h))
  · exact .inl (.inr ⟨o, e _ _ n h⟩)
  · exact .inr h
/-! ### data through heaps -/
mutual
theorem dp_same {K : PySem.W.Frag} {H H' : Hp} (e : Same H H') : ∀ {d : PyData} {v : V}, Dp K H v d → Dp K H' v d
  | _, _, .non => .non
  | _, _, .bl b => .bl b
  | _, _, .int i => .int i
  | _, _, .str x => .str x
  | _, _, .lst h a => .lst (seqL_same e h) (dpAll_same e a)
  | _, _, .tup h a => .tup (seqT_same e h) (dpAll_same e a)
theorem dpAll_same {K : PySem.W.Frag} {H H' : Hp} (e : Same H H') : ∀ {ds : List PyData} {vs : List V}, DpAll K H vs ds → DpAll K H' vs ds
  | _, _, .nil => .nil
  | _, _, .cons a r => .cons (dp_same e a) (dpAll_same e r)
end
/-! data without lists -/
mutual
def noL : PyData → Bool
  | .list _ => false
  | .tuple ds => noLs ds
  | _ => true
def noLs : List PyData → Bool
  | [] => true
  | d :: ds => noL d && noLs ds
end
mutual
theorem dp_but {K : PySem.W.Frag} {H H' : Hp} {l : Addr} {ys : List V} (e : But l H H') (hl : H l = some (.lst ys)) : ∀ {d : PyData} {v : V}, noL d = true → Dp K H v d → Dp K H' v d
  | _, _, _, .non => .non
  | _, _, _, .bl b => .bl b
  | _, _, _, .int i => .int i
  | _, _, _, .str x => .str x
  | _, _, n, .lst h a => by simp [noL] at n
  | _, _, n, .tup h a => .tup (seqT_but e hl h) (dpAll_but e hl (by simpa [noL] using n) a)
theorem dpAll_but {K : PySem.W.Frag} {H H' : Hp} {l : Addr} {ys : List V} (e : But l H H') (hl : H l = some (.lst ys)) : ∀ {ds : List PyData} {vs : List V}, noLs ds = true → DpAll K H vs ds → DpAll K H' vs ds
  | _, _, _, .nil => .nil
  | _, _, n, .cons a r => by
    simp [noLs] at n
    exact .cons (dp_but e hl n.1 a) (dpAll_but e hl n.2 r)
end
/-! ### a def that may be called -/
structure Cl (P : Program) (w : World) (K : PySem.W.Frag) (mg : Str → Option Value) (base : Heap) (k : Nat) (x : Str) (ps : List Str) (sp : Sp) : Prop where
  ex : ∃ f fd, FnOk P w K mg base (L2.CX P w) k f fd ps sp ∧ mg x = some (.ref f) ∧ PySem.W.keepIn K (.ref f) = true ∧ Binds K fd ps []
section
variable {X : Cx} {W : WX} {e : Expr} {es : List Expr} {p pos : Pos} {t : TA} {x : Str} {ps : List Str} {sp : Sp} {j k : Nat}
theorem pcall (c : Cl X.prog X.w X.K X.mg X.base k x ps sp) (hr : Room j X.A) (hk : k ≤ j) (tk : Takes X W) (ha : PA X (e :: es) t) (hg : Gl X x := by rfl)
    (he : starEach (e :: es) X.env = (false, eval e X.env) :: starEach es X.env := by rfl) (hpl : (backTo pos (starEach es X.env)).any (·.1) = false := by rfl) (hdb : (x == ("__debug__" : Str)) = false := by decide) :
    PE X (.Call (.Name x p) (e :: es) [] pos) (tCallS sp (WE W) t) := by
  obtain ⟨f, fd, F, m, kp, b⟩ := c.ex
  exact pe_callS F (hr.mono hk) hg m kp b (fun σ => passAt tk σ) ha hdb he hpl
theorem pcall0 (c : Cl X.prog X.w X.K X.mg X.base k x ps sp) (hr : Room j X.A) (hk : k ≤ j) (hg : Gl X x := by rfl) (hdb : (x == ("__debug__" : Str)) = false := by decide) :
    PE X (.Call (.Name x p) [] [] pos) (tCall sp [] E0 tNil) := by
  obtain ⟨f, fd, F, m, kp, b⟩ := c.ex
  exact pe_call0 F (hr.mono hk) hg m kp b .nil passL hdb
/-- where nothing may be raised -/
theorem pcallN (c : Cl X.prog X.w X.K X.mg X.base k x ps sp) (hr : Room j X.A) (hk : k ≤ j) (ha : PA X (e :: es) t) (hg : Gl X x := by rfl)
    (he : starEach (e :: es) X.env = (false, eval e X.env) :: starEach es X.env := by rfl) (hpl : (backTo pos (starEach es X.env)).any (·.1) = false := by rfl) (hdb : (x == ("__debug__" : Str)) = false := by decide) :
    PE X (.Call (.Name x p) (e :: es) [] pos) (tCall sp [] E0 t) := by
  obtain ⟨f, fd, F, m, kp, b⟩ := c.ex
  exact pe_call F (hr.mono hk) hg m kp b .nil passL ha hdb he hpl
end
/-- a recursion: nothing is promised at 0 -/
theorem fn_void {P : Program} {w : World} {K : PySem.W.Frag} {mg : Str → Option Value} {base : Heap} {CX : CXT} {k : Nat} {f : Addr} {fd : FuncData} {ps : List Str} {sp : Sp} (h : ∀ vs H Q E, ¬ sp vs H Q E) : FnOk P w K mg base CX k f fd ps sp :=
  ⟨fun vs H Q E z => (h vs H Q E z).elim, fun _ _ _ H _ _ vs Q E _ _ _ _ z => (h vs H Q E z).elim⟩
/-! ### operators, joined -/
section
variable {X : Cx}
def rAddU (K : PySem.W.Frag) : R2 := fun x y H Q => (∃ i j, x = .int i ∧ y = .int j ∧ Q (.int (i + j)) H) ∨ (∃ i j, x = .str i ∧ y = .str j ∧ i.length + j.length ≤ sizeLine ∧ Q (.str (i ++ j)) H) ∨ rCat x y H Q ∨ rCatA K x y H Q
theorem op_addU : OpR X (binaryOp .Add) (rAddU X.K) := op_add.or (op_add_str.or (op_cat.or op_catA))
def rMulU (K : PySem.W.Frag) : R2 := fun x y H Q => (∃ i j, x = .int i ∧ y = .int j ∧ CMulX i j ∧ Q (.int (i * j)) H) ∨ rRep x y H Q ∨ rRepT K x y H Q
theorem op_mulU : OpR X (binaryOp .Mult) (rMulU X.K) := op_mulX.or (op_rep.or op_repT)
def rEqU (K : PySem.W.Frag) : R2 := fun x y H Q => rEq x y H Q ∨ rEqD K x y H Q
def rNeU (K : PySem.W.Frag) : R2 := fun x y H Q => rNe x y H Q ∨ rNeD K x y H Q
theorem op_eqU {k : Nat} (hr : Room k X.A) : OpR X (compareOp .Eq) (rEqU X.K) := op_eq.or (op_eqD hr.units)
theorem op_neU {k : Nat} (hr : Room k X.A) : OpR X (compareOp .NotEq) (rNeU X.K) := op_ne.or (op_neD hr.units)
def CDivG (i j : Int) : Prop := j ≠ 0 ∧ Builtin.divisionGoesByPylong i j = false
theorem noPy_low {i j : Int} (h : j.natAbs < 2 ^ 9000) : Builtin.divisionGoesByPylong i j = false := PyProof.noPylong_of_log2 (PySem.Flt.log2_lt_of (by decide) h)
theorem noPy_mid {i j : Int} (h : i.natAbs < 2 ^ 13500) : Builtin.divisionGoesByPylong i j = false := by
  have e := PySem.Flt.log2_lt_of (by decide) h
  unfold Builtin.divisionGoesByPylong
  simp only [Bool.and_eq_false_iff, decide_eq_false_iff_not]
  by_cases c : j = 0
  · left; simp [c]
  · by_cases c2 : i = 0
    · right; simp [c2]
    · simp [c, c2]; omega
theorem op_fdivG : OpR X (binaryOp .FloorDiv) (rI CDivG fun i j => .int (i.fdiv j)) := opI fun i j _ _ _ _ _ hc q => floordiv_int hc.1 q (.inl hc.2)
end
/-- walking a list or a tuple -/
def rItU (K : PySem.W.Frag) (x : V) (H : Hp) (R : It → Hp → Prop) : Prop := ∃ a, x = .ref a ∧ (((∃ xs, SqL K H a xs) ∧ R (Itl K a) H) ∨ ((∃ xs, SqT K H a xs) ∧ R (Itt K a) H))
def iSeqU (K : PySem.W.Frag) (tl : TE) : TI := fun σ H R => tl σ H fun x H1 => rItU K x H1 R
theorem pi_seqU {X : Cx} {tg l : Expr} {tl : TE} (hl : PE X l tl) : PI X tg l (iSeqU X.K tl) :=
  ⟨fun pins s σ H R I h => thn (hl.run pins s σ H _ I h) fun v s1 z => by
    obtain ⟨x, H1, I1, r1, a, e, z⟩ := z
    cases e
    cases r1
    have fp : ∀ b ∈ [s1.heap.objs.size], FpOk X pins H1 b := fun b hb => by
      obtain rfl : b = s1.heap.objs.size := by simpa using hb
      exact I1.fpOk (Nat.le_refl _) (I1.hok.fresh (Nat.le_refl _))
    rcases z with ⟨⟨xs, hq⟩, q⟩ | ⟨⟨xs, hq⟩, q⟩
    · obtain ⟨its, _, pl, _⟩ := I1.list hq
      exact wpAny_pyIter_list pl.isList ⟨_, [s1.heap.objs.size], _, _, H1, rfl, I1.kept (t' := s1.toks) (fun b o w => Heap.get?_push_of_some _ w), turn_list a _, ⟨_, Heap.get?_push_size _ rfl, rfl, rfl⟩, fp, q⟩
    · obtain ⟨its, _, pt, _⟩ := I1.tuple hq
      exact wpAny_pyIter_tuple (show s1.heap.IsTuple a its.toArray from pt) ⟨_, [s1.heap.objs.size], _, _, H1, rfl, I1.kept (t' := s1.toks) (fun b o w => Heap.get?_push_of_some _ w), turn_tuple a _, ⟨_, Heap.get?_push_size _ rfl, rfl, rfl⟩, fp, q⟩⟩
/-- a tuple's type, a list's type -/
theorem ty_tup {K : PySem.W.Frag} {H : Hp} {p : Addr} {xs : List V} (h : SqT K H p xs) : TyX K H (.ref p) (.type "tuple") := by
  rcases h with (h | ⟨o, h⟩) | ⟨o, its, n, h, c, _⟩
  · exact .base (.tup h)
  · exact .fTuple h
  · exact .kTuple h c
theorem ty_lst {K : PySem.W.Frag} {H : Hp} {p : Addr} {xs : List V} (h : SqL K H p xs) : TyX K H (.ref p) (.type "list") := by
  rcases h with (h | ⟨o, h⟩) | ⟨o, its, n, h, c, _⟩
  · exact .base (.lst h)
  · exact .base (.frz h)
  · exact .kList h c
/-- isinstance(e, c), e the error that a suite holds, its class cls, its dict d -/
def rIsEU (K : PySem.W.Frag) (a : Addr) (cls : Value) (d : Option Addr) : List V → Hp → VK → Prop := fun xs H Q => ∃ D : Addr, cls = .ref D ∧ d = none ∧ ExcC K D ∧ rIsE K D a xs H Q
theorem call_isEU {X : Cx} {a : Addr} {cls : Value} {d : Option Addr} {oe : Obj} {pn : List (Addr × Obj)} (hz : Zc cls d oe) (hf : ∃ vs, oe.data = .fields vs) : CallR (X.suite a ((a, oe) :: pn)) (.builtin "isinstance") (rIsEU X.K a cls d) := by
  intro pins s σ H xs us Q I r h
  obtain ⟨D, rfl, rfl, C, h⟩ := h
  exact call_isE C hz hf pins s σ H xs us Q I r h
theorem k_isE {K : PySem.W.Frag} {H : Hp} {Q : VK} {a D : Addr} {c : V} {cv : Value} {b : Bool} (C : ExcC K D) (hk : PySem.W.kitOne K (.ref D) cv = some b) (hc : ∀ u, RelV c u → u = cv) (q : Q (.bl b) H) : rIsEU K a (.ref D) none [.ref a, c] H Q := ⟨D, rfl, rfl, C, c, cv, b, rfl, hc, hk, q⟩
def excB (K : PySem.W.Frag) (x : Str) : Bool := He.eqO (PySem.W.findIn K (.ref (He.ga K x)) "__getattribute__") (some (some (.builtin "BaseException.__getattribute__"))) && (He.eqO (PySem.W.findIn K (.ref (He.ga K x)) "__getattr__") (some none) &&
  (decide (PySem.W.subIn K (.ref (He.ga K x)) (.type "BaseException") = some true) && (PySem.W.hasDictIn K (He.ga K x) && (He.eqO (PySem.W.findIn K (.ref (He.ga K x)) "__class__") (some (some (.builtin "object.__class__"))) &&
  (He.eqO (PySem.W.specialIn K (.builtin "object.__class__") "__get__") (some (some (.builtin "getset_descriptor.__get__"))) && (decide (PySem.W.takesIn K (.builtin "object.__class__") = some true) && decide (PySem.W.mroIn K (He.ga K x) (.type "object") = some true)))))))
theorem excB_ok {K : PySem.W.Frag} {x : Str} (h : excB K x = true) : ExcC K (He.ga K x) := by
  unfold excB at h
  obtain ⟨h1, h⟩ := He.ba h
  obtain ⟨h2, h⟩ := He.ba h
  obtain ⟨h3, h⟩ := He.ba h
  obtain ⟨h4, h⟩ := He.ba h
  obtain ⟨h5, h⟩ := He.ba h
  obtain ⟨h6, h⟩ := He.ba h
  obtain ⟨h7, h8⟩ := He.ba h
  exact ⟨He.eqO_ok h1, He.eqO_ok h2, of_decide_eq_true h3, h4, He.eqO_ok h5, He.eqO_ok h6, of_decide_eq_true h7, of_decide_eq_true h8⟩
def kitB2 (K : PySem.W.Frag) (x : Str) (c : Value) (b : Bool) : Bool := decide (PySem.W.kitOne K (.ref (He.ga K x)) c = some b)
theorem xat {K : PySem.W.Frag} {l : List (PySem.W.Frag → Bool)} (h : (l.all fun f => f K) = true) (i : Nat) {f : PySem.W.Frag → Bool} (e : l[i]? = some f) : f K = true := List.all_eq_true.mp h f (List.mem_of_getElem? e)
/-! ### readings, step by step -/
section
variable {σ : L2.St} {H : Hp} {Q : VK} {v : V} {ta tb tc te : TE} {tt tu : TT} {K : PySem.W.Frag} {i j : Nat}
theorem k_var (h : σ[i]? = some (some v)) (q : Q v H) : tVar i σ H Q := ⟨v, h, q⟩
theorem k_c (q : Q v H) : tC v σ H Q := q
theorem k_op {r : R2} (q : ta σ H fun x H1 => tb σ H1 fun y H2 => r x y H2 Q) : tOp r ta tb σ H Q := q
theorem k_un {r : V → Hp → VK → Prop} (q : ta σ H fun x H1 => r x H1 Q) : tUn r ta σ H Q := q
theorem k_neg {a : Int} (q : Q (.int (-a)) H) : rU (fun i => .int (-i)) (.int a) H Q := ⟨a, rfl, q⟩
theorem k_I0 {g : Int → Int → V} {a b : Int} (q : Q (g a b) H) : rI0 g (.int a) (.int b) H Q := ⟨a, b, rfl, rfl, q⟩
theorem k_I {C : Int → Int → Prop} {g : Int → Int → V} {a b : Int} (q : Q (g a b) H) (c : C a b) : rI C g (.int a) (.int b) H Q := ⟨a, b, rfl, rfl, c, q⟩
theorem k_addI {a b : Int} (q : Q (.int (a + b)) H) : rAddU K (.int a) (.int b) H Q := .inl ⟨a, b, rfl, rfl, q⟩
theorem k_addS {a b : Str} (q : Q (.str (a ++ b)) H) (c : a.length + b.length ≤ sizeLine) : rAddU K (.str a) (.str b) H Q := .inr (.inl ⟨a, b, rfl, rfl, c, q⟩)
theorem k_addL {a b : Addr} {xs ys : List V} (ha : H a = some (.lst xs)) (hb : H b = some (.lst ys)) (q : ∀ p H', H p = none → Same H H' → H' p = some (.lst (xs ++ ys)) → Q (.ref p) H') (c : xs.length + ys.length ≤ sizeLine) : rAddU K (.ref a) (.ref b) H Q :=
  .inr (.inr (.inl ⟨a, b, xs, ys, rfl, rfl, ha, hb, c, fun p hp => q p _ hp (same_new hp) upd_same⟩))
theorem k_addT {a b : Addr} {xs ys : List V} (ha : SqT K H a xs) (hb : SqT K H b ys) (hx : xs ≠ []) (hy : ys ≠ []) (q : ∀ p H', H p = none → Same H H' → H' p = some (.tup (xs ++ ys)) → Q (.ref p) H') (c : xs.length + ys.length ≤ sizeLine) : rAddU K (.ref a) (.ref b) H Q :=
  .inr (.inr (.inr ⟨a, b, xs, ys, rfl, rfl, ha, hb, c, fun e => absurd e hx, fun _ e => absurd e hy, fun _ _ p hp => q p _ hp (same_new hp) upd_same⟩))
theorem k_mulI {a b : Int} (q : Q (.int (a * b)) H) (c : CMulX a b) : rMulU K (.int a) (.int b) H Q := .inl ⟨a, b, rfl, rfl, c, q⟩
theorem k_eqS {x y : V} (h : scal x y = true) (q : Q (.bl (decide (x = y))) H) : rEqU K x y H Q := .inl ⟨h, q⟩
theorem k_neS {x y : V} (h : scal x y = true) (q : Q (.bl (!decide (x = y))) H) : rNeU K x y H Q := .inl ⟨h, q⟩
theorem dec_int {a b : Int} : decide (V.int a = V.int b) = decide (a = b) := by
  by_cases h : a = b
  · rw [h] <;> simp
  · rw [decide_eq_false h, decide_eq_false (fun e => h (V.int.inj e))]
theorem dec_str {a b : Str} : decide (V.str a = V.str b) = decide (a = b) := by
  by_cases h : a = b
  · rw [h] <;> simp
  · rw [decide_eq_false h, decide_eq_false (fun e => h (V.str.inj e))]
theorem dec_bl {a b : Bool} : decide (V.bl a = V.bl b) = decide (a = b) := by
  cases a <;> cases b <;> decide
theorem k_eqI {a b : Int} (q : Q (.bl (decide (a = b))) H) : rEqU K (.int a) (.int b) H Q := k_eqS rfl (by rw [dec_int]; exact q)
theorem k_neI {a b : Int} (q : Q (.bl (!decide (a = b))) H) : rNeU K (.int a) (.int b) H Q := k_neS rfl (by rw [dec_int]; exact q)
theorem k_eqT {a b : Str} (q : Q (.bl (decide (a = b))) H) : rEqU K (.str a) (.str b) H Q := k_eqS rfl (by rw [dec_str]; exact q)
theorem k_neT {a b : Str} (q : Q (.bl (!decide (a = b))) H) : rNeU K (.str a) (.str b) H Q := k_neS rfl (by rw [dec_str]; exact q)
theorem k_eqB {a b : Bool} (q : Q (.bl (decide (a = b))) H) : rEqU K (.bl a) (.bl b) H Q := k_eqS rfl (by rw [dec_bl]; exact q)
theorem k_neB {a b : Bool} (q : Q (.bl (!decide (a = b))) H) : rNeU K (.bl a) (.bl b) H Q := k_neS rfl (by rw [dec_bl]; exact q)
theorem k_eqD {x y : V} {d e : PyData} (hx : Dp K H x d) (hy : Dp K H y e) (q : Q (.bl (PyData.eqv d e)) H) (s1 : SeqAt.shaped d = true) (s2 : SeqAt.shaped e = true) : rEqU K x y H Q := .inr ⟨d, e, hx, hy, s1, s2, q⟩
theorem k_neD {x y : V} {d e : PyData} (hx : Dp K H x d) (hy : Dp K H y e) (q : Q (.bl (!PyData.eqv d e)) H) (s1 : SeqAt.shaped d = true) (s2 : SeqAt.shaped e = true) : rNeU K x y H Q := .inr ⟨d, e, hx, hy, s1, s2, q⟩
theorem k_in {x : V} {p : Addr} {xs : List V} {b : Bool} (h : SqL K H p xs ∨ SqT K H p xs) (hx : flatV x = true) (ha : xs.all flatV = true) (e : inV x xs = b) (q : Q (.bl b) H) : rIn K false x (.ref p) H Q := ⟨p, xs, rfl, h, hx, ha, by rw [e]; exact q⟩
theorem k_ni {x : V} {p : Addr} {xs : List V} {b : Bool} (h : SqL K H p xs ∨ SqT K H p xs) (hx : flatV x = true) (ha : xs.all flatV = true) (e : inV x xs = b) (q : Q (.bl (!b)) H) : rIn K true x (.ref p) H Q := ⟨p, xs, rfl, h, hx, ha, by rw [e]; exact q⟩
/-- True stands in no list of False -/
theorem k_notIn {p : Addr} {xs : List V} (h : SqL K H p xs) (ha : xs.all flatV = true) (e : inV (.bl true) xs = false) (q : Q (.bl true) H) : rIn K true (.bl true) (.ref p) H Q := k_ni (.inl h) rfl ha e q
/-- tests -/
theorem k_tst {Q : Bool → Hp → Prop} (q : te σ H fun x H' => ∃ k, x = .bl k ∧ Q k H') : tTest te σ H Q := q
theorem k_B {Q : Bool → Hp → Prop} (q : te σ H fun x H' => ∃ k, x = .bl k ∧ Q k H') : tB te σ H Q := q
theorem k_bl {Q : Bool → Prop} {b : Bool} (q : Q b) : ∃ k, V.bl b = .bl k ∧ Q k := ⟨b, rfl, q⟩
theorem k_and {Q : Bool → Hp → Prop} (q : tt σ H fun c H1 => if c = true then tu σ H1 Q else Q false H1) : tAnd tt tu σ H Q := q
theorem k_or {Q : Bool → Hp → Prop} (q : tt σ H fun c H1 => if c = true then Q true H1 else tu σ H1 Q) : tOr tt tu σ H Q := q
theorem k_not {Q : Bool → Hp → Prop} (q : tt σ H fun c H1 => Q (!c) H1) : tNot tt σ H Q := q
theorem k_andV (q : ta σ H fun x H1 => ∃ c, x = .bl c ∧ if c = true then tb σ H1 Q else Q (.bl false) H1) : tAndV ta tb σ H Q := q
theorem k_orV (q : ta σ H fun x H1 => ∃ c, x = .bl c ∧ if c = true then Q (.bl true) H1 else tb σ H1 Q) : tOrV ta tb σ H Q := q
theorem k_notV (q : ta σ H fun x H1 => ∃ c, x = .bl c ∧ Q (.bl (!c)) H1) : tNotV ta σ H Q := q
theorem k_ife (q : tt σ H fun c H1 => if c = true then ta σ H1 Q else tb σ H1 Q) : tIf tt ta tb σ H Q := q
theorem k_chain {r r' : R2} (q : ta σ H fun x H1 => tb σ H1 fun y H2 => r x y H2 fun z H3 => ∃ k, z = .bl k ∧ (if k = true then tc σ H3 fun w' H4 => r' y w' H4 Q else Q (.bl false) H3)) : tChain r r' ta tb tc σ H Q := q
theorem k_tru {Q : Bool → Hp → Prop} {x : V} {b : Bool} (h : TruV K x H b) (q : Q b H) : ∃ k, TruV K x H k ∧ Q k H := ⟨b, h, q⟩
/-- a branch -/
theorem k_if {c : Prop} [Decidable c] {A B : Prop} (h1 : c → A) (h2 : ¬ c → B) : if decide c = true then A else B := by
  by_cases h : c
  · rw [if_pos (decide_eq_true h)]
    exact h1 h
  · rw [if_neg (by rw [decide_eq_false h]; decide)]
    exact h2 h
theorem k_ifn {c : Prop} [Decidable c] {A B : Prop} (h1 : ¬ c → A) (h2 : c → B) : if (!decide c) = true then A else B := by
  by_cases h : c
  · rw [if_neg (by rw [decide_eq_true h]; decide)]
    exact h2 h
  · rw [if_pos (by rw [decide_eq_false h]; decide)]
    exact h1 h
theorem k_ifb {b : Bool} {A B : Prop} (h1 : b = true → A) (h2 : b = false → B) : if b = true then A else B := by
  cases b with
  | true => exact h1 rfl
  | false => exact h2 rfl
theorem k_ifnb {b : Bool} {A B : Prop} (h1 : b = false → A) (h2 : b = true → B) : if (!b) = true then A else B := by
  cases b with
  | true => exact h2 rfl
  | false => exact h1 rfl
theorem k_ifnd {c : Prop} [Decidable c] {A B : Prop} (h1 : ¬ c → A) (h2 : c → B) : if (!decide c) = true then A else B := k_ifn h1 h2
theorem k_ifT {A B : Prop} (h : A) : if true = true then A else B := iteT h
theorem k_ifF {A B : Prop} (h : B) : if false = true then A else B := iteF h
theorem k_ifnT {A B : Prop} (h : B) : if (!true) = true then A else B := iteF h
theorem k_ifnF {A B : Prop} (h : A) : if (!false) = true then A else B := iteT h
/-- calls, arguments, displays -/
theorem k_cb {r : List V → Hp → VK → Prop} {t : TA} (q : t σ H fun vs H1 => r vs H1 Q) : tCB r t σ H Q := q
theorem k_cons {t : TA} {Q : List V → Hp → Prop} (q : ta σ H fun x H1 => t σ H1 fun xs H2 => Q (x :: xs) H2) : tCons ta t σ H Q := q
theorem k_nil {Q : List V → Hp → Prop} (q : Q [] H) : tNil σ H Q := q
theorem k_callS {sp : Sp} {W : WX} {t : TA} (q : t σ H fun vs H1 => sp vs H1 Q (WE W σ)) : tCallS sp (WE W) t σ H Q := q
theorem k_call {sp : Sp} {t : TA} {E : XK} (q : t σ H fun vs H1 => sp vs H1 Q E) : tCall sp [] E t σ H Q := by
  show t σ H fun vs H1 => sp (vs ++ []) H1 Q E
  simp only [List.append_nil]
  exact q
def rTupX (xs : List V) (H : Hp) (Q : VK) : Prop := xs.length ≤ sizeLine ∧ ∀ p, H p = none → Q (.ref p) (upd H p (.tup xs))
def rLstX (xs : List V) (H : Hp) (Q : VK) : Prop := xs.length ≤ sizeLine ∧ ∀ p, H p = none → Q (.ref p) (upd H p (.lst xs))
theorem k_tupx {xs : List V} (q : ∀ p H2, H p = none → Same H H2 → H2 p = some (.tup xs) → Q (.ref p) H2) (c : xs.length ≤ sizeLine) : rTupX xs H Q := ⟨c, fun p hp => q p _ hp (same_new hp) upd_same⟩
theorem k_lstx {xs : List V} (q : ∀ p H2, H p = none → Same H H2 → H2 p = some (.lst xs) → Q (.ref p) H2) (c : xs.length ≤ sizeLine) : rLstX xs H Q := ⟨c, fun p hp => q p _ hp (same_new hp) upd_same⟩
theorem k_tup0 {t : TA} (q : t σ H fun xs H1 => rTupX xs H1 Q) : tTup t σ H Q := q
theorem k_lst0 {t : TA} (q : t σ H fun xs H1 => rLstX xs H1 Q) : tLst t σ H Q := q
/-- subscripts -/
theorem k_ixL {p : Addr} {xs : List V} {i : Int} (h : SqL K H p xs) (ha : atI xs i = some v) (q : Q v H) : rIx K (.ref p) (.int i) H Q := .inl ⟨p, xs, i, v, rfl, rfl, h, ha, q⟩
theorem k_ixT {p : Addr} {xs : List V} {i : Int} (h : SqT K H p xs) (ha : atI xs i = some v) (q : Q v H) : rIx K (.ref p) (.int i) H Q := .inr (.inl ⟨p, xs, i, v, rfl, rfl, h, ha, q⟩)
/-! statements -/
variable {D : Ends} {t u : TS} {g : TG}
theorem k_seq (q : t { D with nx := u D } σ H) : tSeq t u D σ H := q
theorem k_asg  (q : te σ H fun x H1 => g x σ H1 D.nx) : tAsg te g D σ H := q
theorem k_gn {Q : L2.St → Hp → Prop} (q : Q (σ.set i (some v)) H) : gName i v σ H Q := q
theorem k_gtup {a : Addr} {xs : List V} {n : Nat} {t : TGs} {Q : L2.St → Hp → Prop} (h : SqT K H a xs) (hl : xs.length = n) (q : t xs σ H Q) : gTup K n t (.ref a) σ H Q := ⟨a, xs, rfl, h, hl, q⟩
theorem k_gcons {t : TG} {u : TGs} {r : List V} {Q : L2.St → Hp → Prop} (q : t v σ H fun σ' H' => u r σ' H' Q) : gCons t u (v :: r) σ H Q := ⟨v, r, rfl, q⟩
theorem k_gnil {Q : L2.St → Hp → Prop} (q : Q σ H) : gNil [] σ H Q := ⟨rfl, q⟩
theorem k_drop (q : te σ H fun _ H1 => D.nx σ H1) : tDrop te D σ H := q
theorem k_ret (q : te σ H D.rt) : tRet te D σ H := q
theorem k_ifs (q : tt σ H fun c H1 => if c = true then t D σ H1 else u D σ H1) : tIfS tt t u D σ H := q
theorem k_next (q : D.nx σ H) : tNext D σ H := q
theorem k_par {ta : TA} (q : ta σ H fun vs H1 => ∃ v w, vs = [v, w] ∧ D.nx ((σ.set i (some v)).set j (some w)) H1) : tPar i j ta D σ H := q
theorem k_two {v w : V} {P : V → V → Prop} (q : P v w) : ∃ a b, [v, w] = [a, b] ∧ P a b := ⟨v, w, rfl, q⟩
theorem k_app {l : Addr} {xs : List V} {y : V} (h : H l = some (.lst xs)) (q : ∀ H', But l H H' → H' l = some (.lst (xs ++ [y])) → Q .non H') (c : xs.length < sizeLine) : tyV K "list" (.ref l) H ∧ rAppend (.ref l) [y] H Q :=
  ⟨.inl ⟨rfl, _, SqL.of h⟩, l, xs, y, rfl, rfl, h, c, q _ But.upd upd_same⟩
end
/-! ### the same, the written part by its name -/
section
variable {X : Cx} {K : PySem.W.Frag}
theorem op_addK (h : X.K = K) : OpR X (binaryOp .Add) (rAddU K) := h ▸ op_addU
theorem op_mulK (h : X.K = K) : OpR X (binaryOp .Mult) (rMulU K) := h ▸ op_mulU
theorem op_eqK {k : Nat} (h : X.K = K) (hr : Room k X.A) : OpR X (compareOp .Eq) (rEqU K) := h ▸ op_eqU hr
theorem op_neK {k : Nat} (h : X.K = K) (hr : Room k X.A) : OpR X (compareOp .NotEq) (rNeU K) := h ▸ op_neU hr
theorem op_inK (h : X.K = K) : OpR X (compareOp .In) (rIn K false) := h ▸ op_in_seq
theorem op_niK (h : X.K = K) : OpR X (compareOp .NotIn) (rIn K true) := h ▸ op_notIn_seq
def rSlU (K : PySem.W.Frag) : V → Option Int → Option Int → Hp → VK → Prop := fun x lo hi H Q => rSlL K x lo hi H Q ∨ rSlS x lo hi H Q ∨ rSlA K x lo hi H Q
theorem sl_U {X : Cx} : SlR X (rSlU X.K) := sl_list.or (sl_str.or sl_tupA)
theorem sl_K (h : X.K = K) : SlR X (rSlU K) := h ▸ sl_U
theorem ix_K (h : X.K = K) : IxR X (rIx K) := h ▸ ix_seq
end
section
variable {σ : L2.St} {H : Hp} {Q : VK} {te : TE} {K : PySem.W.Frag}
/-! slices, an empty dict -/
theorem k_sl {r : V → Option Int → Option Int → Hp → VK → Prop} {tl th : TO} (q : te σ H fun x H1 => tl σ H1 fun lo H2 => th σ H2 fun hi H3 => r x lo hi H3 Q) : tSl r te tl th σ H Q := q
theorem k_part {Q : Option Int → Hp → Prop} (q : te σ H fun x H1 => ∃ i, x = .int i ∧ Q (some i) H1) : tPart te σ H Q := q
theorem k_noPart {Q : Option Int → Hp → Prop} (q : Q none H) : tNoPart σ H Q := q
theorem k_int {a : Int} {Q : Int → Prop} (q : Q a) : ∃ i, V.int a = .int i ∧ Q i := ⟨a, rfl, q⟩
theorem k_slL {a : Addr} {xs : List V} {lo hi : Option Int} (h : SqL K H a xs) (q : ∀ p H2, H p = none → Same H H2 → H2 p = some (.lst (cutV xs lo hi)) → Q (.ref p) H2) : rSlU K (.ref a) lo hi H Q := .inl ⟨a, xs, rfl, h, fun p hp => q p _ hp (same_new hp) upd_same⟩
theorem k_slS {z : Str} {lo hi : Option Int} (q : Q (.str (cutS z lo hi)) H) (c : z.length ≤ sizeLine) : rSlU K (.str z) lo hi H Q := .inr (.inl ⟨z, rfl, c, q⟩)
theorem k_slT {a : Addr} {xs : List V} {lo hi : Option Int} (h : SqT K H a xs) (c : ¬ (HT.sIx xs.length 0 lo = 0 ∧ HT.sIx xs.length xs.length hi = xs.length)) (q : ∀ p H2, H p = none → Same H H2 → H2 p = some (.tup (cutV xs lo hi)) → Q (.ref p) H2) : rSlU K (.ref a) lo hi H Q :=
  .inr (.inr ⟨a, xs, rfl, h, fun z => absurd z c, fun _ p hp => q p _ hp (same_new hp) upd_same⟩)
def rDictX (H : Hp) (Q : VK) : Prop := ∀ p, H p = none → Q (.ref p) (upd H p (.dK []))
theorem k_dict0 (q : rDictX H Q) : tDNewK σ H Q := q
theorem k_dict1 (q : ∀ p H2, H p = none → Same H H2 → H2 p = some (.dK []) → Q (.ref p) H2) : rDictX H Q := fun p hp => q p _ hp (same_new hp) upd_same
end
/-! ### built-ins by name -/
section
variable {X : Cx}
def rLenU (K : PySem.W.Frag) : List V → Hp → VK → Prop := fun xs H Q => ∃ x n, xs = [x] ∧ LenV K x H n ∧ Q (.int n) H
theorem call_lenU : CallR X (.builtin "len") (rLenU X.K) := call_len
def rAbsU : List V → Hp → VK → Prop := fun xs H Q => ∃ i, xs = [.int i] ∧ Q (.int (if i < 0 then -i else i)) H
theorem call_absU : CallR X (.builtin "abs") rAbsU := call_abs
def rMaxU : List V → Hp → VK → Prop := fun xs H Q => ∃ i j, xs = [.int i, .int j] ∧ Q (.int (if j > i then j else i)) H
theorem call_maxU (hc : X.calm = true) : CallR X (.builtin "max") rMaxU := call_max2 hc
def rMinU : List V → Hp → VK → Prop := fun xs H Q => ∃ i j, xs = [.int i, .int j] ∧ Q (.int (if j < i then j else i)) H
theorem call_minU (hc : X.calm = true) : CallR X (.builtin "min") rMinU := call_min2 hc
def rIntU : List V → Hp → VK → Prop := fun xs H Q => (∃ i, xs = [.int i] ∧ Q (.int i) H) ∨ ∃ k, xs = [.bl k] ∧ Q (.int (if k then 1 else 0)) H
theorem call_intU : CallR X (.type "int") rIntU := call_int1
def rBoolU : List V → Hp → VK → Prop := fun xs H Q => (∃ i, xs = [.int i] ∧ Q (.bl (i != 0)) H) ∨ ∃ k, xs = [.bl k] ∧ Q (.bl k) H
theorem call_boolU : CallR X (.type "bool") rBoolU := call_bool1
def rStrU : List V → Hp → VK → Prop := fun xs H Q => ∃ i, xs = [.int i] ∧ i.natAbs.log2 < 1920 ∧ Q (.str (toString i)) H
theorem call_strU : CallR X (.type "str") rStrU := call_str_int
def rTupU (K : PySem.W.Frag) : List V → Hp → VK → Prop := fun xs H Q => ∃ p ys, xs = [.ref p] ∧ ((SqL K H p ys ∧ ∀ l, H l = none → Q (.ref l) (upd H l (.tup ys))) ∨ (SqT K H p ys ∧ Q (.ref p) H))
theorem call_tupU : CallR X (.type "tuple") (rTupU X.K) := call_tuple_of
def rLstU (K : PySem.W.Frag) : List V → Hp → VK → Prop := fun xs H Q => ∃ p ys, xs = [.ref p] ∧ (SqL K H p ys ∨ SqT K H p ys) ∧ ∀ l, H l = none → Q (.ref l) (upd H l (.lst ys))
theorem call_lstU : CallR X (.type "list") (rLstU X.K) := call_list_of
def rIsN : R2 := fun x y H Q => y = .non ∧ Q (.bl (decide (x = .non))) H
def rNotN : R2 := fun x y H Q => y = .non ∧ Q (.bl (!decide (x = .non))) H
theorem op_isNU : OpR X (compareOp .Is) rIsN := op_isN
theorem op_notNU : OpR X (compareOp .IsNot) rNotN := op_notN
end
section
variable {σ : L2.St} {H : Hp} {Q : VK} {K : PySem.W.Frag}
theorem k_lenL {p : Addr} {xs : List V} (q : Q (.int xs.length) H) (h : SqL K H p xs) : rLenU K [.ref p] H Q := ⟨.ref p, xs.length, rfl, .inl ⟨xs, h, rfl⟩, q⟩
theorem k_lenT {p : Addr} {xs : List V} (q : Q (.int xs.length) H) (h : SqT K H p xs) : rLenU K [.ref p] H Q := ⟨.ref p, xs.length, rfl, .inr ⟨xs, h, rfl⟩, q⟩
theorem k_lenS {x : Str} (q : Q (.int x.length) H) (h : x.length ≤ sizeLine) : rLenU K [.str x] H Q := ⟨.str x, x.length, rfl, ⟨h, rfl⟩, q⟩
theorem k_abs {a : Int} (q : Q (.int (a.natAbs : Int)) H) : rAbsU [.int a] H Q := ⟨a, rfl, by
  have e : (if a < 0 then -a else a) = (a.natAbs : Int) := by split <;> omega
  rw [e]
  exact q⟩
theorem k_max {a b : Int} (q : Q (.int (max a b)) H) : rMaxU [.int a, .int b] H Q := ⟨a, b, rfl, by
  have e : (if b > a then b else a) = max a b := by split <;> omega
  rw [e]
  exact q⟩
theorem k_min {a b : Int} (q : Q (.int (min a b)) H) : rMinU [.int a, .int b] H Q := ⟨a, b, rfl, by
  have e : (if b < a then b else a) = min a b := by split <;> omega
  rw [e]
  exact q⟩
theorem k_intI {a : Int} (q : Q (.int a) H) : rIntU [.int a] H Q := .inl ⟨a, rfl, q⟩
theorem k_intB {b : Bool} (q : Q (.int (if b then 1 else 0)) H) : rIntU [.bl b] H Q := .inr ⟨b, rfl, q⟩
theorem k_boolI {a : Int} (q : Q (.bl (a != 0)) H) : rBoolU [.int a] H Q := .inl ⟨a, rfl, q⟩
theorem k_boolB {b : Bool} (q : Q (.bl b) H) : rBoolU [.bl b] H Q := .inr ⟨b, rfl, q⟩
theorem k_strI {a : Int} (q : Q (.str (toString a)) H) (c : a.natAbs.log2 < 1920) : rStrU [.int a] H Q := ⟨a, rfl, c, q⟩
theorem k_tupL {p : Addr} {xs : List V} (h : SqL K H p xs) (q : ∀ l H', H l = none → Same H H' → H' l = some (.tup xs) → Q (.ref l) H') : rTupU K [.ref p] H Q := ⟨p, xs, rfl, .inl ⟨h, fun l hl => q l _ hl (same_new hl) upd_same⟩⟩
theorem k_tupT {p : Addr} {xs : List V} (h : SqT K H p xs) (q : Q (.ref p) H) : rTupU K [.ref p] H Q := ⟨p, xs, rfl, .inr ⟨h, q⟩⟩
theorem k_lstL {p : Addr} {xs : List V} (h : SqL K H p xs) (q : ∀ l H', H l = none → Same H H' → H' l = some (.lst xs) → Q (.ref l) H') : rLstU K [.ref p] H Q := ⟨p, xs, rfl, .inl h, fun l hl => q l _ hl (same_new hl) upd_same⟩
theorem k_lstT {p : Addr} {xs : List V} (h : SqT K H p xs) (q : ∀ l H', H l = none → Same H H' → H' l = some (.lst xs) → Q (.ref l) H') : rLstU K [.ref p] H Q := ⟨p, xs, rfl, .inr h, fun l hl => q l _ hl (same_new hl) upd_same⟩
theorem k_isN {x : V} (q : Q (.bl (decide (x = .non))) H) : rIsN x .non H Q := ⟨rfl, q⟩
theorem k_notN {x : V} (q : Q (.bl (!decide (x = .non))) H) : rNotN x .non H Q := ⟨rfl, q⟩
theorem k_powc {a b c : Int} (e : a ^ b.toNat = c) (hc : CPow a b) (q : Q (.int c) H) : rI CPow (fun i j => .int (i ^ j.toNat)) (.int a) (.int b) H Q := ⟨a, b, rfl, rfl, hc, by show Q (.int (a ^ b.toNat)) H; rw [e]; exact q⟩
theorem cpow {a b : Int} (h : 0 ≤ b) (h1 : b ≤ 1000000) (h2 : a.natAbs < 2 ^ 64) : CPow a b := ⟨h, h1, h2⟩
theorem k_mod {a b : Int} (hb : 0 < b) (q : Q (.int (a % b)) H) : rI (fun _ j => j ≠ 0) (fun i j => .int (i.fmod j)) (.int a) (.int b) H Q := ⟨a, b, rfl, rfl, by omega, by show Q (.int (a.fmod b)) H; rw [Int.fmod_eq_emod_of_nonneg a (by omega)]; exact q⟩
theorem k_log {b : Int} (h : b.natAbs < 2 ^ 64) : b.natAbs.log2 < 9000 := Nat.lt_of_lt_of_le (PySem.Flt.log2_lt_of (by decide) h) (by decide)
theorem k_div {a b : Int} (hb : 0 < b) (hl : b.natAbs.log2 < 9000) (q : Q (.int (a / b)) H) : rI CDivG (fun i j => .int (i.fdiv j)) (.int a) (.int b) H Q := ⟨a, b, rfl, rfl, ⟨by omega, PyProof.noPylong_of_log2 hl⟩, by show Q (.int (a.fdiv b)) H; rw [Int.fdiv_eq_ediv_of_nonneg a (by omega)]; exact q⟩
theorem k_mulB {a b : Int} {m n : Nat} (ha : a.natAbs < 2 ^ m) (hb : b.natAbs < 2 ^ n) (h : m + n ≤ 134217728) (q : Q (.int (a * b)) H) : rMulU K (.int a) (.int b) H Q := k_mulI q (mulx_ok ha hb h)
theorem k_pop {l : Addr} {xs : List V} {y : V} (h : H l = some (.lst (xs ++ [y]))) (q : ∀ H', But l H H' → H' l = some (.lst xs) → Q y H') : tyV K "list" (.ref l) H ∧ rPop (.ref l) [] H Q :=
  ⟨.inl ⟨rfl, _, SqL.of h⟩, l, _, y, rfl, rfl, h, by simp, q _ But.upd (by rw [List.dropLast_concat]; exact upd_same)⟩
theorem k_bm0 {T : String} {r : V → List V → Hp → VK → Prop} {te : TE} (q : te σ H fun x H1 => tyV K T x H1 ∧ r x [] H1 Q) : tBM0 K T r te σ H Q := q
theorem k_bm {T : String} {r : V → List V → Hp → VK → Prop} {te : TE} {t : TA} (q : te σ H fun x H1 => tyV K T x H1 ∧ t σ H1 fun xs H2 => r x xs H2 Q) : tBM K T r te t σ H Q := q
theorem k_app0 {l : Addr} {xs : List V} (h : H l = some (.lst xs)) : tyV K "list" (.ref l) H := .inl ⟨rfl, _, SqL.of h⟩
theorem k_app1 {l : Addr} {xs : List V} {y : V} (h : H l = some (.lst xs)) (c : xs.length < sizeLine) (q : ∀ H', But l H H' → H' l = some (.lst (xs ++ [y])) → Q .non H') : rAppend (.ref l) [y] H Q := ⟨l, xs, y, rfl, rfl, h, c, q _ But.upd upd_same⟩
def rRevX (K : PySem.W.Frag) (x : V) (H : Hp) (Q : VK) : Prop := ∃ a xs, x = .ref a ∧ SqL K H a xs ∧ ∀ p, H p = none → Q (.ref p) (upd H p (.lst xs.reverse))
theorem k_rev {te : TE} (q : te σ H fun x H1 => rRevX K x H1 Q) : tRevL K te σ H Q := q
theorem k_rev1 {p : Addr} {xs : List V} (h : SqL K H p xs) (q : ∀ l H', H l = none → Same H H' → H' l = some (.lst xs.reverse) → Q (.ref l) H') : rRevX K (.ref p) H Q := ⟨p, xs, rfl, h, fun l hl => q l _ hl (same_new hl) upd_same⟩
/-- isinstance -/
theorem k_isi {x c : V} {t u : Value} {b : Bool} (hc : ClsV c u) (ht : TyX K H x t) (hk : PySem.W.kitOne K t u = some b) (q : Q (.bl b) H) : rIsi K [x, c] H Q := ⟨x, c, t, u, b, rfl, hc, ht, hk, q⟩
theorem k_cut {t u : TS} {D : Ends} (M : L2.St → Hp → Prop) (h : t { D with nx := M } σ H) (k : ∀ σ' H', M σ' H' → u D σ' H') : C8.tCut t u D σ H := ⟨M, h, k⟩
theorem k_cut0 {t u : TS} {D : Ends} (h : t { D with nx := u D } σ H) : C8.tCut t u D σ H := ⟨_, h, fun _ _ q => q⟩
/-! loops -/
variable {D : Ends} {g : TG} {tb : TS} {j : Nat} {wi : TI}
def LoopI (J : It) (g : TG) (tb : TS) (D : Ends) (σ : L2.St) (H : Hp) : Prop := ∃ W : Nat → Nat → L2.St → Hp → Prop, (∃ m, W 0 m σ H) ∧ ∀ i m σ H, W i m σ H →
  (J.stop i H ∧ D.nx σ H) ∨ (J.go i H ∧ ∃ N : L2.St → Hp → Prop, (∀ σ' H', N σ' H' → ∃ m', m' < m ∧ W (i + 1) m' σ' H') ∧ ∀ x H', J.yld i H x H' → g x σ H' fun σ2 H2 => tb { D with nx := N, ct := N, bk := D.nx } σ2 H2)
theorem k_for (q : wi σ H fun J H1 => LoopI J g tb D σ H1) : tFor wi g tb D σ H := q
def rRng1 (vs : List V) (H : Hp) (R : It → Hp → Prop) : Prop := ∃ j : Int, vs = [.int j] ∧ -(2 ^ 62) ≤ j ∧ j < 2 ^ 62 ∧ R (Itr 0 j.toNat) H
def rRng2 (vs : List V) (H : Hp) (R : It → Hp → Prop) : Prop := ∃ i j : Int, vs = [.int i, .int j] ∧ (-(2 ^ 62) ≤ i ∧ i < 2 ^ 62 ∧ -(2 ^ 62) ≤ j ∧ j < 2 ^ 62) ∧ R (Itr i (j - i).toNat) H
def rItL (K : PySem.W.Frag) (x : V) (H : Hp) (R : It → Hp → Prop) : Prop := ∃ a, x = .ref a ∧ (∃ xs, SqL K H a xs) ∧ R (Itl K a) H
def rItT (K : PySem.W.Frag) (x : V) (H : Hp) (R : It → Hp → Prop) : Prop := ∃ a, x = .ref a ∧ (∃ xs, SqT K H a xs) ∧ R (Itt K a) H
theorem k_iRng1 {ta : TA} {R : It → Hp → Prop} (q : ta σ H fun vs H1 => rRng1 vs H1 R) : iRng1 ta σ H R := q
theorem k_iRng2 {ta : TA} {R : It → Hp → Prop} (q : ta σ H fun vs H1 => rRng2 vs H1 R) : iRng2 ta σ H R := q
theorem k_iList {tl : TE} {R : It → Hp → Prop} (q : tl σ H fun x H1 => rItL K x H1 R) : iList K tl σ H R := q
theorem k_iSeqU {tl : TE} {R : It → Hp → Prop} (q : tl σ H fun x H1 => rItU K x H1 R) : iSeqU K tl σ H R := q
theorem k_itUL {a : Addr} {xs : List V} {R : It → Hp → Prop} (h : SqL K H a xs) (q : R (Itl K a) H) : rItU K (.ref a) H R := ⟨a, rfl, .inl ⟨⟨xs, h⟩, q⟩⟩
theorem k_itUT {a : Addr} {xs : List V} {R : It → Hp → Prop} (h : SqT K H a xs) (q : R (Itt K a) H) : rItU K (.ref a) H R := ⟨a, rfl, .inr ⟨⟨xs, h⟩, q⟩⟩
theorem k_iTup {tl : TE} {R : It → Hp → Prop} (q : tl σ H fun x H1 => rItT K x H1 R) : iTup K tl σ H R := q
theorem k_rng1 {n : Int} {R : It → Hp → Prop} (c : -(2 ^ 62) ≤ n ∧ n < 2 ^ 62) (q : R (Itr 0 n.toNat) H) : rRng1 [.int n] H R := ⟨n, rfl, c.1, c.2, q⟩
theorem k_rng2 {m n : Int} {R : It → Hp → Prop} (c : -(2 ^ 62) ≤ m ∧ m < 2 ^ 62 ∧ -(2 ^ 62) ≤ n ∧ n < 2 ^ 62) (q : R (Itr m (n - m).toNat) H) : rRng2 [.int m, .int n] H R := ⟨m, n, rfl, c, q⟩
theorem k_itL {a : Addr} {xs : List V} {R : It → Hp → Prop} (h : SqL K H a xs) (q : R (Itl K a) H) : rItL K (.ref a) H R := ⟨a, rfl, ⟨xs, h⟩, q⟩
theorem k_itT {a : Addr} {xs : List V} {R : It → Hp → Prop} (h : SqT K H a xs) (q : R (Itt K a) H) : rItT K (.ref a) H R := ⟨a, rfl, ⟨xs, h⟩, q⟩
/-- for x in range(..) -/
theorem k_loopR {n : Nat} (P : Nat → L2.St → Hp → Prop) (h0 : P 0 σ H) (hs : ∀ (i : Nat) σ H, i < n → P i σ H → tb { D with nx := P (i + 1), ct := P (i + 1), bk := D.nx } (σ.set j (some (.int (i : Int)))) H)
    (hd : ∀ σ H, P n σ H → D.nx σ H) : LoopI (Itr 0 n) (gName j) tb D σ H := for_range P h0 (fun i σ H hi p => by
      show tb _ (σ.set j (some (.int (0 + (i : Int))))) H
      rw [Int.zero_add]
      exact hs i σ H hi p) hd
theorem k_loopR2 {lo : Int} {n : Nat} (P : Nat → L2.St → Hp → Prop) (h0 : P 0 σ H) (hs : ∀ (i : Nat) σ H, i < n → P i σ H → tb { D with nx := P (i + 1), ct := P (i + 1), bk := D.nx } (σ.set j (some (.int (lo + (i : Int))))) H)
    (hd : ∀ σ H, P n σ H → D.nx σ H) : LoopI (Itr lo n) (gName j) tb D σ H := for_range P h0 hs hd
theorem k_loopL {a : Addr} {xs : List V} (P : Nat → L2.St → Hp → Prop) (h0 : P 0 σ H) (hl : ∀ i σ H, i ≤ xs.length → P i σ H → SqL K H a xs)
    (hs : ∀ (i : Nat) x σ H, xs[i]? = some x → P i σ H → g x σ H fun σ2 H2 => tb { D with nx := P (i + 1), ct := P (i + 1), bk := D.nx } σ2 H2) (hd : ∀ σ H, P xs.length σ H → D.nx σ H) : LoopI (Itl K a) g tb D σ H := for_list P h0 hl hs hd
theorem k_loopT {a : Addr} {xs : List V} (P : Nat → L2.St → Hp → Prop) (h0 : P 0 σ H) (hl : ∀ i σ H, i ≤ xs.length → P i σ H → SqT K H a xs)
    (hs : ∀ (i : Nat) x σ H, xs[i]? = some x → P i σ H → g x σ H fun σ2 H2 => tb { D with nx := P (i + 1), ct := P (i + 1), bk := D.nx } σ2 H2) (hd : ∀ σ H, P xs.length σ H → D.nx σ H) : LoopI (Itt K a) g tb D σ H := for_tup P h0 hl hs hd
theorem k_loopU {a : Addr} {xs : List V} (hS : SqL K H a xs ∨ SqT K H a xs) (P : Nat → L2.St → Hp → Prop) (h0 : P 0 σ H) (hl : ∀ i σ' H', P i σ' H' → Same H H')
    (hs : ∀ (i : Nat) x σ H, xs[i]? = some x → P i σ H → g x σ H fun σ2 H2 => tb { D with nx := P (i + 1), ct := P (i + 1), bk := D.nx } σ2 H2) (hd : ∀ σ H, P xs.length σ H → D.nx σ H) : rItU K (.ref a) H fun J H1 => LoopI J g tb D σ H1 := by
  rcases hS with hS | hS
  · exact k_itUL hS (k_loopL P h0 (fun i σ' H' _ p => seqL_same (hl i σ' H' p) hS) hs hd)
  · exact k_itUT hS (k_loopT P h0 (fun i σ' H' _ p => seqT_same (hl i σ' H' p) hS) hs hd)
/-- while: P with a number that falls -/
def Less (P : Nat → L2.St → Hp → Prop) (m : Nat) : L2.St → Hp → Prop := fun σ H => ∃ m', m' < m ∧ P m' σ H
theorem k_while {tc : TT} (P : Nat → L2.St → Hp → Prop) (m : Nat) (h0 : P m σ H)
    (hs : ∀ m σ H, P m σ H → tc σ H fun b H1 => if b = true then ∃ N : L2.St → Hp → Prop, (∀ σ' H', N σ' H' → ∃ m', m' < m ∧ P m' σ' H') ∧ tb { D with nx := N, ct := N, bk := D.nx } σ H1 else D.nx σ H1) : tWhile tc tb D σ H := ⟨P, ⟨m, h0⟩, hs⟩
theorem k_wN {P : Nat → L2.St → Hp → Prop} {m : Nat} (q : tb { D with nx := Less P m, ct := Less P m, bk := D.nx } σ H) : ∃ N : L2.St → Hp → Prop, (∀ σ' H', N σ' H' → ∃ m', m' < m ∧ P m' σ' H') ∧ tb { D with nx := N, ct := N, bk := D.nx } σ H := ⟨_, fun _ _ h => h, q⟩
end
/-! ### list comprehensions -/
section
variable {σ : L2.St} {H : Hp} {Q : VK} {K : PySem.W.Frag} {g : TG} {tt : TT} {te : TE} {vs : List Nat} {wi : TI}
def LcB (D : Addr) (g : TG) (tt : TT) (te : TE) (vs : List Nat) (σ : L2.St) (x : V) (H : Hp) (N : Hp → Prop) : Prop := g x (wipe σ vs) H fun σ2 H2 => wipe σ2 vs = wipe σ vs ∧ tt σ2 H2 fun b H3 =>
  if b = true then te σ2 H3 fun y H4 => ∃ acc, H4 D = some (.lst acc) ∧ acc.length < sizeLine ∧ N (upd H4 D (.lst (acc ++ [y]))) else N H3
def LcX (J : It) (g : TG) (tt : TT) (te : TE) (vs : List Nat) (σ : L2.St) (H : Hp) (Q : VK) : Prop := ∀ D, H D = none → ∃ W : Nat → Nat → Hp → Prop, (∃ m, W 0 m (upd H D (.lst []))) ∧ ∀ i m H, W i m H →
  (J.stop i H ∧ Q (.ref D) H) ∨ (J.go i H ∧ ∃ Nx : Hp → Prop, (∀ H', Nx H' → ∃ m', m' < m ∧ W (i + 1) m' H') ∧ ∀ x H', J.yld i H x H' → LcB D g tt te vs σ x H' Nx)
theorem k_lc (q : wi σ H fun J H1 => LcX J g tt te vs σ H1 Q) : tLc wi g tt te vs σ H Q := q
/-- one turn: the element kept, or not -/
theorem k_lcY {y : V} {D : Addr} {acc : List V} {P : Hp → Prop} (h : H D = some (.lst acc)) (hz : acc.length < sizeLine) (q : ∀ H', But D H H' → H' D = some (.lst (acc ++ [y])) → P H') : ∃ acc, H D = some (.lst acc) ∧ acc.length < sizeLine ∧ P (upd H D (.lst (acc ++ [y]))) :=
  ⟨acc, h, hz, q _ But.upd upd_same⟩
theorem k_lcU {a : Addr} {xs : List V} (hS : SqL K H a xs ∨ SqT K H a xs) (P : Addr → Nat → List V → Hp → Prop) (h0 : ∀ D H', H D = none → Same H H' → H' D = some (.lst []) → P D 0 [] H') (hl : ∀ D i ys H', H D = none → P D i ys H' → Same H H')
    (hs : ∀ D (i : Nat) x ys H', H D = none → xs[i]? = some x → P D i ys H' → H' D = some (.lst ys) → LcB D g tt te vs σ x H' fun H'' => ∃ zs, P D (i + 1) zs H'' ∧ H'' D = some (.lst zs))
    (hd : ∀ D ys H', H D = none → P D xs.length ys H' → H' D = some (.lst ys) → Q (.ref D) H') : rItU K (.ref a) H fun J H1 => LcX J g tt te vs σ H1 Q := by
  rcases hS with hS | hS
  · exact k_itUL hS fun D hD => lc_list (fun i H' => ∃ ys, P D i ys H' ∧ H' D = some (.lst ys)) ⟨[], h0 D _ hD (same_new hD) upd_same, upd_same⟩ (fun i H' _ ⟨ys, p, _⟩ => seqL_same (hl D i ys H' hD p) hS)
      (fun i x H' hx ⟨ys, p, e⟩ => hs D i x ys H' hD hx p e) fun H' ⟨ys, p, e⟩ => hd D ys H' hD p e
  · exact k_itUT hS fun D hD => lc_tup (fun i H' => ∃ ys, P D i ys H' ∧ H' D = some (.lst ys)) ⟨[], h0 D _ hD (same_new hD) upd_same, upd_same⟩ (fun i H' _ ⟨ys, p, _⟩ => seqT_same (hl D i ys H' hD p) hS)
      (fun i x H' hx ⟨ys, p, e⟩ => hs D i x ys H' hD hx p e) fun H' ⟨ys, p, e⟩ => hd D ys H' hD p e
theorem k_lcR {lo : Int} {n : Nat} (P : Addr → Nat → List V → Hp → Prop) (h0 : ∀ D H', H D = none → Same H H' → H' D = some (.lst []) → P D 0 [] H')
    (hs : ∀ D (i : Nat) ys H', H D = none → i < n → P D i ys H' → H' D = some (.lst ys) → LcB D g tt te vs σ (.int (lo + (i : Int))) H' fun H'' => ∃ zs, P D (i + 1) zs H'' ∧ H'' D = some (.lst zs))
    (hd : ∀ D ys H', H D = none → P D n ys H' → H' D = some (.lst ys) → Q (.ref D) H') : LcX (Itr lo n) g tt te vs σ H Q := fun D hD =>
  lc_range (fun i H' => ∃ ys, P D i ys H' ∧ H' D = some (.lst ys)) ⟨[], h0 D _ hD (same_new hD) upd_same, upd_same⟩ (fun i H' hi ⟨ys, p, e⟩ => hs D i ys H' hD hi p e) fun H' ⟨ys, p, e⟩ => hd D ys H' hD p e
/-- a turn begins: the target a name -/
theorem k_lcB {D : Addr} {j : Nat} {x : V} {N : Hp → Prop} (hw : wipe ((wipe σ vs).set j (some x)) vs = wipe σ vs) (q : tt ((wipe σ vs).set j (some x)) H fun b H3 => if b = true then te ((wipe σ vs).set j (some x)) H3 fun y H4 => ∃ acc, H4 D = some (.lst acc) ∧ acc.length < sizeLine ∧ N (upd H4 D (.lst (acc ++ [y]))) else N H3) :
    LcB D (gName j) tt te vs σ x H N := ⟨hw, q⟩
/-- no test -/
theorem k_yes {Q : Bool → Hp → Prop} (q : Q true H) : tYes σ H Q := q
def rRgX (a b : Int) (H : Hp) (Q : VK) : Prop := RgOk a b ∧ ∀ q, H q = none → Q (.ref q) (upd H q (.lst (rgV a b)))
theorem k_listRg {tr : L2.St → Hp → (Int → Int → Hp → Prop) → Prop} (q : tr σ H fun a b H1 => rRgX a b H1 Q) : tLstRg tr σ H Q := q
theorem k_rg1 {ta : TE} {R : Int → Int → Hp → Prop} (q : ta σ H fun x H1 => ∃ n, x = .int n ∧ R 0 n H1) : tRg1 ta σ H R := q
theorem k_rgX {a b : Int} (c : 0 ≤ a ∧ a ≤ 1000000 ∧ 0 ≤ b ∧ b ≤ 1000000) (q : ∀ l H', H l = none → Same H H' → H' l = some (.lst (rgV a b)) → Q (.ref l) H') : rRgX a b H Q := ⟨RgOk.of_le (by omega) (by omega) (by omega) (by omega), fun l hl => q l _ hl (same_new hl) upd_same⟩
end
end Gx
open PySem PySem.Spec PyProof.Rows L2 Gx
local macro_rules | `(tactic| walk_at "s1") => `(tactic| first
  | refine k_var rfl ?_ | refine k_c ?_ | refine k_op ?_ | refine k_seq ?_ | refine k_asg ?_ | refine k_gn ?_ | refine k_gcons ?_ | refine k_gnil ?_ | refine k_ifs ?_ | refine k_tst ?_ | refine k_B ?_ | refine k_bl ?_
  | refine k_ret ?_ | refine k_drop ?_ | refine k_next ?_ | refine k_par ?_ | refine k_two ?_ | refine k_for ?_ | refine k_iRng1 ?_ | refine k_iRng2 ?_ | refine k_iList ?_ | refine k_iTup ?_ | refine k_iSeqU ?_
  | refine k_cb ?_ | refine k_cons ?_ | refine k_nil ?_ | refine k_callS ?_ | refine k_call ?_ | refine k_tup0 ?_ | refine k_lst0 ?_ | refine k_bm0 ?_ | refine k_bm ?_
  | refine k_and ?_ | refine k_or ?_ | refine k_not ?_ | refine k_andV ?_ | refine k_orV ?_ | refine k_notV ?_ | refine k_ife ?_ | refine k_chain ?_ | refine k_un ?_ | refine k_rev ?_
  | refine k_I0 ?_ | refine k_addI ?_ | refine k_eqI ?_ | refine k_neI ?_ | refine k_eqT ?_ | refine k_neT ?_ | refine k_eqB ?_ | refine k_neB ?_ | refine k_neg ?_
  | refine k_abs ?_ | refine k_max ?_ | refine k_min ?_ | refine k_intI ?_ | refine k_intB ?_ | refine k_lc ?_ | refine k_yes ?_ | refine k_listRg ?_ | refine k_rg1 ?_ | refine k_sl ?_ | refine k_part ?_ | refine k_noPart ?_ | refine k_int ?_ | refine k_dict0 ?_ | refine k_isN ?_ | refine k_notN ?_
  | refine k_ifT ?_ | refine k_ifF ?_ | refine k_ifnT ?_ | refine k_ifnF ?_)
local macro_rules | `(tactic| walk_at "s2") => `(tactic| first
  | refine k_powc (a := 10) (b := 61) (c := 10000000000000000000000000000000000000000000000000000000000000) (by decide +kernel) (cpow (by decide) (by decide) (by decide)) ?_
  | refine k_powc (a := 10) (b := 60) (c := 1000000000000000000000000000000000000000000000000000000000000) (by decide +kernel) (cpow (by decide) (by decide) (by decide)) ?_
  | refine k_powc (a := 10) (b := 12) (c := 1000000000000) (by decide +kernel) (cpow (by decide) (by decide) (by decide)) ?_
  | refine k_powc (a := 10) (b := 5) (c := 100000) (by decide +kernel) (cpow (by decide) (by decide) (by decide)) ?_
  | refine k_powc (a := 10) (b := 6) (c := 1000000) (by decide +kernel) (cpow (by decide) (by decide) (by decide)) ?_
  | refine k_powc (a := 10) (b := 9) (c := 1000000000) (by decide +kernel) (cpow (by decide) (by decide) (by decide)) ?_
  | refine k_powc (a := 10) (b := 20) (c := 100000000000000000000) (by decide +kernel) (cpow (by decide) (by decide) (by decide)) ?_
  | refine k_powc (a := 10) (b := 50) (c := 100000000000000000000000000000000000000000000000000) (by decide +kernel) (cpow (by decide) (by decide) (by decide)) ?_
  | refine k_powc (a := 10) (b := 58) (c := 10000000000000000000000000000000000000000000000000000000000) (by decide +kernel) (cpow (by decide) (by decide) (by decide)) ?_
  | refine k_mod (by first | decide | omega) ?_
  | refine k_div (by first | decide | omega) (by first | decide +kernel | exact k_log (by omega)) ?_)
local macro_rules | `(tactic| walk_at "go") => `(tactic| repeat (first | with_reducible walk_at "s1" | with_reducible walk_at "s2"))
local macro_rules | `(tactic| walk_at "up") => `(tactic| first | assumption | (refine up_same (by assumption) ?_; walk_at "up") | (refine up_but (by assumption) (by first | assumption | (apply Ne.symm; assumption)) ?_; walk_at "up"))
local macro_rules | `(tactic| walk_at "ut") => `(tactic| first | assumption | exact SqT.of (by assumption) | (refine seqT_same (by assumption) ?_; walk_at "ut"))
local macro_rules | `(tactic| walk_at "ul") => `(tactic| first | assumption | exact SqL.of (by assumption) | (refine seqL_same (by assumption) ?_; walk_at "ul"))
namespace Dk
open PySem PySem.Spec PyProof.Rows L2
theorem at_map {ns : List Int} {i : Int} (h0 : 0 ≤ i) (h1 : i < ns.length) : ∃ z : Int, atI (ns.map V.int) i = some (.int z) := by
  obtain ⟨n, rfl⟩ : ∃ n : Nat, i = (n : Int) := ⟨i.toNat, by omega⟩
  have hl : n < ns.length := by omega
  exact ⟨ns[n], atI_nat (by simp [hl])⟩
theorem dp_all {K : PySem.W.Frag} {H : Hp} : ∀ ns : List Int, DpAll K H (ns.map V.int) (ns.map PyData.int)
  | [] => .nil
  | n :: r => .cons (.int n) (dp_all r)
theorem dp_ints {K : PySem.W.Frag} {H : Hp} {a : Addr} {ns : List Int} (h : SqL K H a (ns.map V.int)) : Dp K H (.ref a) (.list (ns.map PyData.int)) := .lst h (dp_all ns)
theorem shaped_ints (ns : List Int) : SeqAt.shaped (.list (ns.map PyData.int)) = true := by
  have h : ∀ l : List Int, PyData.canLayAll0 (l.map PyData.int) = true ∧ PyData.depthAll (l.map PyData.int) = 0 := fun l => by
    induction l with
    | nil => exact ⟨by simp [PyData.canLayAll0], by simp [PyData.depthAll]⟩
    | cons n r ih => exact ⟨by simp [PyData.canLayAll0, PyData.canLay0, ih.1], by simp [PyData.depthAll, PyData.depth, ih.2]⟩
  obtain ⟨h1, h2⟩ := h ns
  simp [SeqAt.shaped, PyData.canLay0, PyData.depth, h1, h2]
theorem eqv_nil (ns : List Int) : (!PyData.eqv (.list (ns.map PyData.int)) (.list [])) = !ns.isEmpty := by
  cases ns <;> simp [PyData.eqv, PyData.eqvAll]
theorem last (ds : List Int) (h : 0 < ds.length) : ∃ es e, ds = es ++ [e] := ⟨ds.dropLast, ds.getLast (by intro z; rw [z] at h; exact absurd h (by decide)), (List.dropLast_concat_getLast _).symm⟩
theorem last2 (ds : List Int) (h : 1 < ds.length) : ∃ es e2 e1, ds = es ++ [e2, e1] := by
  obtain ⟨fs, e1, rfl⟩ := last ds (by omega)
  obtain ⟨es, e2, rfl⟩ := last fs (by simp at h; omega)
  exact ⟨es, e2, e1, by simp⟩
theorem last3 (ds : List Int) (h : 2 < ds.length) : ∃ es e3 e2 e1, ds = es ++ [e3, e2, e1] := by
  obtain ⟨fs, e1, rfl⟩ := last ds (by omega)
  obtain ⟨es, e3, e2, rfl⟩ := last2 fs (by simp at h; omega)
  exact ⟨es, e3, e2, e1, by simp⟩
theorem sub {P : Int → Prop} {es r : List Int} (h : ∀ d ∈ es ++ r, P d) : ∀ d ∈ es, P d := fun d hd => h d (List.mem_append_left _ hd)
theorem shaped_tints (ns : List Int) : SeqAt.shaped (.tuple (ns.map PyData.int)) = true := by
  have h : ∀ l : List Int, PyData.canLayAll0 (l.map PyData.int) = true ∧ PyData.depthAll (l.map PyData.int) = 0 := fun l => by
    induction l with
    | nil => exact ⟨by simp [PyData.canLayAll0], by simp [PyData.depthAll]⟩
    | cons n r ih => exact ⟨by simp [PyData.canLayAll0, PyData.canLay0, ih.1], by simp [PyData.depthAll, PyData.depth, ih.2]⟩
  obtain ⟨h1, h2⟩ := h ns
  simp [SeqAt.shaped, PyData.canLay0, PyData.depth, h1, h2]
theorem emod_le {a b : Int} (h : 0 ≤ a) (hb : 0 < b) : a % b ≤ a := by
  have e := Int.emod_add_mul_ediv a b
  have z := Int.mul_nonneg (Int.le_of_lt hb) (Int.ediv_nonneg h (Int.le_of_lt hb))
  omega
end Dk
namespace Lw
open PySem PySem.Spec PyProof.Rows L2 Gx
/-- a deck: a new list of so many numbers, each from 0 on, of at most 61 figures -/
def Deck (ds : List Int) : Prop := ∀ d ∈ ds, 0 ≤ d ∧ d < 10000000000000000000000000000000000000000000000000000000000000
theorem Deck.last {es : List Int} {e : Int} (h : Deck (es ++ [e])) : Deck es ∧ 0 ≤ e ∧ e < 10000000000000000000000000000000000000000000000000000000000000 := ⟨fun d hd => h d (List.mem_append_left _ hd), h e (by simp)⟩
end Lw
namespace Dw
open PySem PySem.Spec PyProof.Rows L2
/-- draws through those that are left -/
def dr (again : Bool) : List Int → List Int → List Int → Option (List Int)
  | _, [], found => some found
  | left, n :: r, found => if 0 ≤ n ∧ n < (left.length : Int) then dr again (if again then left else left.eraseIdx n.toNat) r (found ++ [left.getD n.toNat 0]) else none
/-- 0, 1, .. -/
def rg (m : Nat) : List Int := (List.range m).map fun (i : Nat) => (i : Int)
theorem rg_len (m : Nat) : (rg m).length = m := by simp [rg]
theorem rgV_eq (m : Nat) : rgV 0 (m : Int) = (rg m).map V.int := by
  unfold rgV rg
  rw [List.map_map, show ((m : Int) - 0).toNat = m by omega]
  congr 1
  funext i
  show V.int (0 + (i : Int)) = V.int (i : Int)
  rw [Int.zero_add]
theorem dr_app {again : Bool} : ∀ {ns ms left found : List Int}, dr again left (ns ++ ms) found = match dr again left ns found with
    | none => none
    | some f => dr again ((fun (z : List Int) => z) (ns.foldl (fun (l : List Int) n => if again then l else l.eraseIdx n.toNat) left)) ms f
  | [], ms, left, found => rfl
  | n :: r, ms, left, found => by
    show (if 0 ≤ n ∧ n < (left.length : Int) then dr again (if again then left else left.eraseIdx n.toNat) (r ++ ms) (found ++ [left.getD n.toNat 0]) else none) = match (if 0 ≤ n ∧ n < (left.length : Int) then dr again (if again then left else left.eraseIdx n.toNat) r (found ++ [left.getD n.toNat 0]) else none) with
      | none => none
      | some f => dr again ((n :: r).foldl (fun (l : List Int) n => if again then l else l.eraseIdx n.toNat) left) ms f
    by_cases c : 0 ≤ n ∧ n < (left.length : Int)
    · rw [if_pos c, if_pos c]
      exact dr_app
    · rw [if_neg c, if_neg c]
/-- how many are left -/
def lf (again : Bool) (m k : Nat) : Int := (m : Int) - (k : Int) * (if again then 0 else 1)
theorem fold_len {again : Bool} : ∀ {ns left : List Int}, (∀ (k : Nat) (n : Int), ns[k]? = some n → 0 ≤ n ∧ n < (left.length : Int) - (k : Int) * (if again then 0 else 1)) →
    ((ns.foldl (fun (l : List Int) n => if again then l else l.eraseIdx n.toNat) left).length : Int) = (left.length : Int) - (ns.length : Int) * (if again then 0 else 1)
  | [], left, _ => by simp
  | n :: r, left, h => by
    have h0 := h 0 n rfl
    have l1 : (((if again then left else left.eraseIdx n.toNat) : List Int).length : Int) = (left.length : Int) - (if again then 0 else 1) := by
      cases again
      · show ((left.eraseIdx n.toNat).length : Int) = _
        rw [List.length_eraseIdx]
        simp at h0
        rw [if_pos (by omega)]
        simp
        omega
      · simp
    have ih := fold_len (again := again) (ns := r) (left := if again then left else left.eraseIdx n.toNat) fun k x hx => by
      have := h (k + 1) x hx
      rw [l1]
      cases again <;> simp at this ⊢ <;> omega
    show ((r.foldl _ (if again then left else left.eraseIdx n.toNat)).length : Int) = _
    rw [ih, l1]
    cases again <;> simp
    omega
theorem dr_ok {again : Bool} : ∀ {ns left found : List Int}, (∀ (k : Nat) (n : Int), ns[k]? = some n → 0 ≤ n ∧ n < (left.length : Int) - (k : Int) * (if again then 0 else 1)) → ∃ out, dr again left ns found = some out
  | [], left, found, _ => ⟨found, rfl⟩
  | n :: r, left, found, h => by
    have h0 := h 0 n rfl
    have h0' : 0 ≤ n ∧ n < (left.length : Int) := by simpa using h0
    show ∃ out, (if 0 ≤ n ∧ n < (left.length : Int) then _ else none) = some out
    rw [if_pos h0']
    refine dr_ok fun k x hx => ?_
    have := h (k + 1) x hx
    cases again
    · show 0 ≤ x ∧ x < ((left.eraseIdx n.toNat).length : Int) - _
      rw [List.length_eraseIdx, if_pos (by omega)]
      simp at this ⊢
      omega
    · simpa using this
/-- a bad number behind good ones -/
theorem dr_bad {again : Bool} {ns ms left found : List Int} {x : Int} (h : ∀ (k : Nat) (n : Int), ns[k]? = some n → 0 ≤ n ∧ n < (left.length : Int) - (k : Int) * (if again then 0 else 1)) (hx : x < 0 ∨ (left.length : Int) - (ns.length : Int) * (if again then 0 else 1) ≤ x) :
    dr again left (ns ++ x :: ms) found = none := by
  rw [dr_app]
  obtain ⟨out, e⟩ := dr_ok (found := found) h
  rw [e]
  show (if 0 ≤ x ∧ x < ((ns.foldl (fun (l : List Int) n => if again then l else l.eraseIdx n.toNat) left).length : Int) then _ else none) = none
  rw [fold_len h, if_neg (by omega)]
theorem seqIx {n : Int} {k : Nat} (h0 : 0 ≤ n) (h1 : n < (k : Int)) : seqIndex? n k = some n.toNat := by
  unfold seqIndex?
  show (if (decide (0 ≤ (if n < 0 then n + (k : Int) else n)) && decide ((if n < 0 then n + (k : Int) else n) < (k : Int))) = true then some (if n < 0 then n + (k : Int) else n).toNat else none) = _
  rw [if_neg (show ¬ n < 0 by omega), decide_eq_true h0, decide_eq_true h1]
  rfl
theorem erase_map {α β : Type} (f : α → β) : ∀ (l : List α) (k : Nat), (l.map f).eraseIdx k = (l.eraseIdx k).map f
  | [], _ => rfl
  | _ :: _, 0 => rfl
  | a :: l, k + 1 => congrArg (fun z => f a :: z) (erase_map f l k)
end Dw
namespace D24
open PySem PySem.Spec PyProof.Rows L2 Dw
/-- those of a list that aren't gone -/
def ng (g l : List Int) : List Int := l.filter fun x => !g.contains x
theorem rg_succ (n : Nat) : rg (n + 1) = rg n ++ [(n : Int)] := by simp [rg, List.range_succ]
theorem mem_rg {n : Nat} {x : Int} : x ∈ rg n ↔ 0 ≤ x ∧ x < (n : Int) := by
  simp [rg]
  constructor
  · rintro ⟨k, h, rfl⟩; omega
  · rintro ⟨h0, h1⟩; exact ⟨x.toNat, by omega, by omega⟩
theorem cnt_in {g : List Int} {b : Nat} (h : (b : Int) ∈ g) : ng g (rg (b + 1)) = ng g (rg b) := by
  unfold ng
  rw [rg_succ, List.filter_append]
  simp [h]
theorem cnt_out {g : List Int} {b : Nat} (h : (b : Int) ∉ g) : ng g (rg (b + 1)) = ng g (rg b) ++ [(b : Int)] := by
  unfold ng
  rw [rg_succ, List.filter_append]
  simp [h]
/-- the numbers from b on -/
def up (b : Nat) : Nat → List Int
  | 0 => []
  | k + 1 => (b : Int) :: up (b + 1) k
theorem rg_up : ∀ (k b : Nat), rg (b + k) = rg b ++ up b k
  | 0, b => by simp [up]
  | k + 1, b => by
    rw [show b + (k + 1) = (b + 1) + k by omega, rg_up k (b + 1), rg_succ]
    simp [up]
theorem mem_up : ∀ {k b : Nat} {x : Int}, x ∈ up b k → (b : Int) ≤ x
  | k + 1, b, x, h => by
    rcases List.mem_cons.mp h with e | h
    · omega
    · have := mem_up h; omega
theorem rg_split {b m : Nat} (h : b < m) : rg m = rg b ++ (b : Int) :: up (b + 1) (m - b - 1) := by
  have e := rg_up (m - b) b
  rw [show b + (m - b) = m by omega] at e
  rw [e]
  congr 1
  rw [show m - b = (m - b - 1) + 1 by omega]
  rfl
theorem ng_split {g : List Int} {b m : Nat} (h : b < m) (hg : (b : Int) ∉ g) : ng g (rg m) = ng g (rg b) ++ (b : Int) :: ng g (up (b + 1) (m - b - 1)) := by
  unfold ng
  rw [rg_split h, List.filter_append, List.filter_cons]
  simp [hg]
theorem ng_le {g : List Int} {b m : Nat} (h : b ≤ m) : (ng g (rg b)).length ≤ (ng g (rg m)).length := by
  have e := rg_up (m - b) b
  rw [show b + (m - b) = m by omega] at e
  unfold ng
  rw [e, List.filter_append, List.length_append]
  omega
theorem at_ {g : List Int} {b m n : Nat} (h : b < m) (hg : (b : Int) ∉ g) (e : (ng g (rg b)).length = n) : (ng g (rg m)).getD n 0 = (b : Int) := by
  rw [ng_split h hg, ← e]
  simp
theorem erase_ {g : List Int} {b m n : Nat} (h : b < m) (hg : (b : Int) ∉ g) (e : (ng g (rg b)).length = n) : (ng g (rg m)).eraseIdx n = ng (g ++ [(b : Int)]) (rg m) := by
  have h1 : ng (g ++ [(b : Int)]) (rg b) = ng g (rg b) := by
    unfold ng
    refine List.filter_congr fun x hx => ?_
    have := mem_rg.mp hx
    have hne : ¬ x = (b : Int) := by omega
    simp [hne]
  have h2 : ng (g ++ [(b : Int)]) (up (b + 1) (m - b - 1)) = ng g (up (b + 1) (m - b - 1)) := by
    unfold ng
    refine List.filter_congr fun x hx => ?_
    have := mem_up hx
    have hne : ¬ x = (b : Int) := by omega
    simp [hne]
  have e2 : ng (g ++ [(b : Int)]) (rg m) = ng (g ++ [(b : Int)]) (rg b) ++ ng (g ++ [(b : Int)]) (up (b + 1) (m - b - 1)) := by
    unfold ng
    rw [rg_split h, List.filter_append, List.filter_cons]
    simp
  rw [e2, h1, h2, ng_split h hg, ← e, List.eraseIdx_append_of_length_le (Nat.le_refl _)]
  simp
theorem in_ints {x : Int} {g : List Int} : inV (.int x) (g.map V.int) = g.contains x := by
  unfold inV
  induction g with
  | nil => rfl
  | cons a r ih =>
    rw [List.map_cons, List.any_cons, ih, List.contains_cons]
    congr 1
    show (a == x) = (x == a)
    by_cases h : a = x
    · simp [h]
    · have h2 : ¬ x = a := fun z => h z.symm
      rw [beq_eq_false_iff_ne.mpr h, beq_eq_false_iff_ne.mpr h2]
theorem flat_ints (g : List Int) : (g.map V.int).all flatV = true := by
  induction g with
  | nil => rfl
  | cons a r ih => rw [List.map_cons, List.all_cons, ih]; rfl
end D24
namespace Ct
open PySem PySem.Spec PyProof.Rows L2
theorem to {xs : List V} {k : Nat} (h : k ≤ xs.length) : cutV xs none (some (k : Int)) = xs.take k := by
  unfold cutV
  rw [HT.sIx_none, HT.sIx_nat, Nat.min_eq_left h]
  simp
theorem from_ {xs : List V} {k : Nat} (h : k ≤ xs.length) : cutV xs (some (k : Int)) none = xs.drop k := by
  unfold cutV
  rw [HT.sIx_none, HT.sIx_nat, Nat.min_eq_left h]
  rw [List.take_of_length_le]
  simp
end Ct
namespace Lw
open PySem PySem.Spec PyProof.Rows L2 Gx
def top (i : Nat) : Stmt := PySem.Challenge.pw_surecount_k24_drawn.main.body.getD i (.Pass ⟨0, 0, 0, 0⟩)
abbrev s_drawn : Stmt := top 7
theorem sc_drawn : FnScope ["many", "numbers", "again", "left", "found", "number"] ["many", "numbers", "again"] (defScope s_drawn) := ⟨rfl, rfl, rfl, by decide +kernel, rfl, by decide +kernel, by decide +kernel⟩
abbrev s__law_whole : Stmt := top 9
theorem sc__law_whole : FnScope ["_law_found"] ["_law_found"] (defScope s__law_whole) := ⟨rfl, rfl, rfl, by decide +kernel, rfl, by decide +kernel, by decide +kernel⟩
abbrev s__law_digits : Stmt := top 10
theorem sc__law_digits : FnScope ["_law_script", "_law_k", "_law_cell", "_law_turn"] ["_law_script", "_law_k"] (defScope s__law_digits) := ⟨rfl, rfl, rfl, by decide +kernel, rfl, by decide +kernel, by decide +kernel⟩
abbrev s__law_deck : Stmt := top 11
theorem sc__law_deck : FnScope ["_law_script", "_law_most", "_law_deck_here", "_law_last", "_law_k", "_law_number"] ["_law_script", "_law_most"] (defScope s__law_deck) := ⟨rfl, rfl, rfl, by decide +kernel, rfl, by decide +kernel, by decide +kernel⟩
abbrev s__law_due : Stmt := top 12
theorem sc__law_due : FnScope ["_law_many", "_law_numbers", "_law_again", "_law_gone", "_law_found", "_law_number", "_law_ballot", "_law_ahead"] ["_law_many", "_law_numbers", "_law_again"] (defScope s__law_due) := ⟨rfl, rfl, rfl, by decide +kernel, rfl, by decide +kernel, by decide +kernel⟩
abbrev s__law_told : Stmt := top 13
theorem sc__law_told : FnScope ["_law_many", "_law_numbers", "_law_again", "_law_found", "e", "_law_others"] ["_law_many", "_law_numbers", "_law_again"] (defScope s__law_told) := ⟨rfl, rfl, rfl, by decide +kernel, rfl, by decide +kernel, by decide +kernel⟩
abbrev s_law : Stmt := top 14
theorem sc_law : FnScope ["_law_script", "_law_deck_here", "_law_head", "_law_many", "_law_again", "_law_size", "_law_numbers", "_law_k", "_law_cell", "_law_at", "_law_left", "_law_odd", "_law_bent", "_law_found", "_law_ballot"] ["_law_script"] (defScope s_law) := ⟨rfl, rfl, rfl, by decide +kernel, rfl, by decide +kernel, by decide +kernel⟩
abbrev FnP (K : PySem.W.Frag) (x q : Str) (st : Stmt) (f : Addr) (fd : FuncData) : Prop := FunD K x q (defArgs st) (defBody st) (defScope st) [] [] f fd
structure Txt (K : PySem.W.Frag) (mg : Str → Option Value) : Prop where
  n_ValueError : mg "ValueError" = none
  n_bool : mg "bool" = none
  n_int : mg "int" = none
  n_isinstance : mg "isinstance" = none
  n_len : mg "len" = none
  n_list : mg "list" = none
  n_max : mg "max" = none
  n_min : mg "min" = none
  n_range : mg "range" = none
  n_tuple : mg "tuple" = none
  c_Ended : ∃ u, mg "Ended" = some u ∧ RelV (.ref (He.ga K "Ended")) u
  c_NoBallot : ∃ u, mg "NoBallot" = some u ∧ RelV (.ref (He.ga K "NoBallot")) u
  c_NoNumber : ∃ u, mg "NoNumber" = some u ∧ RelV (.ref (He.ga K "NoNumber")) u
  c_TooMany : ∃ u, mg "TooMany" = some u ∧ RelV (.ref (He.ga K "TooMany")) u
  g_NoNumber : mg "NoNumber" = some (.ref (He.ga K "NoNumber"))
  g_SureError : mg "SureError" = some (.ref (He.ga K "SureError"))
  e_NoNumber : ExcC K (He.ga K "NoNumber")
  i_NoNumber_Ended : PySem.W.kitOne K (.ref (He.ga K "NoNumber")) (.ref (He.ga K "Ended")) = some false
  i_NoNumber_NoBallot : PySem.W.kitOne K (.ref (He.ga K "NoNumber")) (.ref (He.ga K "NoBallot")) = some false
  i_NoNumber_NoNumber : PySem.W.kitOne K (.ref (He.ga K "NoNumber")) (.ref (He.ga K "NoNumber")) = some true
  i_NoNumber_TooMany : PySem.W.kitOne K (.ref (He.ga K "NoNumber")) (.ref (He.ga K "TooMany")) = some false
  i_NoNumber_ValueError : PySem.W.kitOne K (.ref (He.ga K "NoNumber")) (.type "ValueError") = some true
  m_NoNumber_SureError : PySem.W.exmOne K (.ref (He.ga K "NoNumber")) (.ref (He.ga K "SureError")) = some true
  x_NoNumber : PySem.W.excIn K (He.ga K "NoNumber") He.veBase "ValueError.__new__" = true ∧ PySem.W.keepIn K (.ref (He.ga K "NoNumber")) = true ∧ PySem.W.subIn K (.ref (He.ga K "NoNumber")) (.type "BaseException") = some true ∧ PySem.W.typeIn K (.ref (He.ga K "NoNumber")) = some (.type "type")
end Lw
namespace Lw
open PySem PySem.Spec PyProof.Rows L2 Gx
def sp_drawn (K : PySem.W.Frag) : Sp := fun vs H Q E => ∃ (m : Nat) (p : Addr) (ns : List Int) (b : Bool), vs = [.int (m : Int), .ref p, .bl b] ∧ SqT K H p (ns.map V.int) ∧ m ≤ 1000 ∧ ns.length ≤ 1000 ∧
  (Dw.dr b (Dw.rg m) ns [] = none → ∀ H', Same H H' → E (.ref (He.ga K "NoNumber")) none H') ∧ (∀ out, Dw.dr b (Dw.rg m) ns [] = some out → ∀ q H', Same H H' → SqT K H' q (out.map V.int) → Q (.ref q) H')
def sp__law_whole (K : PySem.W.Frag) : Sp := fun vs H Q _ => ∃ (x : V) (t : Value) (b1 b2 : Bool), vs = [x] ∧ TyX K H x t ∧ PySem.W.kitOne K t (.type "int") = some b1 ∧ PySem.W.kitOne K t (.type "bool") = some b2 ∧ Q (.bl (b1 && !b2)) H
theorem whole_int {K : PySem.W.Frag} {H : Hp} {Q : VK} {E : XK} {i : Int} (q : Q (.bl true) H) : sp__law_whole K [.int i] H Q E := ⟨_, .type "int", true, false, rfl, .base (.int i), kit_ty (by decide +kernel), kit_ty (by decide +kernel), q⟩
def sp__law_digits (K : PySem.W.Frag) : Sp := fun vs H Q _ => ∃ (a : Addr) (ns : List Int) (k : Int), vs = [.ref a, .int k] ∧ SqL K H a (ns.map V.int) ∧ ns.length ≤ 63 ∧ 0 ≤ k ∧ k ≤ 100000 ∧ ∀ (r : Int) H', Same H H' → 0 ≤ r → r < 10000000000000000000000000000000000000000000000000000000000000 → Q (.int r) H'
def sp__law_deck (K : PySem.W.Frag) : Sp := fun vs H Q _ => ∃ (a : Addr) (ns : List Int) (m : Nat), vs = [.ref a, .int (m : Int)] ∧ SqL K H a (ns.map V.int) ∧ ns.length ≤ 63 ∧ m ≤ 100000 ∧
  ∀ (l : Addr) (ds : List Int) H', Same H H' → H l = none → H' l = some (.lst (ds.map V.int)) → ds.length = m → Deck ds → Q (.ref l) H'
/-- what is told of a draw: None, or the tuple -/
def toldD : Option (List Int) → PyData
  | none => .none
  | some l => .tuple (l.map .int)
def sp__law_due (K : PySem.W.Frag) : Sp := fun vs H Q _ => ∃ (m : Nat) (p : Addr) (ns : List Int) (b : Bool), vs = [.int (m : Int), .ref p, .bl b] ∧ SqL K H p (ns.map V.int) ∧ m ≤ 1000 ∧ ns.length ≤ 1000 ∧
  ∀ v H', Same H H' → Dp K H' v (toldD (Dw.dr b (Dw.rg m) ns [])) → Q v H'
def sp__law_told (K : PySem.W.Frag) : Sp := fun vs H Q _ => ∃ (m : Nat) (p : Addr) (ns : List Int) (b : Bool), vs = [.int (m : Int), .ref p, .bl b] ∧ SqT K H p (ns.map V.int) ∧ m ≤ 1000 ∧ ns.length ≤ 1000 ∧
  ∀ v H', Same H H' → Dp K H' v (toldD (Dw.dr b (Dw.rg m) ns [])) → (Dw.dr b (Dw.rg m) ns [] = none → v = .non) → Q v H'
def OkN (b : Bool) (m : Nat) (ns : List Int) : Prop := ∀ (k : Nat) (n : Int), ns[k]? = some n → 0 ≤ n ∧ n < (m : Int) - (k : Int) * (if b then 0 else 1)
theorem toldD_shaped : ∀ o : Option (List Int), SeqAt.shaped (toldD o) = true
  | none => rfl
  | some l => Dk.shaped_tints l
theorem eqv_told (o : Option (List Int)) : PyData.eqv (toldD o) (toldD o) = true := SeqAt.eqv_refl _ (SeqAt.canLay_of_shaped (toldD_shaped o))
theorem okn_ok {b : Bool} {m : Nat} {ns : List Int} (h : OkN b m ns) : ∃ out, Dw.dr b (Dw.rg m) ns [] = some out := Dw.dr_ok fun k n e => by rw [Dw.rg_len]; exact h k n e
theorem okn_bad {b : Bool} {m : Nat} {ns ms : List Int} {x : Int} (h : OkN b m ns) (hx : x < 0 ∨ (m : Int) - (ns.length : Int) * (if b then 0 else 1) ≤ x) : Dw.dr b (Dw.rg m) (ns ++ x :: ms) [] = none :=
  Dw.dr_bad (fun k n e => by rw [Dw.rg_len]; exact h k n e) (by rw [Dw.rg_len]; exact hx)
theorem okn_take {b : Bool} {m k : Nat} {ns : List Int} (h : OkN b m ns) : OkN b m (ns.take k) := fun j n e => by
  rw [List.getElem?_take] at e
  split at e
  · exact h j n e
  · cases e
theorem okn_add {b : Bool} {m : Nat} {ns : List Int} {x : Int} (h : OkN b m ns) (h0 : 0 ≤ x) (h1 : x < (m : Int) - (ns.length : Int) * (if b then 0 else 1)) : OkN b m (ns ++ [x]) := fun j n e => by
  rcases Nat.lt_trichotomy j ns.length with c | c | c
  · rw [List.getElem?_append_left c] at e; exact h j n e
  · subst c; simp at e; subst e; exact ⟨h0, h1⟩
  · rw [List.getElem?_eq_none (by simp; omega)] at e; cases e
theorem notb (b : Bool) : (if (!b) = true then (1 : Int) else 0) = if b then 0 else 1 := by cases b <;> rfl
def sp_law (K : PySem.W.Frag) : Sp := fun vs H Q _ => ∃ (a : Addr) (ns : List Int), vs = [.ref a] ∧ SqL K H a (ns.map V.int) ∧ ns.length ≤ 63 ∧ ∀ H', Q (.bl true) H'
end Lw
namespace Lw
open PySem PySem.Spec PyProof.Rows L2 Gx
section
variable {P : Program} {w : World} {K : PySem.W.Frag} {mg : Str → Option Value} {base : Heap} {f : Addr} {fd : FuncData}
theorem ok_drawn (F : FnP K "drawn" "drawn" s_drawn f fd) (T : Txt K mg) : FnOk P w K mg base (L2.CX P w) 1 f fd ["many", "numbers", "again"] (sp_drawn K) := by
  refine F.ok sc_drawn (fun vs H Q E h => ?_) (fun cdv A outer s H vs Q E hr h => ?_)
  · obtain ⟨m, p, ns, b, rfl, _⟩ := h; rfl
  · refine ⟨_, (pss_cons (ps_set (i := 3) sc_drawn.nd rfl (Or.inl rfl) (pe_listRg rfl (by rfl) T.n_list (prg_1 (by rfl) T.n_range (pv 0)))) (pss_cons (ps_set (i := 4) sc_drawn.nd rfl (Or.inl rfl) (pe_lst pa_nil)) (pss_cons (ps_for (passes_of rfl) rfl (pi_seqU (pv 1)) (pg_name (i := 5) sc_drawn.nd rfl (Or.inl rfl)) (pss_cons (ps_if (pt_not (pt_chain op_le op_lt pe_int (pv 5) (pe_callB call_lenU (by rfl) T.n_len (by decide +kernel) (pa_cons (pv 3) pa_nil)))) (pss_one (ps_raise rfl (takes_of rfl rfl rfl rfl) (pmk_own PySem.F.excBase_ValueError T.x_NoNumber.1 T.g_NoNumber T.x_NoNumber.2.1 (raises_own T.x_NoNumber.2.2.1 T.x_NoNumber.2.2.2) rfl))) pss_nil) (pss_cons (ps_expr (pe_bm PySem.F.plainAttrs_list PySem.F.slot_list_append PySem.F.type_list_append mt_append (pv 4) (pa_cons (pe_ix (ix_K (K := K) rfl) (pv 3) (pv 5) (fun _ _ => rfl)) pa_nil))) (pss_one (ps_if (pt_not (pt_val (pv 2))) (pss_one (ps_expr (pe_bm PySem.F.plainAttrs_list PySem.F.slot_list_pop PySem.F.type_list_pop mt_popAt (pv 3) (pa_cons (pv 5) pa_nil)))) pss_nil))))) (pss_one (ps_ret (pe_callTy call_tupU (by rfl) T.n_tuple (by decide +kernel) (pa_cons (pv 4) pa_nil))))))), ?_⟩
    obtain ⟨m, p, ns, b, rfl, hp, hm, hn, k0, k1⟩ := h
    walk_at "go"
    refine k_rgX (by omega) (fun l H1 nl s1 hl1 => ?_)
    rw [Dw.rgV_eq] at hl1
    walk_at "go"
    refine k_lstx (fun f H2 nf s2 hf2 => ?_) (by simp)
    walk_at "go"
    have nlf : l ≠ f := ne_of_none hl1 nf
    have hp2 := seqT_same s2 (seqT_same s1 hp)
    refine k_itUT hp2 ?_
    refine k_loopT (fun i σ H' => ∃ (t : Option V) (left found : List Int), σ = [some (.int (m : Int)), some (.ref p), some (.bl b), some (.ref l), some (.ref f), t] ∧ Same H H' ∧ SqT K H' p (ns.map V.int) ∧ H' l = some (.lst (left.map V.int)) ∧ H' f = some (.lst (found.map V.int)) ∧
        left.length ≤ m ∧ found.length = i ∧ Dw.dr b (Dw.rg m) ns [] = Dw.dr b left (ns.drop i) found)
      ⟨none, Dw.rg m, [], rfl, s1.trans s2, hp2, s2 _ _ hl1, hf2, by rw [Dw.rg_len]; exact Nat.le_refl m, rfl, rfl⟩ (fun i σ H' _ h => by obtain ⟨_, _, _, _, _, h, _⟩ := h; exact h) ?_ ?_
    · rintro i x σ H3 hx ⟨t, left, found, rfl, s3, hp3, hl3, hf3, hz, hfl, e⟩
      obtain ⟨n, hni, rfl⟩ : ∃ n, ns[i]? = some n ∧ x = V.int n := by
        rw [List.getElem?_map] at hx
        cases q : ns[i]? with
        | none => rw [q] at hx; cases hx
        | some n => rw [q] at hx; exact ⟨n, rfl, (Option.some.inj hx).symm⟩
      have hi : i < ns.length := (List.getElem?_eq_some_iff.mp hni).1
      have hdrop : ns.drop i = n :: ns.drop (i + 1) := by
        rw [List.drop_eq_getElem_cons hi]
        congr 1
        exact (List.getElem?_eq_some_iff.mp hni).2
      rw [hdrop] at e
      have lm : (left.map V.int).length = left.length := List.length_map ..
      walk_at "go"
      refine k_if (fun c => ?_) (fun c => ?_)
      · walk_at "go"
        refine k_lenL ?_ (SqL.of hl3)
        walk_at "go"
        refine k_ifnd (fun c2 => ?_) (fun c2 => ?_)
        · walk_at "go"
          refine k0 ?_ H3 s3
          rw [e]
          show (if _ then _ else _) = none
          rw [if_neg (by omega)]
        · walk_at "go"
          obtain ⟨z, hz2⟩ := Dk.at_map (ns := left) c (by omega)
          refine ⟨k_app0 hf3, ?_⟩
          walk_at "go"
          have hz3 : atI (left.map V.int) n = some (.int (left.getD n.toNat 0)) := by
            obtain ⟨k, rfl⟩ : ∃ k : Nat, n = (k : Int) := ⟨n.toNat, by omega⟩
            refine atI_nat ?_
            have hk : k < left.length := by omega
            simp [hk]
          refine k_ixL (SqL.of hl3) hz3 ?_
          walk_at "go"
          refine k_app1 hf3 (by rw [List.length_map, sizeLine_eq]; omega) (fun H4 b4 hf4 => ?_)
          have hl4 := b4 _ _ nlf hl3
          have hp4 := seqT_but b4 hf3 hp3
          have nf0 : H f = none := Same.free (s1) nf
          have nl0 : H l = none := nl
          have s4 : Same H H4 := But.same nf0 s3 b4
          have e2 : Dw.dr b (Dw.rg m) ns [] = Dw.dr b (if b then left else left.eraseIdx n.toNat) (ns.drop (i + 1)) (found ++ [left.getD n.toNat 0]) := by
            rw [e]
            show (if _ then _ else _) = _
            rw [if_pos ⟨c, by omega⟩]
          have hf4' : H4 f = some (.lst ((found ++ [left.getD n.toNat 0]).map V.int)) := by rw [hf4]; simp
          cases b with
          | true =>
            walk_at "go"
            exact ⟨_, left, _, rfl, s4, hp4, hl4, hf4', hz, by simp [hfl], e2⟩
          | false =>
            walk_at "go"
            refine ⟨k_app0 hl4, ?_⟩
            walk_at "go"
            have hk : n.toNat < left.length := by omega
            refine ⟨l, _, n, n.toNat, .int (left[n.toNat]'hk), rfl, rfl, hl4, by omega, by omega, ?_, ?_, ?_⟩
            · rw [lm]; exact Dw.seqIx c (by omega)
            · simp [hk]
            · refine ⟨_, left.eraseIdx n.toNat, _, rfl, But.same nl0 s4 But.upd, seqT_but But.upd hl4 hp4, ?_, ?_, ?_, by simp [hfl], e2⟩
              · rw [upd_same, Dw.erase_map]
              · rw [upd_ne (Ne.symm nlf)]; exact hf4'
              · rw [List.length_eraseIdx]; split <;> omega
      · walk_at "go"
        refine k0 ?_ H3 s3
        rw [e]
        show (if _ then _ else _) = none
        rw [if_neg (by omega)]
    · rintro σ H3 ⟨t, left, found, rfl, s3, hp3, hl3, hf3, hz, hfl, e⟩
      rw [List.length_map] at e
      rw [List.drop_length] at e
      walk_at "go"
      refine k_tupL (SqL.of hf3) (fun q H4 nq s4 hq4 => ?_)
      exact k1 found e q H4 (s3.trans s4) (SqT.of hq4)
end
end Lw
namespace Lw
open PySem PySem.Spec PyProof.Rows L2 Gx
section
variable {P : Program} {w : World} {K : PySem.W.Frag} {mg : Str → Option Value} {base : Heap} {f : Addr} {fd : FuncData}
theorem ok__law_whole (F : FnP K "_law_whole" "_law_whole" s__law_whole f fd) (T : Txt K mg) : FnOk P w K mg base (L2.CX P w) 1 f fd ["_law_found"] (sp__law_whole K) := by
  refine F.ok sc__law_whole (fun vs H Q E h => ?_) (fun cdv A outer s H vs Q E hr h => ?_)
  · obtain ⟨x, t, b1, b2, rfl, _⟩ := h; rfl
  · refine ⟨_, (pss_one (ps_ret (pe_and (pe_callB call_isi (by rfl) T.n_isinstance (by decide +kernel) (pa_cons (pv 0) (pa_cons (pe_bltn (v := .ty "int") (by rfl) T.n_int (by decide +kernel) rfl) pa_nil))) (pe_one (pe_not (pe_callB call_isi (by rfl) T.n_isinstance (by decide +kernel) (pa_cons (pv 0) (pa_cons (pe_bltn (v := .ty "bool") (by rfl) T.n_bool (by decide +kernel) rfl) pa_nil)))))))), ?_⟩
    obtain ⟨x, t, b1, b2, rfl, ht, h1, h2, k⟩ := h
    walk_at "go"
    refine k_isi (.ty "int") ht h1 ?_
    walk_at "go"
    cases b1 with
    | false => walk_at "go"; exact k
    | true =>
      walk_at "go"
      refine k_isi (.ty "bool") ht h2 ?_
      walk_at "go"
      exact k
end
end Lw
namespace Lw
open PySem PySem.Spec PyProof.Rows L2 Gx
section
variable {P : Program} {w : World} {K : PySem.W.Frag} {mg : Str → Option Value} {base : Heap} {f : Addr} {fd : FuncData}
theorem ok__law_digits (F : FnP K "_law_digits" "_law_digits" s__law_digits f fd) (T : Txt K mg) : FnOk P w K mg base (L2.CX P w) 1 f fd ["_law_script", "_law_k"] (sp__law_digits K) := by
  refine F.ok sc__law_digits (fun vs H Q E h => ?_) (fun cdv A outer s H vs Q E hr h => ?_)
  · obtain ⟨a, ns, k, rfl, _⟩ := h; rfl
  · refine ⟨_, (pss_cons (ps_if (pt_cmpR op_lt (pv 1) (pe_callB call_lenU (by rfl) T.n_len (by decide +kernel) (pa_cons (pv 0) pa_nil)) (nomark _)) (pss_one (ps_ret (pe_op op_modN (pe_ix (ix_K (K := K) rfl) (pv 0) (pv 1) (fun _ _ => rfl)) (pe_op op_pow pe_int pe_int)))) pss_nil) (pss_cons (ps_set (i := 2) sc__law_digits.nd rfl (Or.inl rfl) pe_int) (C8.pss_cut (ps_if (pt_cmpR (op_neK (K := K) rfl hr) (pv 0) (pe_lst pa_nil) (nomark _)) (pss_cons (ps_set (i := 2) sc__law_digits.nd rfl (Or.inl rfl) (pe_callB (call_maxU rfl) (by rfl) T.n_max (by decide +kernel) (pa_cons pe_int (pa_cons (pe_ix (ix_K (K := K) rfl) (pv 0) (pe_op op_modN (pv 1) (pe_callB call_lenU (by rfl) T.n_len (by decide +kernel) (pa_cons (pv 0) pa_nil))) (fun _ _ => rfl)) pa_nil)))) (pss_one (ps_for (passes_of rfl) rfl (pi_range1 rfl T.n_range (pa_cons (pe_op op_fdivG (pv 1) (pe_callB call_lenU (by rfl) T.n_len (by decide +kernel) (pa_cons (pv 0) pa_nil))) pa_nil)) (pg_name (i := 3) sc__law_digits.nd rfl (Or.inl rfl)) (pss_one (ps_set (i := 2) sc__law_digits.nd rfl (Or.inl rfl) (pe_op op_fdivG (pv 2) (pe_op op_pow pe_int pe_int))))))) pss_nil) (pss_one (ps_ret (pe_op op_modN (pv 2) (pe_op op_pow pe_int pe_int))))))), ?_⟩
    obtain ⟨a, ns, k, rfl, hS, hl, k0, k1, kk⟩ := h
    have hlm : (ns.map V.int).length = ns.length := List.length_map ..
    walk_at "go"
    refine k_lenL ?_ hS
    walk_at "go"
    refine k_if (fun c => ?_) (fun c => ?_)
    · walk_at "go"
      obtain ⟨z, hz⟩ := Dk.at_map (ns := ns) k0 (by omega)
      refine k_ixL hS hz ?_
      walk_at "go"
      refine kk _ _ (Same.refl H) (by omega) (by omega)
    · walk_at "go"
      refine k_cut0 ?_
      walk_at "go"
      refine k_lstx (fun p H1 np s1 hp1 => ?_) (by simp)
      have hS1 := seqL_same s1 hS
      refine k_neD (Dk.dp_ints hS1) (.lst (SqL.of hp1) .nil) ?_ (Dk.shaped_ints ns) rfl
      walk_at "go"
      rw [Dk.eqv_nil]
      refine k_ifb (fun c2 => ?_) (fun c2 => ?_)
      · have hpos : 0 < ns.length := by
          cases ns with
          | nil => simp at c2
          | cons => simp
        walk_at "go"
        refine k_lenL ?_ hS1
        walk_at "go"
        obtain ⟨z, hz⟩ := Dk.at_map (ns := ns) (i := k % (((ns.map V.int).length : Nat) : Int)) (Int.emod_nonneg _ (by omega)) (by
          have := Int.emod_lt_of_pos k (show (0 : Int) < ((ns.map V.int).length : Nat) by omega)
          omega)
        refine k_ixL hS1 hz ?_
        walk_at "go"
        refine k_lenL ?_ hS1
        walk_at "go"
        have hq0 : 0 ≤ k / (((ns.map V.int).length : Nat) : Int) := Int.ediv_nonneg k0 (by omega)
        have hq1 : k / (((ns.map V.int).length : Nat) : Int) ≤ k := Int.ediv_le_self _ k0
        refine k_rng1 (by omega) ?_
        refine k_loopR (fun _ σ H' => ∃ (c : Int) (t : Option V), σ = [some (.ref a), some (.int k), some (.int c), t] ∧ Same H1 H') ⟨_, none, rfl, Same.refl _⟩ ?_ ?_
        · rintro i σ H' hi ⟨c, t, rfl, s2⟩
          walk_at "go"
          exact ⟨_, _, rfl, s2⟩
        · rintro σ H' ⟨c, t, rfl, s2⟩
          walk_at "go"
          refine kk _ _ (s1.trans s2) (by omega) (by omega)
      · walk_at "go"
        refine kk _ _ s1 (by omega) (by omega)
end
end Lw
namespace Lw
open PySem PySem.Spec PyProof.Rows L2 Gx
section
variable {P : Program} {w : World} {K : PySem.W.Frag} {mg : Str → Option Value} {base : Heap} {f : Addr} {fd : FuncData}
theorem ok__law_deck (F : FnP K "_law_deck" "_law_deck" s__law_deck f fd) (T : Txt K mg) (c__law_digits : Cl P w K mg base 1 "_law_digits" ["_law_script", "_law_k"] (sp__law_digits K)) : FnOk P w K mg base (L2.CX P w) 2 f fd ["_law_script", "_law_most"] (sp__law_deck K) := by
  refine F.ok sc__law_deck (fun vs H Q E h => ?_) (fun cdv A outer s H vs Q E hr h => ?_)
  · obtain ⟨a, ns, m, rfl, _⟩ := h; rfl
  · refine ⟨_, (pss_cons (ps_set (i := 2) sc__law_deck.nd rfl (Or.inl rfl) (pe_lst pa_nil)) (pss_cons (ps_set (i := 3) sc__law_deck.nd rfl (Or.inl rfl) pe_int) (pss_cons (ps_for (passes_of rfl) rfl (pi_range1 rfl T.n_range (pa_cons (pv 1) pa_nil)) (pg_name (i := 4) sc__law_deck.nd rfl (Or.inl rfl)) (pss_cons (ps_set (i := 5) sc__law_deck.nd rfl (Or.inl rfl) (pcall c__law_digits hr (by first | decide | omega) (takes_of rfl rfl rfl rfl) (pa_cons (pv 0) (pa_cons (pv 4) pa_nil)))) (C8.pss_cut (ps_if (PW.pt (pw_and (pt_cmpR op_ge (pv 4) (pe_callB call_lenU (by rfl) T.n_len (by decide +kernel) (pa_cons (pv 0) pa_nil)) (nomark _)) (pw_and1 (pt_cmpR (op_eqK (K := K) rfl hr) (pv 5) pe_int (nomark _))))) (pss_one (ps_set (i := 5) sc__law_deck.nd rfl (Or.inl rfl) (pe_op op_modN (pe_op (op_mulK (K := K) rfl) (pe_op op_modN (pe_op (op_mulK (K := K) rfl) (pv 3) pe_int) pe_int) pe_int) pe_int))) pss_nil) (pss_cons (ps_set (i := 3) sc__law_deck.nd rfl (Or.inl rfl) (pe_op op_modN (pe_op (op_addK (K := K) rfl) (pe_op (op_addK (K := K) rfl) (pe_op (op_mulK (K := K) rfl) (pv 3) pe_int) (pv 5)) (pv 4)) pe_int)) (pss_one (ps_expr (pe_bm PySem.F.plainAttrs_list PySem.F.slot_list_append PySem.F.type_list_append mt_append (pv 2) (pa_cons (pv 5) pa_nil)))))))) (pss_one (ps_ret (pe_revL (pv 2))))))), ?_⟩
    obtain ⟨a, ns, m, rfl, hS, hl, hm, kk⟩ := h
    have hlm : (ns.map V.int).length = ns.length := List.length_map ..
    walk_at "go"
    refine k_lstx (fun l H1 nl s1 hl1 => ?_) (by simp)
    walk_at "go"
    refine k_rng1 (by omega) ?_
    have hmt : ((m : Int)).toNat = m := by omega
    rw [hmt]
    refine k_loopR (fun i σ H' => ∃ (c : Int) (t1 t2 : Option V) (ds : List Int), σ = [some (.ref a), some (.int (m : Int)), some (.ref l), some (.int c), t1, t2] ∧ Same H H' ∧ H' l = some (.lst (ds.map V.int)) ∧ ds.length = i ∧ Deck ds ∧ 0 ≤ c ∧ c < 2147483647) ⟨_, none, none, [], rfl, s1, hl1, rfl, fun d hd => (nomatch hd), by omega, by omega⟩ ?_ ?_
    · rintro i σ H2 hi ⟨c, t1, t2, ds, rfl, s2, hl2, hn, hd, c0, c1⟩
      walk_at "go"
      refine ⟨a, ns, (i : Int), rfl, seqL_same s2 hS, hl, by omega, by omega, fun r H3 s3 r0 r1 => ?_⟩
      walk_at "go"
      refine k_cut (fun σ H' => ∃ r : Int, 0 ≤ r ∧ r < 10000000000000000000000000000000000000000000000000000000000000 ∧ H' = H3 ∧ σ = [some (.ref a), some (.int (m : Int)), some (.ref l), some (.int c), some (.int (i : Int)), some (.int r)]) ?_ (fun σ H' => ?_)
      rotate_left
      · rintro ⟨r, r0, r1, rfl, rfl⟩
        have hl3 := s3 _ _ hl2
        walk_at "go"
        refine k_mulB (m := 40) (n := 40) (by omega) (by decide) (by decide) ?_
        walk_at "go"
        refine ⟨k_app0 hl3, ?_⟩
        walk_at "go"
        refine k_app1 hl3 (by rw [List.length_map, sizeLine_eq]; omega) (fun H4 b4 hl4 => ?_)
        refine ⟨_, _, _, ds ++ [r], rfl, But.same nl (s2.trans s3) b4, ?_, by simp [hn], ?_, by omega, by omega⟩
        · rw [hl4]; simp
        · intro d hd'
          rcases List.mem_append.mp hd' with q | q
          · exact hd d q
          · rw [List.mem_singleton.mp q]; exact ⟨r0, r1⟩
      walk_at "go"
      refine k_lenL ?_ (seqL_same s3 (seqL_same s2 hS))
      walk_at "go"
      have hl3 := s3 _ _ hl2
      have hz : (ds.map V.int).length < sizeLine := by rw [List.length_map, sizeLine_eq]; omega
      refine k_if (fun c2 => ?_) (fun c2 => ?_)
      · walk_at "go"
        refine k_if (fun c3 => ?_) (fun c3 => ?_)
        · walk_at "go"
          refine k_mulB (m := 40) (n := 40) (by omega) (by decide) (by decide) ?_
          walk_at "go"
          refine k_mulB (m := 40) (n := 40) (by omega) (by decide) (by decide) ?_
          walk_at "go"
          exact ⟨_, by omega, by omega, rfl, rfl⟩
        · walk_at "go"
          exact ⟨_, r0, r1, rfl, rfl⟩
      · walk_at "go"
        exact ⟨_, r0, r1, rfl, rfl⟩
    · rintro σ H2 ⟨c, t1, t2, ds, rfl, s2, hl2, hn, hd, c0, c1⟩
      walk_at "go"
      refine k_rev1 (SqL.of hl2) (fun p H3 np s3 hp => ?_)
      refine kk p ds.reverse H3 (s2.trans s3) (s2.free np) ?_ (by simp [hn]) (fun d hd' => hd d (List.mem_reverse.mp hd'))
      rw [hp, List.map_reverse]
end
end Lw
namespace Lw
open PySem PySem.Spec PyProof.Rows L2 Gx
section
variable {P : Program} {w : World} {K : PySem.W.Frag} {mg : Str → Option Value} {base : Heap} {f : Addr} {fd : FuncData}
theorem ok__law_due (F : FnP K "_law_due" "_law_due" s__law_due f fd) (T : Txt K mg) : FnOk P w K mg base (L2.CX P w) 1 f fd ["_law_many", "_law_numbers", "_law_again"] (sp__law_due K) := by
  refine F.ok sc__law_due (fun vs H Q E h => ?_) (fun cdv A outer s H vs Q E hr h => ?_)
  · obtain ⟨m, p, ns, b, rfl, _⟩ := h; rfl
  · refine ⟨_, (pss_cons (ps_set (i := 3) sc__law_due.nd rfl (Or.inl rfl) (pe_lst pa_nil)) (pss_cons (ps_set (i := 4) sc__law_due.nd rfl (Or.inl rfl) (pe_lst pa_nil)) (pss_cons (ps_for (passes_of rfl) rfl (pi_seqU (pv 1)) (pg_name (i := 5) sc__law_due.nd rfl (Or.inl rfl)) (pss_cons (ps_if (PW.pt (pw_or (pt_cmpR op_lt (pv 5) pe_int (nomark _)) (pw_or1 (pt_cmpR op_ge (pv 5) (pe_op op_sub (pv 0) (pe_callB call_lenU (by rfl) T.n_len (by decide +kernel) (pa_cons (pv 3) pa_nil))) (nomark _))))) (pss_one (ps_ret pe_non)) pss_nil) (pss_cons (ps_set (i := 6) sc__law_due.nd rfl (Or.inl rfl) pe_int) (pss_cons (ps_set (i := 7) sc__law_due.nd rfl (Or.inl rfl) (pv 5)) (pss_cons (ps_while (passes_of rfl) (PW.pt (pw_or (pt_cmpR (op_inK (K := K) rfl) (pv 6) (pv 3) (by with_unfolding_all rfl)) (pw_or1 (pt_cmpR op_gt (pv 7) pe_int (nomark _))))) (C8.pss_cut (ps_if (pt_cmpR (op_niK (K := K) rfl) (pv 6) (pv 3) (by with_unfolding_all rfl)) (pss_one (ps_set (i := 7) sc__law_due.nd rfl (Or.inl rfl) (pe_op op_sub (pv 7) pe_int))) pss_nil) (pss_one (ps_set (i := 6) sc__law_due.nd rfl (Or.inl rfl) (pe_op (op_addK (K := K) rfl) (pv 6) pe_int))))) (pss_cons (ps_expr (pe_bm PySem.F.plainAttrs_list PySem.F.slot_list_append PySem.F.type_list_append mt_append (pv 4) (pa_cons (pv 6) pa_nil))) (pss_one (ps_if (pt_not (pt_val (pv 2))) (pss_one (ps_expr (pe_bm PySem.F.plainAttrs_list PySem.F.slot_list_append PySem.F.type_list_append mt_append (pv 3) (pa_cons (pv 6) pa_nil)))) pss_nil)))))))) (pss_one (ps_ret (pe_callTy call_tupU (by rfl) T.n_tuple (by decide +kernel) (pa_cons (pv 4) pa_nil))))))), ?_⟩
    obtain ⟨m, p, ns, b, rfl, hp, hm, hn, kk⟩ := h
    walk_at "go"
    refine k_lstx (fun g H1 ng s1 hg1 => ?_) (by simp)
    walk_at "go"
    refine k_lstx (fun f H2 nf s2 hf2 => ?_) (by simp)
    walk_at "go"
    have ngf : g ≠ f := ne_of_none hg1 nf
    have hp2 := seqL_same s2 (seqL_same s1 hp)
    refine k_itUL hp2 ?_
    refine k_loopL (fun i σ H' => ∃ (t1 t2 t3 : Option V) (gone found : List Int), σ = [some (.int (m : Int)), some (.ref p), some (.bl b), some (.ref g), some (.ref f), t1, t2, t3] ∧ Same H H' ∧ H' g = some (.lst (gone.map V.int)) ∧ H' f = some (.lst (found.map V.int)) ∧
        (∀ x ∈ gone, 0 ≤ x ∧ x < (m : Int)) ∧ gone.length ≤ i ∧ ((D24.ng gone (Dw.rg m)).length : Int) = (m : Int) - (gone.length : Int) ∧ (b = true → gone = []) ∧ found.length = i ∧ Dw.dr b (Dw.rg m) ns [] = Dw.dr b (D24.ng gone (Dw.rg m)) (ns.drop i) found)
      ⟨none, none, none, [], [], rfl, s1.trans s2, s2 _ _ hg1, hf2, fun _ h => (nomatch h), Nat.le_refl _, ?_, fun _ => rfl, rfl, ?_⟩ (fun i σ H' _ h => by obtain ⟨_, _, _, _, _, _, h, _⟩ := h; exact seqL_same h hp) ?_ ?_
    · rw [show D24.ng [] (Dw.rg m) = Dw.rg m by simp [D24.ng], Dw.rg_len]
      simp
    · rw [show D24.ng [] (Dw.rg m) = Dw.rg m by simp [D24.ng]]
      rfl
    · rintro i x σ H3 hx ⟨t1, t2, t3, gone, found, rfl, s3, hg3, hf3, hgm, hgl, hcl, hb, hfl, e⟩
      obtain ⟨n, hni, rfl⟩ : ∃ n, ns[i]? = some n ∧ x = V.int n := by
        rw [List.getElem?_map] at hx
        cases q : ns[i]? with
        | none => rw [q] at hx; cases hx
        | some n => rw [q] at hx; exact ⟨n, rfl, (Option.some.inj hx).symm⟩
      have hi : i < ns.length := (List.getElem?_eq_some_iff.mp hni).1
      have hdrop : ns.drop i = n :: ns.drop (i + 1) := by
        rw [List.drop_eq_getElem_cons hi]
        congr 1
        exact (List.getElem?_eq_some_iff.mp hni).2
      rw [hdrop] at e
      have lm : (gone.map V.int).length = gone.length := List.length_map ..
      have bad : ¬ (0 ≤ n ∧ n < (m : Int) - (gone.length : Int)) → Q .non H3 := fun c => by
        refine kk .non H3 s3 ?_
        rw [e]
        show Dp K H3 .non (toldD (if _ then _ else _))
        rw [if_neg (by rw [hcl]; exact c)]
        exact .non
      walk_at "go"
      refine k_if (fun c => ?_) (fun c => ?_)
      · walk_at "go"
        exact bad (by omega)
      · walk_at "go"
        refine k_lenL ?_ (SqL.of hg3)
        walk_at "go"
        refine k_if (fun c2 => ?_) (fun c2 => ?_)
        · walk_at "go"
          exact bad (by omega)
        · walk_at "go"
          have hn0 : 0 ≤ n := by omega
          have hn1 : n < (m : Int) - (gone.length : Int) := by omega
          -- the search: behind bal ballots
          refine k_while (fun k σ H' => H' = H3 ∧ ∃ bal : Nat, k = m - bal ∧ bal ≤ m ∧ ((D24.ng gone (Dw.rg bal)).length : Int) ≤ n ∧ σ = [some (.int (m : Int)), some (.ref p), some (.bl b), some (.ref g), some (.ref f), some (.int n), some (.int (bal : Int)), some (.int (n - ((D24.ng gone (Dw.rg bal)).length : Int)))])
            m ⟨rfl, 0, rfl, Nat.zero_le _, by simp [Dw.rg, D24.ng]; omega, by simp [Dw.rg, D24.ng]⟩ ?_
          rintro k σ H' ⟨rfl, bal, rfl, hbm, hcb, rfl⟩
          have fin : ∀ (hbal : (bal : Int) ∈ gone ∨ 0 < n - ((D24.ng gone (Dw.rg bal)).length : Int)), bal < m := fun hbal => by
            rcases Nat.lt_or_ge bal m with h | h
            · exact h
            · have hbm' : bal = m := by omega
              subst hbm'
              rcases hbal with h | h
              · have := hgm _ h; omega
              · rw [hcl] at h; omega
          walk_at "go"
          refine k_in (b := gone.contains (bal : Int)) (.inl (SqL.of hg3)) rfl (D24.flat_ints gone) D24.in_ints ?_
          walk_at "go"
          cases hin : gone.contains (bal : Int) with
          | true =>
            have hmem : (bal : Int) ∈ gone := by simpa using hin
            have hlt := fin (.inl hmem)
            walk_at "go"
            refine k_wN ?_
            walk_at "go"
            refine k_cut0 ?_
            walk_at "go"
            refine k_ni (b := true) (.inl (SqL.of hg3)) rfl (D24.flat_ints gone) (by rw [D24.in_ints]; exact hin) ?_
            walk_at "go"
            exact ⟨m - (bal + 1), by omega, rfl, bal + 1, rfl, by omega, by rw [D24.cnt_in hmem]; exact hcb, by rw [D24.cnt_in hmem]; rfl⟩
          | false =>
            have hmem : (bal : Int) ∉ gone := by simpa using hin
            walk_at "go"
            refine k_if (fun c3 => ?_) (fun c3 => ?_)
            · have hlt := fin (.inr c3)
              refine k_wN ?_
              walk_at "go"
              refine k_cut0 ?_
              walk_at "go"
              refine k_ni (b := false) (.inl (SqL.of hg3)) rfl (D24.flat_ints gone) (by rw [D24.in_ints]; exact hin) ?_
              walk_at "go"
              refine ⟨m - (bal + 1), by omega, rfl, bal + 1, rfl, by omega, ?_, ?_⟩
              · rw [D24.cnt_out hmem]; simp; omega
              · rw [D24.cnt_out hmem]
                have : n - ((D24.ng gone (Dw.rg bal)).length : Int) - 1 = n - (((D24.ng gone (Dw.rg bal)) ++ [(bal : Int)]).length : Int) := by simp; omega
                rw [this]
                rfl
            · have hn2 : ((D24.ng gone (Dw.rg bal)).length : Int) = n := by omega
              have hnn : (D24.ng gone (Dw.rg bal)).length = n.toNat := by omega
              have hlt : bal < m := by
                rcases Nat.lt_or_ge bal m with h | h
                · exact h
                · have hbm' : bal = m := by omega
                  subst hbm'
                  rw [hcl] at hn2; omega
              have hat := D24.at_ hlt hmem hnn
              have her := D24.erase_ hlt hmem hnn
              have e2 : Dw.dr b (Dw.rg m) ns [] = Dw.dr b (if b then D24.ng gone (Dw.rg m) else D24.ng (gone ++ [(bal : Int)]) (Dw.rg m)) (ns.drop (i + 1)) (found ++ [(bal : Int)]) := by
                rw [e]
                show (if _ then _ else _) = _
                rw [if_pos ⟨hn0, by rw [hcl]; exact hn1⟩, hat, her]
              walk_at "go"
              refine ⟨k_app0 hf3, ?_⟩
              walk_at "go"
              refine k_app1 hf3 (by rw [List.length_map, sizeLine_eq]; omega) (fun H4 b4 hf4 => ?_)
              have hf4' : H4 f = some (.lst ((found ++ [(bal : Int)]).map V.int)) := by rw [hf4]; simp
              have nf0 : H f = none := s1.free nf
              have s4 : Same H H4 := But.same nf0 s3 b4
              have hg4 := b4 _ _ ngf hg3
              cases b with
              | true =>
                walk_at "go"
                exact ⟨_, _, _, gone, _, rfl, s4, hg4, hf4', hgm, by omega, hcl, hb, by simp [hfl], e2⟩
              | false =>
                walk_at "go"
                refine ⟨k_app0 hg4, ?_⟩
                walk_at "go"
                refine k_app1 hg4 (by rw [List.length_map, sizeLine_eq]; omega) (fun H5 b5 hg5 => ?_)
                refine ⟨_, _, _, gone ++ [(bal : Int)], _, rfl, But.same ng s4 b5, by rw [hg5]; simp, b5 _ _ (Ne.symm ngf) hf4', ?_, by simp; omega, ?_, fun z => (nomatch z), by simp [hfl], e2⟩
                · intro x hx
                  rcases List.mem_append.mp hx with h | h
                  · exact hgm x h
                  · rw [List.mem_singleton.mp h]; omega
                · rw [← her, List.length_eraseIdx, if_pos (by omega)]
                  simp
                  omega
    · rintro σ H3 ⟨t1, t2, t3, gone, found, rfl, s3, hg3, hf3, hgm, hgl, hcl, hb, hfl, e⟩
      rw [List.length_map, List.drop_length] at e
      walk_at "go"
      refine k_tupL (SqL.of hf3) (fun q H4 nq s4 hq4 => ?_)
      refine kk (.ref q) H4 (s3.trans s4) ?_
      rw [e]
      exact .tup (SqT.of hq4) (Dk.dp_all found)
end
end Lw
namespace Lw
open PySem PySem.Spec PyProof.Rows L2 Gx
section
variable {P : Program} {w : World} {K : PySem.W.Frag} {mg : Str → Option Value} {base : Heap} {f : Addr} {fd : FuncData}
theorem ok__law_told (F : FnP K "_law_told" "_law_told" s__law_told f fd) (T : Txt K mg) (c_drawn : Cl P w K mg base 1 "drawn" ["many", "numbers", "again"] (sp_drawn K)) : FnOk P w K mg base (L2.CX P w) 2 f fd ["_law_many", "_law_numbers", "_law_again"] (sp__law_told K) := by
  refine F.ok sc__law_told (fun vs H Q E h => ?_) (fun cdv A outer s H vs Q E hr h => ?_)
  · obtain ⟨m, p, ns, b, rfl, _⟩ := h; rfl
  · refine ⟨_, (pss_cons (ps_set (i := 3) sc__law_told.nd rfl (Or.inl rfl) pe_non) (pss_cons (ps_try_as (i := 4) rfl rfl sc__law_told.nd rfl rfl ⟨rfl, by decide, Or.inl T.g_SureError⟩ (takes_of rfl rfl rfl rfl) (fun W pn xe tk po => (pss_one (ps_set (i := 3) sc__law_told.nd rfl (Or.inl rfl) (pcall c_drawn hr (by first | decide | omega) tk (pa_cons (pv 0) (pa_cons (pv 1) (pa_cons (pv 2) pa_nil))))))) (fun a oe cls d pn hz hf => (pss_cons (ps_set (i := 5) sc__law_told.nd rfl (Or.inl rfl) (pe_lst (pa_cons (pe_callB (call_isEU hz hf) (by rfl) T.n_isinstance (by decide +kernel) (pa_cons (pv 4) (pa_cons (C8.pe_gc (v := .ref (He.ga K "Ended")) (by rfl) T.c_Ended) pa_nil))) (pa_cons (pe_callB (call_isEU hz hf) (by rfl) T.n_isinstance (by decide +kernel) (pa_cons (pv 4) (pa_cons (C8.pe_gc (v := .ref (He.ga K "NoBallot")) (by rfl) T.c_NoBallot) pa_nil))) (pa_cons (pe_callB (call_isEU hz hf) (by rfl) T.n_isinstance (by decide +kernel) (pa_cons (pv 4) (pa_cons (C8.pe_gc (v := .ref (He.ga K "TooMany")) (by rfl) T.c_TooMany) pa_nil))) pa_nil))))) (pss_one (ps_if (PW.pt (pw_or (pt_not (pt_val (pe_callB (call_isEU hz hf) (by rfl) T.n_isinstance (by decide +kernel) (pa_cons (pv 4) (pa_cons (C8.pe_gc (v := .ref (He.ga K "NoNumber")) (by rfl) T.c_NoNumber) pa_nil))))) (pw_or (pt_not (pt_val (pe_callB (call_isEU hz hf) (by rfl) T.n_isinstance (by decide +kernel) (pa_cons (pv 4) (pa_cons (pe_bltn (v := .ty "ValueError") (by rfl) T.n_ValueError (by decide +kernel) rfl) pa_nil))))) (pw_or1 (pt_cmpR (op_inK (K := K) rfl) pe_bl (pv 5) (by with_unfolding_all rfl)))))) (pss_one (ps_set (i := 3) sc__law_told.nd rfl (Or.inl rfl) pe_str)) pss_nil))))) (pss_one (ps_ret (pv 3))))), ?_⟩
    obtain ⟨m, p, ns, b, rfl, hp, hm, hn, kk⟩ := h
    walk_at "go"
    refine ⟨m, p, ns, b, rfl, hp, hm, hn, fun e H1 s1 => ?_, fun out e q H1 s1 hq => ?_⟩
    · refine ⟨true, T.m_NoNumber_SureError, fun _ a na => ?_, fun z => (nomatch z)⟩
      walk_at "go"
      refine k_isE T.e_NoNumber T.i_NoNumber_Ended (fun _ h => h) ?_
      walk_at "go"
      refine k_isE T.e_NoNumber T.i_NoNumber_NoBallot (fun _ h => h) ?_
      walk_at "go"
      refine k_isE T.e_NoNumber T.i_NoNumber_TooMany (fun _ h => h) ?_
      walk_at "go"
      refine k_lstx (fun l1 H2 n1 s2 h1 => ?_) (by simp [sizeLine_eq])
      walk_at "go"
      refine k_isE T.e_NoNumber T.i_NoNumber_NoNumber (fun _ h => h) ?_
      walk_at "go"
      refine k_isE T.e_NoNumber T.i_NoNumber_ValueError (fun _ h => h) ?_
      walk_at "go"
      refine k_in (b := false) (.inl (SqL.of h1)) rfl rfl rfl ?_
      walk_at "go"
      refine kk .non H2 (s1.trans s2) ?_ (fun _ => rfl)
      rw [e]
      exact .non
    · walk_at "go"
      refine kk (.ref q) H1 s1 ?_ (fun z => by rw [e] at z; cases z)
      rw [e]
      exact .tup hq (Dk.dp_all out)
end
end Lw
namespace Lw
open PySem PySem.Spec PyProof.Rows L2 Gx
section
variable {P : Program} {w : World} {K : PySem.W.Frag} {mg : Str → Option Value} {base : Heap} {f : Addr} {fd : FuncData}
theorem ok_law (F : FnP K "law" "law" s_law f fd) (T : Txt K mg) (c__law_whole : Cl P w K mg base 1 "_law_whole" ["_law_found"] (sp__law_whole K)) (c_drawn : Cl P w K mg base 1 "drawn" ["many", "numbers", "again"] (sp_drawn K)) (c__law_told : Cl P w K mg base 2 "_law_told" ["_law_many", "_law_numbers", "_law_again"] (sp__law_told K)) (c__law_due : Cl P w K mg base 1 "_law_due" ["_law_many", "_law_numbers", "_law_again"] (sp__law_due K)) (c__law_deck : Cl P w K mg base 2 "_law_deck" ["_law_script", "_law_most"] (sp__law_deck K)) : FnOk P w K mg base CX0 3 f fd ["_law_script"] (sp_law K) := by
  refine F.ok sc_law (fun vs H Q E h => ?_) (fun cdv A outer s H vs Q E hr h => ?_)
  · obtain ⟨a, ns, rfl, _⟩ := h; rfl
  · refine ⟨_, PSs.nox (pss_cons (ps_set (i := 1) sc_law.nd rfl (Or.inl rfl) (pcallN c__law_deck hr (by first | decide | omega) (pa_cons (pv 0) (pa_cons pe_int pa_nil)))) (pss_cons (ps_set (i := 2) sc_law.nd rfl (Or.inl rfl) (pe_bm0 PySem.F.plainAttrs_list PySem.F.slot_list_pop PySem.F.type_list_pop mt_pop (pv 1))) (pss_cons (ps_set (i := 3) sc_law.nd rfl (Or.inl rfl) (pe_op (op_addK (K := K) rfl) pe_int (pe_op op_modN (pv 2) pe_int))) (pss_cons (ps_set (i := 4) sc_law.nd rfl (Or.inl rfl) (pe_cmpR (op_eqK (K := K) rfl hr) (pe_op op_modN (pe_op op_fdivG (pv 2) pe_int) pe_int) pe_int (nomark _))) (pss_cons (ps_set (i := 5) sc_law.nd rfl (Or.inl rfl) (pe_op op_modN (pe_op op_fdivG (pv 2) pe_int) pe_int)) (C8.pss_cut (ps_if (pt_not (pt_val (pv 4))) (pss_one (ps_set (i := 5) sc_law.nd rfl (Or.inl rfl) (pe_ix (ix_K (K := K) rfl) (pe_lst (pa_cons (pe_op op_modN (pv 5) (pe_op (op_addK (K := K) rfl) (pv 3) pe_int)) (pa_cons (pe_op op_modN (pv 5) (pe_op (op_addK (K := K) rfl) (pv 3) pe_int)) (pa_cons (pe_callB (call_minU rfl) (by rfl) T.n_min (by decide +kernel) (pa_cons (pv 3) (pa_cons pe_int pa_nil))) pa_nil)))) (pe_op op_modN (pe_op op_fdivG (pv 2) pe_int) pe_int) (fun _ _ => rfl)))) pss_nil) (pss_cons (ps_set (i := 6) sc_law.nd rfl (Or.inl rfl) (pe_lst pa_nil)) (pss_cons (ps_for PassesOwn.never rfl (pi_range1 rfl T.n_range (pa_cons (pv 5) pa_nil)) (pg_name (i := 7) sc_law.nd rfl (Or.inl rfl)) (pss_one (ps_expr (pe_bm PySem.F.plainAttrs_list PySem.F.slot_list_append PySem.F.type_list_append mt_append (pv 6) (pa_cons (pe_op op_modN (pe_bm0 PySem.F.plainAttrs_list PySem.F.slot_list_pop PySem.F.type_list_pop mt_pop (pv 1)) (pe_op op_sub (pv 3) (pe_op (op_mulK (K := K) rfl) (pv 7) (pe_callTy call_intU (by rfl) T.n_int (by decide +kernel) (pa_cons (pe_not (pv 4)) pa_nil))))) pa_nil))))) (pss_cons (ps_if (pt_cmpR (op_neK (K := K) rfl hr) (pcallN c__law_told hr (by first | decide | omega) (pa_cons (pv 3) (pa_cons (pe_callTy call_tupU (by rfl) T.n_tuple (by decide +kernel) (pa_cons (pv 6) pa_nil)) (pa_cons (pv 4) pa_nil)))) (pcallN c__law_due hr (by first | decide | omega) (pa_cons (pv 3) (pa_cons (pv 6) (pa_cons (pv 4) pa_nil)))) (nomark _)) (pss_one (ps_ret pe_bl)) pss_nil) (pss_cons (ps_for PassesOwn.never rfl (pi_range1 rfl T.n_range (pa_cons pe_int pa_nil)) (pg_name (i := 7) sc_law.nd rfl (Or.inl rfl)) (pss_cons (ps_set (i := 8) sc_law.nd rfl (Or.inl rfl) (pe_bm0 PySem.F.plainAttrs_list PySem.F.slot_list_pop PySem.F.type_list_pop mt_pop (pv 1))) (pss_cons (ps_set (i := 9) sc_law.nd rfl (Or.inl rfl) (pe_op op_modN (pe_op op_fdivG (pv 8) pe_int) (pe_op (op_addK (K := K) rfl) (pv 5) pe_int))) (pss_cons (ps_set (i := 10) sc_law.nd rfl (Or.inl rfl) (pe_op op_sub (pv 3) (pe_op (op_mulK (K := K) rfl) (pv 9) (pe_callTy call_intU (by rfl) T.n_int (by decide +kernel) (pa_cons (pe_not (pv 4)) pa_nil))))) (pss_cons (ps_set (i := 11) sc_law.nd rfl (Or.inl rfl) (pe_ix (ix_K (K := K) rfl) (pe_lst (pa_cons (pe_un un_neg pe_int) (pa_cons (pv 10) (pa_cons (pe_op (op_addK (K := K) rfl) (pe_op (op_addK (K := K) rfl) (pv 10) pe_int) (pe_op op_modN (pe_op op_fdivG (pv 8) pe_int) (pe_op op_pow pe_int pe_int))) (pa_cons (pe_op op_sub (pe_un un_neg pe_int) (pe_op op_modN (pe_op op_fdivG (pv 8) pe_int) (pe_op op_pow pe_int pe_int))) pa_nil))))) (pe_op op_modN (pv 8) pe_int) (fun _ _ => rfl))) (pss_cons (ps_set (i := 12) sc_law.nd rfl (Or.inl rfl) (pe_callTy call_tupU (by rfl) T.n_tuple (by decide +kernel) (pa_cons (pe_op (op_addK (K := K) rfl) (pe_op (op_addK (K := K) rfl) (pe_slice (sl_K (K := K) rfl) (pv 6) po_none (po_some (pv 9))) (pe_lst (pa_cons (pv 11) pa_nil))) (pe_slice (sl_K (K := K) rfl) (pv 6) (po_some (pv 9)) po_none)) pa_nil))) (pss_one (ps_if (pt_cmpR op_notNU (pcallN c__law_told hr (by first | decide | omega) (pa_cons (pv 3) (pa_cons (pv 12) (pa_cons (pv 4) pa_nil)))) pe_non (nomark _)) (pss_one (ps_ret pe_bl)) pss_nil)))))))) (pss_cons (ps_set (i := 13) sc_law.nd rfl (Or.inl rfl) (pcallN c_drawn hr (by first | decide | omega) (pa_cons (pv 3) (pa_cons (pe_callTy call_tupU (by rfl) T.n_tuple (by decide +kernel) (pa_cons (pv 6) pa_nil)) (pa_cons (pv 4) pa_nil))))) (pss_one (ps_ret (pe_and (pe_callB call_isi (by rfl) T.n_isinstance (by decide +kernel) (pa_cons (pv 13) (pa_cons (pe_bltn (v := .ty "tuple") (by rfl) T.n_tuple (by decide +kernel) rfl) pa_nil))) (pe_one (pe_cmpR (op_eqK (K := K) rfl hr) (pe_lc (own := [("_law_ballot", 14)]) (g := gName 14) (by rfl) sc_law.nd (pi_seqU (pv 13)) (blkOk_by (own := [("_law_ballot", 14)]) (N := ["_law_script", "_law_deck_here", "_law_head", "_law_many", "_law_again", "_law_size", "_law_numbers", "_law_k", "_law_cell", "_law_at", "_law_left", "_law_odd", "_law_bent", "_law_found", "_law_ballot"]) (sc := defScope s_law) (by decide +kernel)) (fun _ _ _ _ _ => pg_name (i := 14) sc_law.nd rfl (Or.inl rfl)) (fun _ _ _ _ _ => (pts_one (pt_not (pt_val (pcallN c__law_whole hr (by first | decide | omega) (pa_cons (pv 14) pa_nil)))))) (fun _ _ _ _ _ => pe_int)) (pe_lst pa_nil) (nomark _))))))))))))))))), ?_⟩
    obtain ⟨a, ns, rfl, hS, hl, kk⟩ := h
    walk_at "go"
    refine ⟨a, ns, 63, rfl, hS, hl, by decide, fun l ds H1 s1 nl hl1 hn hd => ?_⟩
    walk_at "go"
    obtain ⟨es, e, rfl⟩ := Dk.last ds (by omega)
    obtain ⟨hd, e0, e1⟩ := hd.last
    rw [List.map_append] at hl1
    refine k_pop hl1 (fun H2 b2 hl2 => ?_)
    walk_at "go"
    obtain ⟨m, em⟩ := Int.eq_ofNat_of_zero_le (show 0 ≤ 1 + e % 60 by omega)
    have hm1 : 1 ≤ m ∧ m ≤ 60 := by omega
    rw [em]
    generalize decide (e / 60 % 2 = 1) = b
    refine k_cut (fun σ H' => ∃ (n : Nat), n ≤ 50 ∧ (b = false → n ≤ m) ∧ Same H2 H' ∧ σ = [some (.ref a), some (.ref l), some (.int e), some (.int (m : Int)), some (.bl b), some (.int (n : Int)), none, none, none, none, none, none, none, none, none]) ?_ (fun σ H3 => ?_)
    · cases b with
      | true =>
        walk_at "go"
        obtain ⟨n, en⟩ := Int.eq_ofNat_of_zero_le (show 0 ≤ e / 120 % 51 by omega)
        rw [en]
        exact ⟨n, by omega, fun z => (nomatch z), Same.refl _, rfl⟩
      | false =>
        walk_at "go"
        have v0 := Int.emod_nonneg (e / 120 % 51) (show ((m : Int) + 1) ≠ 0 by omega)
        have v1 := Int.emod_lt_of_pos (e / 120 % 51) (show (0 : Int) < (m : Int) + 1 by omega)
        refine k_lstx (fun q H4 nq s4 hq => ?_) (by simp [sizeLine_eq])
        walk_at "go"
        have : ∃ n : Nat, n ≤ 50 ∧ n ≤ m ∧ atI [V.int (e / 120 % 51 % ((m : Int) + 1)), V.int (e / 120 % 51 % ((m : Int) + 1)), V.int (min (m : Int) 50)] (e / 6120 % 3) = some (.int (n : Int)) := by
          have c : e / 6120 % 3 = 0 ∨ e / 6120 % 3 = 1 ∨ e / 6120 % 3 = 2 := by omega
          have w : e / 120 % 51 % ((m : Int) + 1) ≤ 50 := by
            have : e / 120 % 51 % ((m : Int) + 1) ≤ e / 120 % 51 := Dk.emod_le (by omega) (by omega)
            omega
          obtain ⟨z, ez⟩ := Int.eq_ofNat_of_zero_le v0
          obtain ⟨y, ey⟩ := Int.eq_ofNat_of_zero_le (show 0 ≤ min (m : Int) 50 by omega)
          rcases c with c | c | c
          · exact ⟨z, by omega, by omega, by rw [c, ez]; rfl⟩
          · exact ⟨z, by omega, by omega, by rw [c, ez]; rfl⟩
          · exact ⟨y, by omega, by omega, by rw [c, ey]; rfl⟩
        obtain ⟨n, n5, nm, hat⟩ := this
        refine k_ixL (SqL.of hq) hat ?_
        walk_at "go"
        exact ⟨n, n5, fun _ => nm, s4, rfl⟩
    rintro ⟨N, n5, nm, s3, rfl⟩
    have hl3 := s3 _ _ hl2
    walk_at "go"
    refine k_lstx (fun p H4 np s4 hp => ?_) (by simp)
    walk_at "go"
    have nlp : l ≠ p := ne_of_none hl3 np
    refine k_rng1 (by omega) ?_
    rw [show ((N : Int)).toNat = N by omega]
    refine k_loopR (n := N) (fun i σ H' => ∃ (t : Option V) (ds ns : List Int), σ = [some (.ref a), some (.ref l), some (.int e), some (.int (m : Int)), some (.bl b), some (.int (N : Int)), some (.ref p), t, none, none, none, none, none, none, none] ∧
      H' l = some (.lst (ds.map V.int)) ∧ ds.length + i = 62 ∧ Deck ds ∧ H' p = some (.lst (ns.map V.int)) ∧ ns.length = i ∧ OkN b m ns) ⟨none, es, [], rfl, s4 _ _ hl3, by simp at hn; omega, hd, hp, rfl, fun k n z => by simp at z⟩ ?_ ?_
    · rintro i σ H5 hi ⟨t, ds, ns, rfl, hl5, hn, hd, hp5, hln, hok⟩
      obtain ⟨es, e, rfl⟩ := Dk.last ds (by omega)
      obtain ⟨hd, e0, e1⟩ := hd.last
      walk_at "go"
      refine ⟨k_app0 hp5, ?_⟩
      walk_at "go"
      rw [List.map_append] at hl5
      refine k_pop hl5 (fun H6 b6 hl6 => ?_)
      have hp6 := b6 _ _ (Ne.symm nlp) hp5
      walk_at "go"
      rw [notb]
      refine k_mulB (m := 20) (n := 2) (by omega) (by cases b <;> decide) (by decide) ?_
      walk_at "go"
      have pos : 0 < (m : Int) - (i : Int) * (if b = true then 0 else 1) := by
        cases b with
        | true => simp; omega
        | false => have := nm rfl; simp; omega
      refine k_mod pos ?_
      walk_at "go"
      refine k_app1 hp6 (by rw [List.length_map, sizeLine_eq]; omega) (fun H7 b7 hp7 => ?_)
      exact ⟨_, es, ns ++ [_], rfl, b7 _ _ nlp hl6, by simp at hn; omega, hd, by rw [hp7]; simp; rfl, by simp [hln], okn_add hok (Int.emod_nonneg _ (by omega)) (by rw [hln]; exact Int.emod_lt_of_pos _ pos)⟩
    rintro σ H5 ⟨t, ds, ns, rfl, hl5, hn, hd, hp5, hln, hok⟩
    walk_at "go"
    refine k_tupL (SqL.of hp5) (fun q H6 nq s6 hq => ?_)
    walk_at "go"
    have N50 : ns.length ≤ 1000 := by omega
    refine ⟨m, q, ns, b, rfl, SqT.of hq, by omega, N50, fun v H7 s7 dp _ => ?_⟩
    walk_at "go"
    have hp7 : H7 p = some (.lst (ns.map V.int)) := by walk_at "up"
    refine ⟨m, p, ns, b, rfl, SqL.of hp7, by omega, N50, fun v2 H8 s8 dp2 => ?_⟩
    refine k_neD (dp_same s8 dp) dp2 ?_ (toldD_shaped _) (toldD_shaped _)
    rw [eqv_told]
    walk_at "go"
    refine k_rng1 (by decide) ?_
    refine k_loopR (n := 3) (fun i σ H' => ∃ (t1 t2 t3 t4 t5 t6 : Option V) (ds : List Int), σ = [some (.ref a), some (.ref l), some (.int e), some (.int (m : Int)), some (.bl b), some (.int (N : Int)), some (.ref p), t1, t2, t3, t4, t5, t6, none, none] ∧
      H' l = some (.lst (ds.map V.int)) ∧ ds.length + i + N = 62 ∧ Deck ds ∧ H' p = some (.lst (ns.map V.int))) ⟨_, _, _, _, _, _, ds, rfl, by walk_at "up", by omega, hd, by walk_at "up"⟩ ?_ ?_
    · rintro i σ H9 hi ⟨t1, t2, t3, t4, t5, t6, ds, rfl, hl9, hn, hd, hp9⟩
      obtain ⟨es, e, rfl⟩ := Dk.last ds (by omega)
      obtain ⟨hd, e0, e1⟩ := hd.last
      walk_at "go"
      rw [List.map_append] at hl9
      refine k_pop hl9 (fun H10 b10 hl10 => ?_)
      have hp10 := b10 _ _ (Ne.symm nlp) hp9
      walk_at "go"
      obtain ⟨c, ec⟩ := Int.eq_ofNat_of_zero_le (show 0 ≤ e / 4 % ((N : Int) + 1) from Int.emod_nonneg _ (by omega))
      have hc : c ≤ N := by
        have := Int.emod_lt_of_pos (e / 4) (show (0 : Int) < (N : Int) + 1 by omega)
        omega
      rw [ec]
      rw [notb]
      refine k_mulB (m := 20) (n := 2) (by omega) (by cases b <;> decide) (by decide) ?_
      walk_at "go"
      generalize hL : (m : Int) - (c : Int) * (if b = true then 0 else 1) = L
      refine k_lstx (fun r H11 nr s11 hr => ?_) (by simp [sizeLine_eq])
      walk_at "go"
      have L0 : 0 ≤ L := by
        cases b with
        | true => simp at hL; omega
        | false => have := nm rfl; simp at hL; omega
      have : ∃ x : Int, (x < 0 ∨ L ≤ x) ∧ atI [V.int (-1), V.int L, V.int (L + 1 + e / 300 % 100000), V.int (-1 - e / 300 % 100000)] (e % 4) = some (.int x) := by
        have c : e % 4 = 0 ∨ e % 4 = 1 ∨ e % 4 = 2 ∨ e % 4 = 3 := by omega
        rcases c with c | c | c | c
        · exact ⟨-1, .inl (by decide), by rw [c]; rfl⟩
        · exact ⟨L, .inr (Int.le_refl _), by rw [c]; rfl⟩
        · exact ⟨L + 1 + e / 300 % 100000, .inr (by omega), by rw [c]; rfl⟩
        · exact ⟨-1 - e / 300 % 100000, .inl (by omega), by rw [c]; rfl⟩
      obtain ⟨x, hx, hat⟩ := this
      refine k_ixL (SqL.of hr) hat ?_
      walk_at "go"
      have hp11 := s11 _ _ hp10
      have ln : (ns.map V.int).length = N := by rw [List.length_map, hln]
      refine k_slL (SqL.of hp11) (fun u1 H12 n1 s12 hu1 => ?_)
      rw [Ct.to (by omega)] at hu1
      walk_at "go"
      refine k_lstx (fun u2 H13 n2 s13 hu2 => ?_) (by simp [sizeLine_eq])
      walk_at "go"
      refine k_addL (s13 _ _ hu1) hu2 (fun u3 H14 n3 s14 hu3 => ?_) (by rw [sizeLine_eq, List.length_take]; simp; omega)
      walk_at "go"
      refine k_slL (SqL.of (by walk_at "up" : H14 p = some (.lst (ns.map V.int)))) (fun u4 H15 n4 s15 hu4 => ?_)
      rw [Ct.from_ (by omega)] at hu4
      refine k_addL (s15 _ _ hu3) hu4 (fun u5 H16 n5 s16 hu5 => ?_) (by rw [sizeLine_eq]; simp; omega)
      walk_at "go"
      refine k_tupL (SqL.of hu5) (fun u6 H17 n6 s17 hu6 => ?_)
      walk_at "go"
      have eqm : List.take c (ns.map V.int) ++ [V.int x] ++ List.drop c (ns.map V.int) = (ns.take c ++ x :: ns.drop c).map V.int := by simp
      rw [eqm] at hu6
      have bad := okn_bad (ms := ns.drop c) (x := x) (okn_take (k := c) hok) (by rw [List.length_take, Nat.min_eq_left (by omega), hL]; exact hx)
      refine ⟨m, u6, _, b, rfl, SqT.of hu6, by omega, by simp; omega, fun v H18 s18 _ hv => ?_⟩
      rw [hv bad]
      walk_at "go"
      refine ⟨_, _, _, _, _, _, es, rfl, by walk_at "up", by simp at hn; omega, hd, by walk_at "up"⟩
    rintro σ H9 ⟨t1, t2, t3, t4, t5, t6, ds, rfl, hl9, hn, hd, hp9⟩
    walk_at "go"
    refine k_tupL (SqL.of hp9) (fun u1 H10 n1 s10 hu1 => ?_)
    walk_at "go"
    obtain ⟨out, eo⟩ := okn_ok hok
    refine ⟨m, u1, ns, b, rfl, SqT.of hu1, by omega, N50, fun z => (by rw [eo] at z; cases z), fun out2 e2 w H11 s11 hw => ?_⟩
    walk_at "go"
    refine k_isi (b := true) (.ty "tuple") (ty_tup hw) (kit_ty (by decide +kernel)) ?_
    walk_at "go"
    refine k_lcU (.inr hw) (fun D i ys H' => ys = [] ∧ Same H11 H') (fun D H' nD sD hD => ⟨rfl, sD⟩) (fun D i ys H' nD h => h.2) ?_ ?_
    · rintro D i x ys H' nD hx ⟨rfl, s⟩ hD
      obtain ⟨n, hni, rfl⟩ : ∃ n, out2[i]? = some n ∧ x = V.int n := by
        rw [List.getElem?_map] at hx
        cases q : out2[i]? with
        | none => rw [q] at hx; cases hx
        | some n => rw [q] at hx; exact ⟨n, rfl, (Option.some.inj hx).symm⟩
      refine k_lcB rfl ?_
      walk_at "go"
      refine whole_int ?_
      walk_at "go"
      exact ⟨[], ⟨rfl, s⟩, hD⟩
    · rintro D ys H' nD ⟨rfl, s⟩ hD
      walk_at "go"
      refine k_lstx (fun u2 H12 n2 s12 hu2 => ?_) (by simp)
      refine k_eqD (.lst (SqL.of (s12 _ _ hD)) .nil) (.lst (SqL.of hu2) .nil) ?_ rfl rfl
      rw [show PyData.eqv (.list []) (.list []) = true by simp [PyData.eqv, PyData.eqvAll]]
      exact kk _
end
end Lw
namespace Lw
open PySem PySem.Spec PyProof.Rows L2 Gx
def d_drawn : He.DefD := ⟨("drawn", none), "drawn", "drawn", defArgs s_drawn, defBody s_drawn, defScope s_drawn, [], []⟩
def d__law_whole : He.DefD := ⟨("_law_whole", none), "_law_whole", "_law_whole", defArgs s__law_whole, defBody s__law_whole, defScope s__law_whole, [], []⟩
def d__law_digits : He.DefD := ⟨("_law_digits", none), "_law_digits", "_law_digits", defArgs s__law_digits, defBody s__law_digits, defScope s__law_digits, [], []⟩
def d__law_deck : He.DefD := ⟨("_law_deck", none), "_law_deck", "_law_deck", defArgs s__law_deck, defBody s__law_deck, defScope s__law_deck, [], []⟩
def d__law_due : He.DefD := ⟨("_law_due", none), "_law_due", "_law_due", defArgs s__law_due, defBody s__law_due, defScope s__law_due, [], []⟩
def d__law_told : He.DefD := ⟨("_law_told", none), "_law_told", "_law_told", defArgs s__law_told, defBody s__law_told, defScope s__law_told, [], []⟩
def d_law : He.DefD := ⟨("law", none), "law", "law", defArgs s_law, defBody s_law, defScope s_law, [], []⟩
def fn : List He.DefD := [d_drawn, d__law_whole, d__law_digits, d__law_deck, d__law_due, d__law_told, d_law]
def fa : List He.Fa := [.free "ValueError", .free "bool", .free "int", .free "isinstance", .free "len", .free "list", .free "max", .free "min", .free "range", .free "tuple", .glo "Ended", .glo "NoBallot", .glo "NoNumber", .glo "TooMany", .glo "NoNumber", .glo "SureError", .exm "NoNumber" "SureError" true, .exc "NoNumber", .glo "drawn", .glo "_law_whole", .glo "_law_digits", .glo "_law_deck", .glo "_law_due", .glo "_law_told", .glo "law"]
abbrev R : PySem.W.OpenRow := PySem.W.OpenLaw.row PySem.Challenge.rw_surecount_k24_drawn
def exl : List (PySem.W.Frag → Bool) := [fun K => excB K "NoNumber", fun K => kitB2 K "NoNumber" (.ref (He.ga K "Ended")) false, fun K => kitB2 K "NoNumber" (.ref (He.ga K "NoBallot")) false, fun K => kitB2 K "NoNumber" (.ref (He.ga K "NoNumber")) true, fun K => kitB2 K "NoNumber" (.ref (He.ga K "TooMany")) false, fun K => kitB2 K "NoNumber" (.type "ValueError") true]
def exB (K : PySem.W.Frag) : Bool := exl.all fun f => f K
abbrev hk : PySem.W.Hook := He.hookX 5 fa fn [] [] exB
def ob (s : PySem.W.SharedT) : He.AlX := He.obsX 5 fa fn [] [] exB (HandSHeadRun.getT s)
theorem ob_eq (s : PySem.W.SharedT) : ob s = hk.obs s.abs := He.obsX_eq (HandSHeadRun.getT_eq s)
def loose : List PySem.Str := (["drawn", "_law_whole", "_law_digits", "_law_deck", "_law_due", "_law_told", "SureError", "NoNumber", "Ended", "NoBallot", "TooMany"] : List PySem.Str)
theorem run (w : World) : HandSHeadRun.RunEq R (PySem.W.view R.prog [14]) hk ob 6000 loose w := by
  intro os
  kernel_rfl
theorem facts {P : Program} {w : World} {K : PySem.W.Frag} {h : Heap} {mg : Str → Option Value} {f : Addr} (X : K.In h) (G : h.Ns mainGlobals mg) (hfa : mg ("law" : Str) = some (.ref f)) (c : He.SaysD fa fn K) (cx : (exl.all fun f => f K) = true) :
    ∃ fd : FuncData, (∀ (s : Shared) (v : Value), BindsTo s fd ⟨[v], []⟩ [("_law_script", v)]) ∧ ∀ base : Heap, K.In base → base.Ns mainGlobals mg → FnOk P w K mg base CX0 3 f fd ["_law_script"] (sp_law K) := by
  obtain ⟨fd0, F0⟩ := c.def_ 0 (d := d_drawn) rfl
  obtain ⟨fd1, F1⟩ := c.def_ 1 (d := d__law_whole) rfl
  obtain ⟨fd2, F2⟩ := c.def_ 2 (d := d__law_digits) rfl
  obtain ⟨fd3, F3⟩ := c.def_ 3 (d := d__law_deck) rfl
  obtain ⟨fd4, F4⟩ := c.def_ 4 (d := d__law_due) rfl
  obtain ⟨fd5, F5⟩ := c.def_ 5 (d := d__law_told) rfl
  obtain ⟨fd6, F6⟩ := c.def_ 6 (d := d_law) rfl
  have T : Txt K mg := { n_ValueError := He.free_ok X G (c.fact 0 rfl), n_bool := He.free_ok X G (c.fact 1 rfl), n_int := He.free_ok X G (c.fact 2 rfl), n_isinstance := He.free_ok X G (c.fact 3 rfl), n_len := He.free_ok X G (c.fact 4 rfl), n_list := He.free_ok X G (c.fact 5 rfl), n_max := He.free_ok X G (c.fact 6 rfl), n_min := He.free_ok X G (c.fact 7 rfl), n_range := He.free_ok X G (c.fact 8 rfl), n_tuple := He.free_ok X G (c.fact 9 rfl), c_Ended := ⟨_, He.glo_ok X G (c.fact 10 rfl), rfl⟩, c_NoBallot := ⟨_, He.glo_ok X G (c.fact 11 rfl), rfl⟩, c_NoNumber := ⟨_, He.glo_ok X G (c.fact 12 rfl), rfl⟩, c_TooMany := ⟨_, He.glo_ok X G (c.fact 13 rfl), rfl⟩, g_NoNumber := He.glo_ok X G (c.fact 14 rfl), g_SureError := He.glo_ok X G (c.fact 15 rfl), m_NoNumber_SureError := He.exm_ok (c.fact 16 rfl), x_NoNumber := He.exc_ok (c.fact 17 rfl), e_NoNumber := excB_ok (xat cx 0 rfl), i_NoNumber_Ended := of_decide_eq_true (xat cx 1 rfl), i_NoNumber_NoBallot := of_decide_eq_true (xat cx 2 rfl), i_NoNumber_NoNumber := of_decide_eq_true (xat cx 3 rfl), i_NoNumber_TooMany := of_decide_eq_true (xat cx 4 rfl), i_NoNumber_ValueError := of_decide_eq_true (xat cx 5 rfl) }
  have g_drawn := He.glo_ok X G (c.fact 18 (f := .glo "drawn") rfl)
  have g__law_whole := He.glo_ok X G (c.fact 19 (f := .glo "_law_whole") rfl)
  have g__law_digits := He.glo_ok X G (c.fact 20 (f := .glo "_law_digits") rfl)
  have g__law_deck := He.glo_ok X G (c.fact 21 (f := .glo "_law_deck") rfl)
  have g__law_due := He.glo_ok X G (c.fact 22 (f := .glo "_law_due") rfl)
  have g__law_told := He.glo_ok X G (c.fact 23 (f := .glo "_law_told") rfl)
  have g_law := He.glo_ok X G (c.fact 24 (f := .glo "law") rfl)
  have e := hfa.symm.trans g_law
  cases e
  have b := FunD.bindsA (ps := ["_law_script"]) F6 fun _ _ _ _ _ _ us hl => match us, hl with | [_], _ => rfl
  refine ⟨fd6, fun s v => b s [v] rfl, fun base _ _ => ?_⟩
  have c_drawn : Cl P w K mg base 1 "drawn" ["many", "numbers", "again"] (sp_drawn K) := ⟨_, fd0, ok_drawn F0 T , g_drawn, F0.kp, F0.bindsN fun _ _ _ _ _ _ us hl => match us, hl with | [_, _, _], _ => rfl⟩
  have c__law_whole : Cl P w K mg base 1 "_law_whole" ["_law_found"] (sp__law_whole K) := ⟨_, fd1, ok__law_whole F1 T , g__law_whole, F1.kp, F1.bindsN fun _ _ _ _ _ _ us hl => match us, hl with | [_], _ => rfl⟩
  have c__law_digits : Cl P w K mg base 1 "_law_digits" ["_law_script", "_law_k"] (sp__law_digits K) := ⟨_, fd2, ok__law_digits F2 T , g__law_digits, F2.kp, F2.bindsN fun _ _ _ _ _ _ us hl => match us, hl with | [_, _], _ => rfl⟩
  have c__law_deck : Cl P w K mg base 2 "_law_deck" ["_law_script", "_law_most"] (sp__law_deck K) := ⟨_, fd3, ok__law_deck F3 T c__law_digits, g__law_deck, F3.kp, F3.bindsN fun _ _ _ _ _ _ us hl => match us, hl with | [_, _], _ => rfl⟩
  have c__law_due : Cl P w K mg base 1 "_law_due" ["_law_many", "_law_numbers", "_law_again"] (sp__law_due K) := ⟨_, fd4, ok__law_due F4 T , g__law_due, F4.kp, F4.bindsN fun _ _ _ _ _ _ us hl => match us, hl with | [_, _, _], _ => rfl⟩
  have c__law_told : Cl P w K mg base 2 "_law_told" ["_law_many", "_law_numbers", "_law_again"] (sp__law_told K) := ⟨_, fd5, ok__law_told F5 T c_drawn, g__law_told, F5.kp, F5.bindsN fun _ _ _ _ _ _ us hl => match us, hl with | [_, _, _], _ => rfl⟩
  exact ok_law F6 T c__law_whole c_drawn c__law_told c__law_due c__law_deck
end Lw
open PySem PySem.W PySem.Calls PyProof.Rows
theorem PySem.Challenge.cw_surecount_k24_drawn_holds : PySem.Challenge.rw_surecount_k24_drawn.Holds := by
  w_on; o_law
  refine HandSHeadRun.head_any (r := OpenLaw.row PySem.Challenge.rw_surecount_k24_drawn) (q := view (OpenLaw.row PySem.Challenge.rw_surecount_k24_drawn).prog [14]) (H := Lw.hk) (ob := Lw.ob) (M := 6000) (loose := Lw.loose) (d := HandSHeadRun.topDef (OpenLaw.row PySem.Challenge.rw_surecount_k24_drawn).prog 14) (kwd := []) Lw.ob_eq
    (by kernel_rfl) (fun s => by kernel_rfl) Lw.run (by kernel_rfl) (by kernel_rfl) (by kernel_rfl) (by rfl) (by first | assumption | decide +kernel) (by decide +kernel) ⟨rfl, rfl, rfl, rfl, rfl, by decide +kernel⟩ ?hw ?hc
  case hw => w_witness2
  case hc =>
    refine L2.walk_ofE (l := PySem.Challenge.rw_surecount_k24_drawn) (n := 63) (k := 3) (x := "_law_script") (CX := L2.CX0) rfl (by decide) (by kernel_rfl) ⟨rfl, by decide, by decide⟩ ?F (fun _ _ _ _ z => z)
    case F =>
      intro w mg fa h Y G hmg0
      obtain ⟨K, KX, c⟩ := Y
      have hmg : mg ("law" : PySem.Str) = some (.ref fa) := by
        have e : (HandSHeadRun.topDef (OpenLaw.row PySem.Challenge.rw_surecount_k24_drawn).prog 14).name = ("law" : PySem.Str) := by kernel_rfl
        rw [← e]
        exact hmg0
      obtain ⟨fd, hb, hF⟩ := Lw.facts (P := (PySem.Challenge.rw_surecount_k24_drawn).prog) (w := w) KX G hmg c.t.d c.more
      exact ⟨K, fd, Lw.sp_law K, KX, hb, fun H a ns hl _ hS => ⟨a, ns, rfl, hS, hl, fun _ => rfl⟩, hF⟩
