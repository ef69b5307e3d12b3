import PyProof.Rows.All
import Wide.All
import OpenK.AllK
import Wide.FinOn
import Lean
import HandS.ForMost
import HandS.ForExc
import HandS.Wide
import HandS.WideBits
import HandS.TupAny
import HandS.TupMul
import HandS.Deep
import HandS.IsInst
import HandS.ExcIs
import HandS.Style
import HandS.Codes
import HandS.Conv
import HandS.SetFor
import HandS.Zip
import HandS.Defaults
import HandS.Small
import HandS.HeadEnd
import HandS.HeadHook1
import HandS.HeadHook2
import HandS.HeadHook3
import HandS.HeadHook4
import HandS.Head0
import HandS.Head1
import HandS.Head2
import PySem.Challenge.RW_surecount_k03_totals
set_option Elab.async false
set_option linter.all false
set_option maxRecDepth 100000
set_option maxHeartbeats 4000000
/-! ### own short words over the hand layer -/
namespace Gx
open PySem PySem.Spec PyProof.Rows L2
/-- all but l stays -/
def But (l : Addr) (H H' : Hp) : Prop := ∀ a o, a ≠ l → H a = some o → H' a = some o
theorem But.of {H H' : Hp} {l : Addr} (e : Same H H') : But l H H' := fun a o _ h => e a o h
theorem But.trans {H H1 H2 : Hp} {l : Addr} (a : But l H H1) (b : But l H1 H2) : But l H H2 := fun c o n h => b c o n (a c o n h)
theorem But.upd {H : Hp} {l : Addr} {o : HO} : But l H (upd H l o) := fun a u n h => by
  rw [upd_ne n]
  exact h
theorem same_new {H : Hp} {p : Addr} {o : HO} (h : H p = none) : Same H (upd H p o) := fun b u q => by
  rw [upd_ne (ne_of_none q h)]
  exact q
theorem But.same {H H1 H2 : Hp} {l : Addr} (n : H l = none) (a : Same H H1) (b : But l H1 H2) : Same H H2 := fun c o h => b c o (ne_of_none h n) (a c o h)
/-! ### reading facts through heaps -/
theorem up_same {H H' : Hp} (e : Same H H') {a : Addr} {o : HO} (h : H a = some o) : H' a = some o := e a o h
theorem up_but {H H' : Hp} {l : Addr} (e : But l H H') {a : Addr} {o : HO} (n : a ≠ l) (h : H a = some o) : H' a = some o := e a o n h
theorem seqL_same {K : PySem.W.Frag} {H H' : Hp} (e : Same H H') {a : Addr} {xs : List V} (h : SqL K H a xs) : SqL K H' a xs := e.seq h
theorem seqT_same {K : PySem.W.Frag} {H H' : Hp} (e : Same H H') {a : Addr} {xs : List V} (h : SqT K H a xs) : SqT K H' a xs := by
  rcases h with (h | ⟨o, h⟩) | h
  · exact .inl (.inl (e _ _ h))
  · exact .inl (.inr ⟨o, e _ _ h⟩)
  · exact .inr h
/-- tuples stay while a list changes -/
theorem seqT_but {K : PySem.W.Frag} {H H' : Hp} {l : Addr} {ys : List V} (e : But l H H') (hl : H l = some (.lst ys)) {a : Addr} {xs : List V} (h : SqT K H a xs) : SqT K H' a xs := by
  rcases h with (h | ⟨o, h⟩) | h
  · exact .inl (.inl (e _ _ (ne_of h hl (by intro z; cases z)) h))
  · exact .inl (.inr ⟨o, e _ _ (ne_of h hl (by intro z; cases z)) h⟩)
  · exact .inr h
theorem seqL_but {K : PySem.W.Frag} {H H' : Hp} {l : Addr} (e : But l H H') {a : Addr} (n : a ≠ l) {xs : List V} (h : SqL K H a xs) : SqL K H' a xs := by
  rcases h with (h | ⟨o, h⟩) | h
  · exact .inl (.inl (e _ _ n h))
  · exact .inl (.inr ⟨o, e _ _ n h⟩)
  · exact .inr h
/-! ### a def that may be called -/
structure Cl (P : Program) (w : World) (K : PySem.W.Frag) (mg : Str → Option Value) (base : Heap) (k : Nat) (x : Str) (ps : List Str) (sp : Sp) : Prop where
  ex : ∃ f fd, FnOk P w K mg base (L2.CX P w) k f fd ps sp ∧ mg x = some (.ref f) ∧ PySem.W.keepIn K (.ref f) = true ∧ Binds K fd ps []
section
variable {X : Cx} {W : WX} {e : Expr} {es : List Expr} {p pos : Pos} {t : TA} {x : Str} {ps : List Str} {sp : Sp} {j k : Nat}
theorem pcall (c : Cl X.prog X.w X.K X.mg X.base k x ps sp) (hr : Room j X.A) (hk : k ≤ j) (tk : Takes X W) (ha : PA X (e :: es) t) (hg : Gl X x := by rfl)
    (he : starEach (e :: es) X.env = (false, eval e X.env) :: starEach es X.env := by rfl) (hpl : (backTo pos (starEach es X.env)).any (·.1) = false := by rfl) (hdb : (x == ("__debug__" : Str)) = false := by decide) :
    PE X (.Call (.Name x p) (e :: es) [] pos) (tCallS sp (WE W) t) := by
  obtain ⟨f, fd, F, m, kp, b⟩ := c.ex
  exact pe_callS F (hr.mono hk) hg m kp b (fun σ => passAt tk σ) ha hdb he hpl
theorem pcall0 (c : Cl X.prog X.w X.K X.mg X.base k x ps sp) (hr : Room j X.A) (hk : k ≤ j) (hg : Gl X x := by rfl) (hdb : (x == ("__debug__" : Str)) = false := by decide) :
    PE X (.Call (.Name x p) [] [] pos) (tCall sp [] E0 tNil) := by
  obtain ⟨f, fd, F, m, kp, b⟩ := c.ex
  exact pe_call0 F (hr.mono hk) hg m kp b .nil passL hdb
/-- where nothing may be raised -/
theorem pcallN (c : Cl X.prog X.w X.K X.mg X.base k x ps sp) (hr : Room j X.A) (hk : k ≤ j) (ha : PA X (e :: es) t) (hg : Gl X x := by rfl)
    (he : starEach (e :: es) X.env = (false, eval e X.env) :: starEach es X.env := by rfl) (hpl : (backTo pos (starEach es X.env)).any (·.1) = false := by rfl) (hdb : (x == ("__debug__" : Str)) = false := by decide) :
    PE X (.Call (.Name x p) (e :: es) [] pos) (tCall sp [] E0 t) := by
  obtain ⟨f, fd, F, m, kp, b⟩ := c.ex
  exact pe_call F (hr.mono hk) hg m kp b .nil passL ha hdb he hpl
end
/-- a recursion: nothing is promised at 0 -/
theorem fn_void {P : Program} {w : World} {K : PySem.W.Frag} {mg : Str → Option Value} {base : Heap} {CX : CXT} {k : Nat} {f : Addr} {fd : FuncData} {ps : List Str} {sp : Sp} (h : ∀ vs H Q E, ¬ sp vs H Q E) : FnOk P w K mg base CX k f fd ps sp :=
  ⟨fun vs H Q E z => (h vs H Q E z).elim, fun _ _ _ H _ _ vs Q E _ _ _ _ z => (h vs H Q E z).elim⟩
/-! ### operators, joined -/
section
variable {X : Cx}
def rAddU (K : PySem.W.Frag) : R2 := fun x y H Q => (∃ i j, x = .int i ∧ y = .int j ∧ Q (.int (i + j)) H) ∨ (∃ i j, x = .str i ∧ y = .str j ∧ i.length + j.length ≤ sizeLine ∧ Q (.str (i ++ j)) H) ∨ rCat x y H Q ∨ rCatA K x y H Q
theorem op_addU : OpR X (binaryOp .Add) (rAddU X.K) := op_add.or (op_add_str.or (op_cat.or op_catA))
def rMulU (K : PySem.W.Frag) : R2 := fun x y H Q => (∃ i j, x = .int i ∧ y = .int j ∧ CMulX i j ∧ Q (.int (i * j)) H) ∨ rRep x y H Q ∨ rRepT K x y H Q
theorem op_mulU : OpR X (binaryOp .Mult) (rMulU X.K) := op_mulX.or (op_rep.or op_repT)
def rEqU (K : PySem.W.Frag) : R2 := fun x y H Q => rEq x y H Q ∨ rEqD K x y H Q
def rNeU (K : PySem.W.Frag) : R2 := fun x y H Q => rNe x y H Q ∨ rNeD K x y H Q
theorem op_eqU {k : Nat} (hr : Room k X.A) : OpR X (compareOp .Eq) (rEqU X.K) := op_eq.or (op_eqD hr.units)
theorem op_neU {k : Nat} (hr : Room k X.A) : OpR X (compareOp .NotEq) (rNeU X.K) := op_ne.or (op_neD hr.units)
def CDivG (i j : Int) : Prop := j ≠ 0 ∧ Builtin.divisionGoesByPylong i j = false
theorem noPy_low {i j : Int} (h : j.natAbs < 2 ^ 9000) : Builtin.divisionGoesByPylong i j = false := PyProof.noPylong_of_log2 (PySem.Flt.log2_lt_of (by decide) h)
theorem noPy_mid {i j : Int} (h : i.natAbs < 2 ^ 13500) : Builtin.divisionGoesByPylong i j = false := by
  have e := PySem.Flt.log2_lt_of (by decide) h
  unfold Builtin.divisionGoesByPylong
  simp only [Bool.and_eq_false_iff, decide_eq_false_iff_not]
  by_cases c : j = 0
  · left; simp [c]
  · by_cases c2 : i = 0
    · right; simp [c2]
    · simp [c, c2]; omega
theorem op_fdivG : OpR X (binaryOp .FloorDiv) (rI CDivG fun i j => .int (i.fdiv j)) := opI fun i j _ _ _ _ _ hc q => floordiv_int hc.1 q (.inl hc.2)
end
/-- walking a list or a tuple -/
def rItU (K : PySem.W.Frag) (x : V) (H : Hp) (R : It → Hp → Prop) : Prop := ∃ a, x = .ref a ∧ (((∃ xs, SqL K H a xs) ∧ R (Itl K a) H) ∨ ((∃ xs, SqT K H a xs) ∧ R (Itt K a) H))
def iSeqU (K : PySem.W.Frag) (tl : TE) : TI := fun σ H R => tl σ H fun x H1 => rItU K x H1 R
theorem pi_seqU {X : Cx} {tg l : Expr} {tl : TE} (hl : PE X l tl) : PI X tg l (iSeqU X.K tl) :=
  ⟨fun pins s σ H R I h => thn (hl.run pins s σ H _ I h) fun v s1 z => by
    obtain ⟨x, H1, I1, r1, a, e, z⟩ := z
    cases e
    cases r1
    have fp : ∀ b ∈ [s1.heap.objs.size], FpOk X pins H1 b := fun b hb => by
      obtain rfl : b = s1.heap.objs.size := by simpa using hb
      exact I1.fpOk (Nat.le_refl _) (I1.hok.fresh (Nat.le_refl _))
    rcases z with ⟨⟨xs, hq⟩, q⟩ | ⟨⟨xs, hq⟩, q⟩
    · obtain ⟨its, _, pl, _⟩ := I1.list hq
      exact wpAny_pyIter_list pl.isList ⟨_, [s1.heap.objs.size], _, _, H1, rfl, I1.kept (t' := s1.toks) (fun b o w => Heap.get?_push_of_some _ w), turn_list a _, ⟨_, Heap.get?_push_size _ rfl, rfl, rfl⟩, fp, q⟩
    · obtain ⟨its, _, pt, _⟩ := I1.tuple hq
      exact wpAny_pyIter_tuple (show s1.heap.IsTuple a its.toArray from pt) ⟨_, [s1.heap.objs.size], _, _, H1, rfl, I1.kept (t' := s1.toks) (fun b o w => Heap.get?_push_of_some _ w), turn_tuple a _, ⟨_, Heap.get?_push_size _ rfl, rfl, rfl⟩, fp, q⟩⟩
/-- a tuple's type, a list's type -/
theorem ty_tup {K : PySem.W.Frag} {H : Hp} {p : Addr} {xs : List V} (h : SqT K H p xs) : TyX K H (.ref p) (.type "tuple") := by
  rcases h with (h | ⟨o, h⟩) | ⟨o, its, n, h, c, _⟩
  · exact .base (.tup h)
  · exact .fTuple h
  · exact .kTuple h c
theorem ty_lst {K : PySem.W.Frag} {H : Hp} {p : Addr} {xs : List V} (h : SqL K H p xs) : TyX K H (.ref p) (.type "list") := by
  rcases h with (h | ⟨o, h⟩) | ⟨o, its, n, h, c, _⟩
  · exact .base (.lst h)
  · exact .base (.frz h)
  · exact .kList h c
/-- isinstance(e, c), e the error that a suite holds, its class cls, its dict d -/
def rIsEU (K : PySem.W.Frag) (a : Addr) (cls : Value) (d : Option Addr) : List V → Hp → VK → Prop := fun xs H Q => ∃ D : Addr, cls = .ref D ∧ d = none ∧ ExcC K D ∧ rIsE K D a xs H Q
theorem call_isEU {X : Cx} {a : Addr} {cls : Value} {d : Option Addr} {oe : Obj} {pn : List (Addr × Obj)} (hz : Zc cls d oe) (hf : ∃ vs, oe.data = .fields vs) : CallR (X.suite a ((a, oe) :: pn)) (.builtin "isinstance") (rIsEU X.K a cls d) := by
  intro pins s σ H xs us Q I r h
  obtain ⟨D, rfl, rfl, C, h⟩ := h
  exact call_isE C hz hf pins s σ H xs us Q I r h
theorem k_isE {K : PySem.W.Frag} {H : Hp} {Q : VK} {a D : Addr} {c : V} {cv : Value} {b : Bool} (C : ExcC K D) (hk : PySem.W.kitOne K (.ref D) cv = some b) (hc : ∀ u, RelV c u → u = cv) (q : Q (.bl b) H) : rIsEU K a (.ref D) none [.ref a, c] H Q := ⟨D, rfl, rfl, C, c, cv, b, rfl, hc, hk, q⟩
def excB (K : PySem.W.Frag) (x : Str) : Bool := He.eqO (PySem.W.findIn K (.ref (He.ga K x)) "__getattribute__") (some (some (.builtin "BaseException.__getattribute__"))) && (He.eqO (PySem.W.findIn K (.ref (He.ga K x)) "__getattr__") (some none) &&
  (decide (PySem.W.subIn K (.ref (He.ga K x)) (.type "BaseException") = some true) && (PySem.W.hasDictIn K (He.ga K x) && (He.eqO (PySem.W.findIn K (.ref (He.ga K x)) "__class__") (some (some (.builtin "object.__class__"))) &&
  (He.eqO (PySem.W.specialIn K (.builtin "object.__class__") "__get__") (some (some (.builtin "getset_descriptor.__get__"))) && (decide (PySem.W.takesIn K (.builtin "object.__class__") = some true) && decide (PySem.W.mroIn K (He.ga K x) (.type "object") = some true)))))))
theorem excB_ok {K : PySem.W.Frag} {x : Str} (h : excB K x = true) : ExcC K (He.ga K x) := by
  unfold excB at h
  obtain ⟨h1, h⟩ := He.ba h
  obtain ⟨h2, h⟩ := He.ba h
  obtain ⟨h3, h⟩ := He.ba h
  obtain ⟨h4, h⟩ := He.ba h
  obtain ⟨h5, h⟩ := He.ba h
  obtain ⟨h6, h⟩ := He.ba h
  obtain ⟨h7, h8⟩ := He.ba h
  exact ⟨He.eqO_ok h1, He.eqO_ok h2, of_decide_eq_true h3, h4, He.eqO_ok h5, He.eqO_ok h6, of_decide_eq_true h7, of_decide_eq_true h8⟩
def kitB2 (K : PySem.W.Frag) (x : Str) (c : Value) (b : Bool) : Bool := decide (PySem.W.kitOne K (.ref (He.ga K x)) c = some b)
theorem xat {K : PySem.W.Frag} {l : List (PySem.W.Frag → Bool)} (h : (l.all fun f => f K) = true) (i : Nat) {f : PySem.W.Frag → Bool} (e : l[i]? = some f) : f K = true := List.all_eq_true.mp h f (List.mem_of_getElem? e)
/-! ### readings, step by step -/
section
variable {σ : L2.St} {H : Hp} {Q : VK} {v : V} {ta tb tc te : TE} {tt tu : TT} {K : PySem.W.Frag} {i j : Nat}
theorem k_var (h : σ[i]? = some (some v)) (q : Q v H) : tVar i σ H Q := ⟨v, h, q⟩
theorem k_c (q : Q v H) : tC v σ H Q := q
theorem k_op {r : R2} (q : ta σ H fun x H1 => tb σ H1 fun y H2 => r x y H2 Q) : tOp r ta tb σ H Q := q
theorem k_un {r : V → Hp → VK → Prop} (q : ta σ H fun x H1 => r x H1 Q) : tUn r ta σ H Q := q
theorem k_neg {a : Int} (q : Q (.int (-a)) H) : rU (fun i => .int (-i)) (.int a) H Q := ⟨a, rfl, q⟩
theorem k_I0 {g : Int → Int → V} {a b : Int} (q : Q (g a b) H) : rI0 g (.int a) (.int b) H Q := ⟨a, b, rfl, rfl, q⟩
theorem k_I {C : Int → Int → Prop} {g : Int → Int → V} {a b : Int} (q : Q (g a b) H) (c : C a b) : rI C g (.int a) (.int b) H Q := ⟨a, b, rfl, rfl, c, q⟩
theorem k_addI {a b : Int} (q : Q (.int (a + b)) H) : rAddU K (.int a) (.int b) H Q := .inl ⟨a, b, rfl, rfl, q⟩
theorem k_addS {a b : Str} (q : Q (.str (a ++ b)) H) (c : a.length + b.length ≤ sizeLine) : rAddU K (.str a) (.str b) H Q := .inr (.inl ⟨a, b, rfl, rfl, c, q⟩)
theorem k_addL {a b : Addr} {xs ys : List V} (ha : H a = some (.lst xs)) (hb : H b = some (.lst ys)) (q : ∀ p H', H p = none → Same H H' → H' p = some (.lst (xs ++ ys)) → Q (.ref p) H') (c : xs.length + ys.length ≤ sizeLine) : rAddU K (.ref a) (.ref b) H Q :=
  .inr (.inr (.inl ⟨a, b, xs, ys, rfl, rfl, ha, hb, c, fun p hp => q p _ hp (same_new hp) upd_same⟩))
theorem k_addT {a b : Addr} {xs ys : List V} (ha : SqT K H a xs) (hb : SqT K H b ys) (hx : xs ≠ []) (hy : ys ≠ []) (q : ∀ p H', H p = none → Same H H' → H' p = some (.tup (xs ++ ys)) → Q (.ref p) H') (c : xs.length + ys.length ≤ sizeLine) : rAddU K (.ref a) (.ref b) H Q :=
  .inr (.inr (.inr ⟨a, b, xs, ys, rfl, rfl, ha, hb, c, fun e => absurd e hx, fun _ e => absurd e hy, fun _ _ p hp => q p _ hp (same_new hp) upd_same⟩))
theorem k_mulI {a b : Int} (q : Q (.int (a * b)) H) (c : CMulX a b) : rMulU K (.int a) (.int b) H Q := .inl ⟨a, b, rfl, rfl, c, q⟩
theorem k_eqS {x y : V} (h : scal x y = true) (q : Q (.bl (decide (x = y))) H) : rEqU K x y H Q := .inl ⟨h, q⟩
theorem k_neS {x y : V} (h : scal x y = true) (q : Q (.bl (!decide (x = y))) H) : rNeU K x y H Q := .inl ⟨h, q⟩
theorem dec_int {a b : Int} : decide (V.int a = V.int b) = decide (a = b) := by
  by_cases h : a = b
  · rw [h] <;> simp
  · rw [decide_eq_false h, decide_eq_false (fun e => h (V.int.inj e))]
theorem dec_str {a b : Str} : decide (V.str a = V.str b) = decide (a = b) := by
  by_cases h : a = b
  · rw [h] <;> simp
  · rw [decide_eq_false h, decide_eq_false (fun e => h (V.str.inj e))]
theorem dec_bl {a b : Bool} : decide (V.bl a = V.bl b) = decide (a = b) := by
  cases a <;> cases b <;> decide
theorem k_eqI {a b : Int} (q : Q (.bl (decide (a = b))) H) : rEqU K (.int a) (.int b) H Q := k_eqS rfl (by rw [dec_int]; exact q)
theorem k_neI {a b : Int} (q : Q (.bl (!decide (a = b))) H) : rNeU K (.int a) (.int b) H Q := k_neS rfl (by rw [dec_int]; exact q)
theorem k_eqT {a b : Str} (q : Q (.bl (decide (a = b))) H) : rEqU K (.str a) (.str b) H Q := k_eqS rfl (by rw [dec_str]; exact q)
theorem k_neT {a b : Str} (q : Q (.bl (!decide (a = b))) H) : rNeU K (.str a) (.str b) H Q := k_neS rfl (by rw [dec_str]; exact q)
theorem k_eqB {a b : Bool} (q : Q (.bl (decide (a = b))) H) : rEqU K (.bl a) (.bl b) H Q := k_eqS rfl (by rw [dec_bl]; exact q)
theorem k_neB {a b : Bool} (q : Q (.bl (!decide (a = b))) H) : rNeU K (.bl a) (.bl b) H Q := k_neS rfl (by rw [dec_bl]; exact q)
theorem k_eqD {x y : V} {d e : PyData} (hx : Dp K H x d) (hy : Dp K H y e) (q : Q (.bl (PyData.eqv d e)) H) (s1 : SeqAt.shaped d = true) (s2 : SeqAt.shaped e = true) : rEqU K x y H Q := .inr ⟨d, e, hx, hy, s1, s2, q⟩
theorem k_neD {x y : V} {d e : PyData} (hx : Dp K H x d) (hy : Dp K H y e) (q : Q (.bl (!PyData.eqv d e)) H) (s1 : SeqAt.shaped d = true) (s2 : SeqAt.shaped e = true) : rNeU K x y H Q := .inr ⟨d, e, hx, hy, s1, s2, q⟩
theorem k_in {x : V} {p : Addr} {xs : List V} {b : Bool} (h : SqL K H p xs ∨ SqT K H p xs) (hx : flatV x = true) (ha : xs.all flatV = true) (e : inV x xs = b) (q : Q (.bl b) H) : rIn K false x (.ref p) H Q := ⟨p, xs, rfl, h, hx, ha, by rw [e]; exact q⟩
theorem k_ni {x : V} {p : Addr} {xs : List V} {b : Bool} (h : SqL K H p xs ∨ SqT K H p xs) (hx : flatV x = true) (ha : xs.all flatV = true) (e : inV x xs = b) (q : Q (.bl (!b)) H) : rIn K true x (.ref p) H Q := ⟨p, xs, rfl, h, hx, ha, by rw [e]; exact q⟩
/-- True stands in no list of False -/
theorem k_notIn {p : Addr} {xs : List V} (h : SqL K H p xs) (ha : xs.all flatV = true) (e : inV (.bl true) xs = false) (q : Q (.bl true) H) : rIn K true (.bl true) (.ref p) H Q := k_ni (.inl h) rfl ha e q
/-- tests -/
theorem k_tst {Q : Bool → Hp → Prop} (q : te σ H fun x H' => ∃ k, x = .bl k ∧ Q k H') : tTest te σ H Q := q
theorem k_B {Q : Bool → Hp → Prop} (q : te σ H fun x H' => ∃ k, x = .bl k ∧ Q k H') : tB te σ H Q := q
theorem k_bl {Q : Bool → Prop} {b : Bool} (q : Q b) : ∃ k, V.bl b = .bl k ∧ Q k := ⟨b, rfl, q⟩
theorem k_and {Q : Bool → Hp → Prop} (q : tt σ H fun c H1 => if c = true then tu σ H1 Q else Q false H1) : tAnd tt tu σ H Q := q
theorem k_or {Q : Bool → Hp → Prop} (q : tt σ H fun c H1 => if c = true then Q true H1 else tu σ H1 Q) : tOr tt tu σ H Q := q
theorem k_not {Q : Bool → Hp → Prop} (q : tt σ H fun c H1 => Q (!c) H1) : tNot tt σ H Q := q
theorem k_andV (q : ta σ H fun x H1 => ∃ c, x = .bl c ∧ if c = true then tb σ H1 Q else Q (.bl false) H1) : tAndV ta tb σ H Q := q
theorem k_orV (q : ta σ H fun x H1 => ∃ c, x = .bl c ∧ if c = true then Q (.bl true) H1 else tb σ H1 Q) : tOrV ta tb σ H Q := q
theorem k_notV (q : ta σ H fun x H1 => ∃ c, x = .bl c ∧ Q (.bl (!c)) H1) : tNotV ta σ H Q := q
theorem k_ife (q : tt σ H fun c H1 => if c = true then ta σ H1 Q else tb σ H1 Q) : tIf tt ta tb σ H Q := q
theorem k_chain {r r' : R2} (q : ta σ H fun x H1 => tb σ H1 fun y H2 => r x y H2 fun z H3 => ∃ k, z = .bl k ∧ (if k = true then tc σ H3 fun w' H4 => r' y w' H4 Q else Q (.bl false) H3)) : tChain r r' ta tb tc σ H Q := q
theorem k_tru {Q : Bool → Hp → Prop} {x : V} {b : Bool} (h : TruV K x H b) (q : Q b H) : ∃ k, TruV K x H k ∧ Q k H := ⟨b, h, q⟩
/-- a branch -/
theorem k_if {c : Prop} [Decidable c] {A B : Prop} (h1 : c → A) (h2 : ¬ c → B) : if decide c = true then A else B := by
  by_cases h : c
  · rw [if_pos (decide_eq_true h)]
    exact h1 h
  · rw [if_neg (by rw [decide_eq_false h]; decide)]
    exact h2 h
theorem k_ifn {c : Prop} [Decidable c] {A B : Prop} (h1 : ¬ c → A) (h2 : c → B) : if (!decide c) = true then A else B := by
  by_cases h : c
  · rw [if_neg (by rw [decide_eq_true h]; decide)]
    exact h2 h
  · rw [if_pos (by rw [decide_eq_false h]; decide)]
    exact h1 h
theorem k_ifb {b : Bool} {A B : Prop} (h1 : b = true → A) (h2 : b = false → B) : if b = true then A else B := by
  cases b with
  | true => exact h1 rfl
  | false => exact h2 rfl
theorem k_ifnb {b : Bool} {A B : Prop} (h1 : b = false → A) (h2 : b = true → B) : if (!b) = true then A else B := by
  cases b with
  | true => exact h2 rfl
  | false => exact h1 rfl
theorem k_ifT {A B : Prop} (h : A) : if true = true then A else B := iteT h
theorem k_ifF {A B : Prop} (h : B) : if false = true then A else B := iteF h
theorem k_ifnT {A B : Prop} (h : B) : if (!true) = true then A else B := iteF h
theorem k_ifnF {A B : Prop} (h : A) : if (!false) = true then A else B := iteT h
/-- calls, arguments, displays -/
theorem k_cb {r : List V → Hp → VK → Prop} {t : TA} (q : t σ H fun vs H1 => r vs H1 Q) : tCB r t σ H Q := q
theorem k_cons {t : TA} {Q : List V → Hp → Prop} (q : ta σ H fun x H1 => t σ H1 fun xs H2 => Q (x :: xs) H2) : tCons ta t σ H Q := q
theorem k_nil {Q : List V → Hp → Prop} (q : Q [] H) : tNil σ H Q := q
theorem k_callS {sp : Sp} {W : WX} {t : TA} (q : t σ H fun vs H1 => sp vs H1 Q (WE W σ)) : tCallS sp (WE W) t σ H Q := q
theorem k_call {sp : Sp} {t : TA} {E : XK} (q : t σ H fun vs H1 => sp vs H1 Q E) : tCall sp [] E t σ H Q := by
  show t σ H fun vs H1 => sp (vs ++ []) H1 Q E
  simp only [List.append_nil]
  exact q
def rTupX (xs : List V) (H : Hp) (Q : VK) : Prop := xs.length ≤ sizeLine ∧ ∀ p, H p = none → Q (.ref p) (upd H p (.tup xs))
def rLstX (xs : List V) (H : Hp) (Q : VK) : Prop := xs.length ≤ sizeLine ∧ ∀ p, H p = none → Q (.ref p) (upd H p (.lst xs))
theorem k_tupx {xs : List V} (q : ∀ p H2, H p = none → Same H H2 → H2 p = some (.tup xs) → Q (.ref p) H2) (c : xs.length ≤ sizeLine) : rTupX xs H Q := ⟨c, fun p hp => q p _ hp (same_new hp) upd_same⟩
theorem k_lstx {xs : List V} (q : ∀ p H2, H p = none → Same H H2 → H2 p = some (.lst xs) → Q (.ref p) H2) (c : xs.length ≤ sizeLine) : rLstX xs H Q := ⟨c, fun p hp => q p _ hp (same_new hp) upd_same⟩
theorem k_tup0 {t : TA} (q : t σ H fun xs H1 => rTupX xs H1 Q) : tTup t σ H Q := q
theorem k_lst0 {t : TA} (q : t σ H fun xs H1 => rLstX xs H1 Q) : tLst t σ H Q := q
/-- subscripts -/
theorem k_ixL {p : Addr} {xs : List V} {i : Int} (h : SqL K H p xs) (ha : atI xs i = some v) (q : Q v H) : rIx K (.ref p) (.int i) H Q := .inl ⟨p, xs, i, v, rfl, rfl, h, ha, q⟩
theorem k_ixT {p : Addr} {xs : List V} {i : Int} (h : SqT K H p xs) (ha : atI xs i = some v) (q : Q v H) : rIx K (.ref p) (.int i) H Q := .inr (.inl ⟨p, xs, i, v, rfl, rfl, h, ha, q⟩)
/-! statements -/
variable {D : Ends} {t u : TS} {g : TG}
theorem k_seq (q : t { D with nx := u D } σ H) : tSeq t u D σ H := q
theorem k_asg  (q : te σ H fun x H1 => g x σ H1 D.nx) : tAsg te g D σ H := q
theorem k_gn {Q : L2.St → Hp → Prop} (q : Q (σ.set i (some v)) H) : gName i v σ H Q := q
theorem k_gtup {a : Addr} {xs : List V} {n : Nat} {t : TGs} {Q : L2.St → Hp → Prop} (h : SqT K H a xs) (hl : xs.length = n) (q : t xs σ H Q) : gTup K n t (.ref a) σ H Q := ⟨a, xs, rfl, h, hl, q⟩
theorem k_gcons {t : TG} {u : TGs} {r : List V} {Q : L2.St → Hp → Prop} (q : t v σ H fun σ' H' => u r σ' H' Q) : gCons t u (v :: r) σ H Q := ⟨v, r, rfl, q⟩
theorem k_gnil {Q : L2.St → Hp → Prop} (q : Q σ H) : gNil [] σ H Q := ⟨rfl, q⟩
theorem k_drop (q : te σ H fun _ H1 => D.nx σ H1) : tDrop te D σ H := q
theorem k_ret (q : te σ H D.rt) : tRet te D σ H := q
theorem k_ifs (q : tt σ H fun c H1 => if c = true then t D σ H1 else u D σ H1) : tIfS tt t u D σ H := q
theorem k_next (q : D.nx σ H) : tNext D σ H := q
theorem k_par {ta : TA} (q : ta σ H fun vs H1 => ∃ v w, vs = [v, w] ∧ D.nx ((σ.set i (some v)).set j (some w)) H1) : tPar i j ta D σ H := q
theorem k_two {v w : V} {P : V → V → Prop} (q : P v w) : ∃ a b, [v, w] = [a, b] ∧ P a b := ⟨v, w, rfl, q⟩
theorem k_app {l : Addr} {xs : List V} {y : V} (h : H l = some (.lst xs)) (q : ∀ H', But l H H' → H' l = some (.lst (xs ++ [y])) → Q .non H') (c : xs.length < sizeLine) : tyV K "list" (.ref l) H ∧ rAppend (.ref l) [y] H Q :=
  ⟨.inl ⟨rfl, _, SqL.of h⟩, l, xs, y, rfl, rfl, h, c, q _ But.upd upd_same⟩
end
/-! ### the same, the written part by its name -/
section
variable {X : Cx} {K : PySem.W.Frag}
theorem op_addK (h : X.K = K) : OpR X (binaryOp .Add) (rAddU K) := h ▸ op_addU
theorem op_mulK (h : X.K = K) : OpR X (binaryOp .Mult) (rMulU K) := h ▸ op_mulU
theorem op_eqK {k : Nat} (h : X.K = K) (hr : Room k X.A) : OpR X (compareOp .Eq) (rEqU K) := h ▸ op_eqU hr
theorem op_neK {k : Nat} (h : X.K = K) (hr : Room k X.A) : OpR X (compareOp .NotEq) (rNeU K) := h ▸ op_neU hr
theorem op_inK (h : X.K = K) : OpR X (compareOp .In) (rIn K false) := h ▸ op_in_seq
theorem op_niK (h : X.K = K) : OpR X (compareOp .NotIn) (rIn K true) := h ▸ op_notIn_seq
def rSlU (K : PySem.W.Frag) : V → Option Int → Option Int → Hp → VK → Prop := fun x lo hi H Q => rSlL K x lo hi H Q ∨ rSlS x lo hi H Q ∨ rSlA K x lo hi H Q
theorem sl_U {X : Cx} : SlR X (rSlU X.K) := sl_list.or (sl_str.or sl_tupA)
theorem sl_K (h : X.K = K) : SlR X (rSlU K) := h ▸ sl_U
theorem ix_K (h : X.K = K) : IxR X (rIx K) := h ▸ ix_seq
end
section
variable {σ : L2.St} {H : Hp} {Q : VK} {te : TE} {K : PySem.W.Frag}
/-! slices, an empty dict -/
theorem k_sl {r : V → Option Int → Option Int → Hp → VK → Prop} {tl th : TO} (q : te σ H fun x H1 => tl σ H1 fun lo H2 => th σ H2 fun hi H3 => r x lo hi H3 Q) : tSl r te tl th σ H Q := q
theorem k_part {Q : Option Int → Hp → Prop} (q : te σ H fun x H1 => ∃ i, x = .int i ∧ Q (some i) H1) : tPart te σ H Q := q
theorem k_noPart {Q : Option Int → Hp → Prop} (q : Q none H) : tNoPart σ H Q := q
theorem k_int {a : Int} {Q : Int → Prop} (q : Q a) : ∃ i, V.int a = .int i ∧ Q i := ⟨a, rfl, q⟩
theorem k_slL {a : Addr} {xs : List V} {lo hi : Option Int} (h : SqL K H a xs) (q : ∀ p H2, H p = none → Same H H2 → H2 p = some (.lst (cutV xs lo hi)) → Q (.ref p) H2) : rSlU K (.ref a) lo hi H Q := .inl ⟨a, xs, rfl, h, fun p hp => q p _ hp (same_new hp) upd_same⟩
theorem k_slS {z : Str} {lo hi : Option Int} (q : Q (.str (cutS z lo hi)) H) (c : z.length ≤ sizeLine) : rSlU K (.str z) lo hi H Q := .inr (.inl ⟨z, rfl, c, q⟩)
theorem k_slT {a : Addr} {xs : List V} {lo hi : Option Int} (h : SqT K H a xs) (c : ¬ (HT.sIx xs.length 0 lo = 0 ∧ HT.sIx xs.length xs.length hi = xs.length)) (q : ∀ p H2, H p = none → Same H H2 → H2 p = some (.tup (cutV xs lo hi)) → Q (.ref p) H2) : rSlU K (.ref a) lo hi H Q :=
  .inr (.inr ⟨a, xs, rfl, h, fun z => absurd z c, fun _ p hp => q p _ hp (same_new hp) upd_same⟩)
def rDictX (H : Hp) (Q : VK) : Prop := ∀ p, H p = none → Q (.ref p) (upd H p (.dK []))
theorem k_dict0 (q : rDictX H Q) : tDNewK σ H Q := q
theorem k_dict1 (q : ∀ p H2, H p = none → Same H H2 → H2 p = some (.dK []) → Q (.ref p) H2) : rDictX H Q := fun p hp => q p _ hp (same_new hp) upd_same
end
/-! ### built-ins by name -/
section
variable {X : Cx}
def rLenU (K : PySem.W.Frag) : List V → Hp → VK → Prop := fun xs H Q => ∃ x n, xs = [x] ∧ LenV K x H n ∧ Q (.int n) H
theorem call_lenU : CallR X (.builtin "len") (rLenU X.K) := call_len
def rAbsU : List V → Hp → VK → Prop := fun xs H Q => ∃ i, xs = [.int i] ∧ Q (.int (if i < 0 then -i else i)) H
theorem call_absU : CallR X (.builtin "abs") rAbsU := call_abs
def rMaxU : List V → Hp → VK → Prop := fun xs H Q => ∃ i j, xs = [.int i, .int j] ∧ Q (.int (if j > i then j else i)) H
theorem call_maxU (hc : X.calm = true) : CallR X (.builtin "max") rMaxU := call_max2 hc
def rMinU : List V → Hp → VK → Prop := fun xs H Q => ∃ i j, xs = [.int i, .int j] ∧ Q (.int (if j < i then j else i)) H
theorem call_minU (hc : X.calm = true) : CallR X (.builtin "min") rMinU := call_min2 hc
def rIntU : List V → Hp → VK → Prop := fun xs H Q => (∃ i, xs = [.int i] ∧ Q (.int i) H) ∨ ∃ k, xs = [.bl k] ∧ Q (.int (if k then 1 else 0)) H
theorem call_intU : CallR X (.type "int") rIntU := call_int1
def rBoolU : List V → Hp → VK → Prop := fun xs H Q => (∃ i, xs = [.int i] ∧ Q (.bl (i != 0)) H) ∨ ∃ k, xs = [.bl k] ∧ Q (.bl k) H
theorem call_boolU : CallR X (.type "bool") rBoolU := call_bool1
def rStrU : List V → Hp → VK → Prop := fun xs H Q => ∃ i, xs = [.int i] ∧ i.natAbs.log2 < 1920 ∧ Q (.str (toString i)) H
theorem call_strU : CallR X (.type "str") rStrU := call_str_int
def rTupU (K : PySem.W.Frag) : List V → Hp → VK → Prop := fun xs H Q => ∃ p ys, xs = [.ref p] ∧ ((SqL K H p ys ∧ ∀ l, H l = none → Q (.ref l) (upd H l (.tup ys))) ∨ (SqT K H p ys ∧ Q (.ref p) H))
theorem call_tupU : CallR X (.type "tuple") (rTupU X.K) := call_tuple_of
def rLstU (K : PySem.W.Frag) : List V → Hp → VK → Prop := fun xs H Q => ∃ p ys, xs = [.ref p] ∧ (SqL K H p ys ∨ SqT K H p ys) ∧ ∀ l, H l = none → Q (.ref l) (upd H l (.lst ys))
theorem call_lstU : CallR X (.type "list") (rLstU X.K) := call_list_of
def rIsN : R2 := fun x y H Q => y = .non ∧ Q (.bl (decide (x = .non))) H
def rNotN : R2 := fun x y H Q => y = .non ∧ Q (.bl (!decide (x = .non))) H
theorem op_isNU : OpR X (compareOp .Is) rIsN := op_isN
theorem op_notNU : OpR X (compareOp .IsNot) rNotN := op_notN
end
section
variable {σ : L2.St} {H : Hp} {Q : VK} {K : PySem.W.Frag}
theorem k_lenL {p : Addr} {xs : List V} (q : Q (.int xs.length) H) (h : SqL K H p xs) : rLenU K [.ref p] H Q := ⟨.ref p, xs.length, rfl, .inl ⟨xs, h, rfl⟩, q⟩
theorem k_lenT {p : Addr} {xs : List V} (q : Q (.int xs.length) H) (h : SqT K H p xs) : rLenU K [.ref p] H Q := ⟨.ref p, xs.length, rfl, .inr ⟨xs, h, rfl⟩, q⟩
theorem k_lenS {x : Str} (q : Q (.int x.length) H) (h : x.length ≤ sizeLine) : rLenU K [.str x] H Q := ⟨.str x, x.length, rfl, ⟨h, rfl⟩, q⟩
theorem k_abs {a : Int} (q : Q (.int (a.natAbs : Int)) H) : rAbsU [.int a] H Q := ⟨a, rfl, by
  have e : (if a < 0 then -a else a) = (a.natAbs : Int) := by split <;> omega
  rw [e]
  exact q⟩
theorem k_max {a b : Int} (q : Q (.int (max a b)) H) : rMaxU [.int a, .int b] H Q := ⟨a, b, rfl, by
  have e : (if b > a then b else a) = max a b := by split <;> omega
  rw [e]
  exact q⟩
theorem k_min {a b : Int} (q : Q (.int (min a b)) H) : rMinU [.int a, .int b] H Q := ⟨a, b, rfl, by
  have e : (if b < a then b else a) = min a b := by split <;> omega
  rw [e]
  exact q⟩
theorem k_intI {a : Int} (q : Q (.int a) H) : rIntU [.int a] H Q := .inl ⟨a, rfl, q⟩
theorem k_intB {b : Bool} (q : Q (.int (if b then 1 else 0)) H) : rIntU [.bl b] H Q := .inr ⟨b, rfl, q⟩
theorem k_boolI {a : Int} (q : Q (.bl (a != 0)) H) : rBoolU [.int a] H Q := .inl ⟨a, rfl, q⟩
theorem k_boolB {b : Bool} (q : Q (.bl b) H) : rBoolU [.bl b] H Q := .inr ⟨b, rfl, q⟩
theorem k_strI {a : Int} (q : Q (.str (toString a)) H) (c : a.natAbs.log2 < 1920) : rStrU [.int a] H Q := ⟨a, rfl, c, q⟩
theorem k_tupL {p : Addr} {xs : List V} (h : SqL K H p xs) (q : ∀ l H', H l = none → Same H H' → H' l = some (.tup xs) → Q (.ref l) H') : rTupU K [.ref p] H Q := ⟨p, xs, rfl, .inl ⟨h, fun l hl => q l _ hl (same_new hl) upd_same⟩⟩
theorem k_tupT {p : Addr} {xs : List V} (h : SqT K H p xs) (q : Q (.ref p) H) : rTupU K [.ref p] H Q := ⟨p, xs, rfl, .inr ⟨h, q⟩⟩
theorem k_lstL {p : Addr} {xs : List V} (h : SqL K H p xs) (q : ∀ l H', H l = none → Same H H' → H' l = some (.lst xs) → Q (.ref l) H') : rLstU K [.ref p] H Q := ⟨p, xs, rfl, .inl h, fun l hl => q l _ hl (same_new hl) upd_same⟩
theorem k_lstT {p : Addr} {xs : List V} (h : SqT K H p xs) (q : ∀ l H', H l = none → Same H H' → H' l = some (.lst xs) → Q (.ref l) H') : rLstU K [.ref p] H Q := ⟨p, xs, rfl, .inr h, fun l hl => q l _ hl (same_new hl) upd_same⟩
theorem k_isN {x : V} (q : Q (.bl (decide (x = .non))) H) : rIsN x .non H Q := ⟨rfl, q⟩
theorem k_notN {x : V} (q : Q (.bl (!decide (x = .non))) H) : rNotN x .non H Q := ⟨rfl, q⟩
theorem k_powc {a b c : Int} (e : a ^ b.toNat = c) (hc : CPow a b) (q : Q (.int c) H) : rI CPow (fun i j => .int (i ^ j.toNat)) (.int a) (.int b) H Q := ⟨a, b, rfl, rfl, hc, by show Q (.int (a ^ b.toNat)) H; rw [e]; exact q⟩
theorem cpow {a b : Int} (h : 0 ≤ b) (h1 : b ≤ 1000000) (h2 : a.natAbs < 2 ^ 64) : CPow a b := ⟨h, h1, h2⟩
theorem k_mod {a b : Int} (hb : 0 < b) (q : Q (.int (a % b)) H) : rI (fun _ j => j ≠ 0) (fun i j => .int (i.fmod j)) (.int a) (.int b) H Q := ⟨a, b, rfl, rfl, by omega, by show Q (.int (a.fmod b)) H; rw [Int.fmod_eq_emod_of_nonneg a (by omega)]; exact q⟩
theorem k_log {b : Int} (h : b.natAbs < 2 ^ 64) : b.natAbs.log2 < 9000 := Nat.lt_of_lt_of_le (PySem.Flt.log2_lt_of (by decide) h) (by decide)
theorem k_div {a b : Int} (hb : 0 < b) (hl : b.natAbs.log2 < 9000) (q : Q (.int (a / b)) H) : rI CDivG (fun i j => .int (i.fdiv j)) (.int a) (.int b) H Q := ⟨a, b, rfl, rfl, ⟨by omega, PyProof.noPylong_of_log2 hl⟩, by show Q (.int (a.fdiv b)) H; rw [Int.fdiv_eq_ediv_of_nonneg a (by omega)]; exact q⟩
theorem k_mulB {a b : Int} {m n : Nat} (ha : a.natAbs < 2 ^ m) (hb : b.natAbs < 2 ^ n) (h : m + n ≤ 134217728) (q : Q (.int (a * b)) H) : rMulU K (.int a) (.int b) H Q := k_mulI q (mulx_ok ha hb h)
theorem k_pop {l : Addr} {xs : List V} {y : V} (h : H l = some (.lst (xs ++ [y]))) (q : ∀ H', But l H H' → H' l = some (.lst xs) → Q y H') : tyV K "list" (.ref l) H ∧ rPop (.ref l) [] H Q :=
  ⟨.inl ⟨rfl, _, SqL.of h⟩, l, _, y, rfl, rfl, h, by simp, q _ But.upd (by rw [List.dropLast_concat]; exact upd_same)⟩
theorem k_bm0 {T : String} {r : V → List V → Hp → VK → Prop} {te : TE} (q : te σ H fun x H1 => tyV K T x H1 ∧ r x [] H1 Q) : tBM0 K T r te σ H Q := q
theorem k_bm {T : String} {r : V → List V → Hp → VK → Prop} {te : TE} {t : TA} (q : te σ H fun x H1 => tyV K T x H1 ∧ t σ H1 fun xs H2 => r x xs H2 Q) : tBM K T r te t σ H Q := q
theorem k_app0 {l : Addr} {xs : List V} (h : H l = some (.lst xs)) : tyV K "list" (.ref l) H := .inl ⟨rfl, _, SqL.of h⟩
theorem k_app1 {l : Addr} {xs : List V} {y : V} (h : H l = some (.lst xs)) (c : xs.length < sizeLine) (q : ∀ H', But l H H' → H' l = some (.lst (xs ++ [y])) → Q .non H') : rAppend (.ref l) [y] H Q := ⟨l, xs, y, rfl, rfl, h, c, q _ But.upd upd_same⟩
def rRevX (K : PySem.W.Frag) (x : V) (H : Hp) (Q : VK) : Prop := ∃ a xs, x = .ref a ∧ SqL K H a xs ∧ ∀ p, H p = none → Q (.ref p) (upd H p (.lst xs.reverse))
theorem k_rev {te : TE} (q : te σ H fun x H1 => rRevX K x H1 Q) : tRevL K te σ H Q := q
theorem k_rev1 {p : Addr} {xs : List V} (h : SqL K H p xs) (q : ∀ l H', H l = none → Same H H' → H' l = some (.lst xs.reverse) → Q (.ref l) H') : rRevX K (.ref p) H Q := ⟨p, xs, rfl, h, fun l hl => q l _ hl (same_new hl) upd_same⟩
/-- isinstance -/
theorem k_isi {x c : V} {t u : Value} {b : Bool} (hc : ClsV c u) (ht : TyX K H x t) (hk : PySem.W.kitOne K t u = some b) (q : Q (.bl b) H) : rIsi K [x, c] H Q := ⟨x, c, t, u, b, rfl, hc, ht, hk, q⟩
theorem k_cut {t u : TS} {D : Ends} (M : L2.St → Hp → Prop) (h : t { D with nx := M } σ H) (k : ∀ σ' H', M σ' H' → u D σ' H') : C8.tCut t u D σ H := ⟨M, h, k⟩
theorem k_cut0 {t u : TS} {D : Ends} (h : t { D with nx := u D } σ H) : C8.tCut t u D σ H := ⟨_, h, fun _ _ q => q⟩
/-! loops -/
variable {D : Ends} {g : TG} {tb : TS} {j : Nat} {wi : TI}
def LoopI (J : It) (g : TG) (tb : TS) (D : Ends) (σ : L2.St) (H : Hp) : Prop := ∃ W : Nat → Nat → L2.St → Hp → Prop, (∃ m, W 0 m σ H) ∧ ∀ i m σ H, W i m σ H →
  (J.stop i H ∧ D.nx σ H) ∨ (J.go i H ∧ ∃ N : L2.St → Hp → Prop, (∀ σ' H', N σ' H' → ∃ m', m' < m ∧ W (i + 1) m' σ' H') ∧ ∀ x H', J.yld i H x H' → g x σ H' fun σ2 H2 => tb { D with nx := N, ct := N, bk := D.nx } σ2 H2)
theorem k_for (q : wi σ H fun J H1 => LoopI J g tb D σ H1) : tFor wi g tb D σ H := q
def rRng1 (vs : List V) (H : Hp) (R : It → Hp → Prop) : Prop := ∃ j : Int, vs = [.int j] ∧ -(2 ^ 62) ≤ j ∧ j < 2 ^ 62 ∧ R (Itr 0 j.toNat) H
def rRng2 (vs : List V) (H : Hp) (R : It → Hp → Prop) : Prop := ∃ i j : Int, vs = [.int i, .int j] ∧ (-(2 ^ 62) ≤ i ∧ i < 2 ^ 62 ∧ -(2 ^ 62) ≤ j ∧ j < 2 ^ 62) ∧ R (Itr i (j - i).toNat) H
def rItL (K : PySem.W.Frag) (x : V) (H : Hp) (R : It → Hp → Prop) : Prop := ∃ a, x = .ref a ∧ (∃ xs, SqL K H a xs) ∧ R (Itl K a) H
def rItT (K : PySem.W.Frag) (x : V) (H : Hp) (R : It → Hp → Prop) : Prop := ∃ a, x = .ref a ∧ (∃ xs, SqT K H a xs) ∧ R (Itt K a) H
theorem k_iRng1 {ta : TA} {R : It → Hp → Prop} (q : ta σ H fun vs H1 => rRng1 vs H1 R) : iRng1 ta σ H R := q
theorem k_iRng2 {ta : TA} {R : It → Hp → Prop} (q : ta σ H fun vs H1 => rRng2 vs H1 R) : iRng2 ta σ H R := q
theorem k_iList {tl : TE} {R : It → Hp → Prop} (q : tl σ H fun x H1 => rItL K x H1 R) : iList K tl σ H R := q
theorem k_iSeqU {tl : TE} {R : It → Hp → Prop} (q : tl σ H fun x H1 => rItU K x H1 R) : iSeqU K tl σ H R := q
theorem k_itUL {a : Addr} {xs : List V} {R : It → Hp → Prop} (h : SqL K H a xs) (q : R (Itl K a) H) : rItU K (.ref a) H R := ⟨a, rfl, .inl ⟨⟨xs, h⟩, q⟩⟩
theorem k_itUT {a : Addr} {xs : List V} {R : It → Hp → Prop} (h : SqT K H a xs) (q : R (Itt K a) H) : rItU K (.ref a) H R := ⟨a, rfl, .inr ⟨⟨xs, h⟩, q⟩⟩
theorem k_iTup {tl : TE} {R : It → Hp → Prop} (q : tl σ H fun x H1 => rItT K x H1 R) : iTup K tl σ H R := q
theorem k_rng1 {n : Int} {R : It → Hp → Prop} (c : -(2 ^ 62) ≤ n ∧ n < 2 ^ 62) (q : R (Itr 0 n.toNat) H) : rRng1 [.int n] H R := ⟨n, rfl, c.1, c.2, q⟩
theorem k_rng2 {m n : Int} {R : It → Hp → Prop} (c : -(2 ^ 62) ≤ m ∧ m < 2 ^ 62 ∧ -(2 ^ 62) ≤ n ∧ n < 2 ^ 62) (q : R (Itr m (n - m).toNat) H) : rRng2 [.int m, .int n] H R := ⟨m, n, rfl, c, q⟩
theorem k_itL {a : Addr} {xs : List V} {R : It → Hp → Prop} (h : SqL K H a xs) (q : R (Itl K a) H) : rItL K (.ref a) H R := ⟨a, rfl, ⟨xs, h⟩, q⟩
theorem k_itT {a : Addr} {xs : List V} {R : It → Hp → Prop} (h : SqT K H a xs) (q : R (Itt K a) H) : rItT K (.ref a) H R := ⟨a, rfl, ⟨xs, h⟩, q⟩
/-- for x in range(..) -/
theorem k_loopR {n : Nat} (P : Nat → L2.St → Hp → Prop) (h0 : P 0 σ H) (hs : ∀ (i : Nat) σ H, i < n → P i σ H → tb { D with nx := P (i + 1), ct := P (i + 1), bk := D.nx } (σ.set j (some (.int (i : Int)))) H)
    (hd : ∀ σ H, P n σ H → D.nx σ H) : LoopI (Itr 0 n) (gName j) tb D σ H := for_range P h0 (fun i σ H hi p => by
      show tb _ (σ.set j (some (.int (0 + (i : Int))))) H
      rw [Int.zero_add]
      exact hs i σ H hi p) hd
theorem k_loopR2 {lo : Int} {n : Nat} (P : Nat → L2.St → Hp → Prop) (h0 : P 0 σ H) (hs : ∀ (i : Nat) σ H, i < n → P i σ H → tb { D with nx := P (i + 1), ct := P (i + 1), bk := D.nx } (σ.set j (some (.int (lo + (i : Int))))) H)
    (hd : ∀ σ H, P n σ H → D.nx σ H) : LoopI (Itr lo n) (gName j) tb D σ H := for_range P h0 hs hd
theorem k_loopL {a : Addr} {xs : List V} (P : Nat → L2.St → Hp → Prop) (h0 : P 0 σ H) (hl : ∀ i σ H, i ≤ xs.length → P i σ H → SqL K H a xs)
    (hs : ∀ (i : Nat) x σ H, xs[i]? = some x → P i σ H → g x σ H fun σ2 H2 => tb { D with nx := P (i + 1), ct := P (i + 1), bk := D.nx } σ2 H2) (hd : ∀ σ H, P xs.length σ H → D.nx σ H) : LoopI (Itl K a) g tb D σ H := for_list P h0 hl hs hd
theorem k_loopT {a : Addr} {xs : List V} (P : Nat → L2.St → Hp → Prop) (h0 : P 0 σ H) (hl : ∀ i σ H, i ≤ xs.length → P i σ H → SqT K H a xs)
    (hs : ∀ (i : Nat) x σ H, xs[i]? = some x → P i σ H → g x σ H fun σ2 H2 => tb { D with nx := P (i + 1), ct := P (i + 1), bk := D.nx } σ2 H2) (hd : ∀ σ H, P xs.length σ H → D.nx σ H) : LoopI (Itt K a) g tb D σ H := for_tup P h0 hl hs hd
theorem k_loopU {a : Addr} {xs : List V} (hS : SqL K H a xs ∨ SqT K H a xs) (P : Nat → L2.St → Hp → Prop) (h0 : P 0 σ H) (hl : ∀ i σ' H', P i σ' H' → Same H H')
    (hs : ∀ (i : Nat) x σ H, xs[i]? = some x → P i σ H → g x σ H fun σ2 H2 => tb { D with nx := P (i + 1), ct := P (i + 1), bk := D.nx } σ2 H2) (hd : ∀ σ H, P xs.length σ H → D.nx σ H) : rItU K (.ref a) H fun J H1 => LoopI J g tb D σ H1 := by
  rcases hS with hS | hS
  · exact k_itUL hS (k_loopL P h0 (fun i σ' H' _ p => seqL_same (hl i σ' H' p) hS) hs hd)
  · exact k_itUT hS (k_loopT P h0 (fun i σ' H' _ p => seqT_same (hl i σ' H' p) hS) hs hd)
/-- while: P with a number that falls -/
def Less (P : Nat → L2.St → Hp → Prop) (m : Nat) : L2.St → Hp → Prop := fun σ H => ∃ m', m' < m ∧ P m' σ H
theorem k_while {tc : TT} (P : Nat → L2.St → Hp → Prop) (m : Nat) (h0 : P m σ H)
    (hs : ∀ m σ H, P m σ H → tc σ H fun b H1 => if b = true then ∃ N : L2.St → Hp → Prop, (∀ σ' H', N σ' H' → ∃ m', m' < m ∧ P m' σ' H') ∧ tb { D with nx := N, ct := N, bk := D.nx } σ H1 else D.nx σ H1) : tWhile tc tb D σ H := ⟨P, ⟨m, h0⟩, hs⟩
theorem k_wN {P : Nat → L2.St → Hp → Prop} {m : Nat} (q : tb { D with nx := Less P m, ct := Less P m, bk := D.nx } σ H) : ∃ N : L2.St → Hp → Prop, (∀ σ' H', N σ' H' → ∃ m', m' < m ∧ P m' σ' H') ∧ tb { D with nx := N, ct := N, bk := D.nx } σ H := ⟨_, fun _ _ h => h, q⟩
end
end Gx
open PySem PySem.Spec PyProof.Rows L2 Gx
local macro_rules | `(tactic| walk_at "s1") => `(tactic| first
  | refine k_var rfl ?_ | refine k_c ?_ | refine k_op ?_ | refine k_seq ?_ | refine k_asg ?_ | refine k_gn ?_ | refine k_gcons ?_ | refine k_gnil ?_ | refine k_ifs ?_ | refine k_tst ?_ | refine k_B ?_ | refine k_bl ?_
  | refine k_ret ?_ | refine k_drop ?_ | refine k_next ?_ | refine k_par ?_ | refine k_two ?_ | refine k_for ?_ | refine k_iRng1 ?_ | refine k_iRng2 ?_ | refine k_iList ?_ | refine k_iTup ?_ | refine k_iSeqU ?_
  | refine k_cb ?_ | refine k_cons ?_ | refine k_nil ?_ | refine k_callS ?_ | refine k_call ?_ | refine k_tup0 ?_ | refine k_lst0 ?_ | refine k_bm0 ?_ | refine k_bm ?_
  | refine k_and ?_ | refine k_or ?_ | refine k_not ?_ | refine k_andV ?_ | refine k_orV ?_ | refine k_notV ?_ | refine k_ife ?_ | refine k_chain ?_ | refine k_un ?_ | refine k_rev ?_
  | refine k_I0 ?_ | refine k_addI ?_ | refine k_eqI ?_ | refine k_neI ?_ | refine k_eqT ?_ | refine k_neT ?_ | refine k_eqB ?_ | refine k_neB ?_ | refine k_neg ?_
  | refine k_abs ?_ | refine k_max ?_ | refine k_min ?_ | refine k_intI ?_ | refine k_intB ?_ | refine k_sl ?_ | refine k_part ?_ | refine k_noPart ?_ | refine k_int ?_ | refine k_dict0 ?_ | refine k_isN ?_ | refine k_notN ?_
  | refine k_ifT ?_ | refine k_ifF ?_ | refine k_ifnT ?_ | refine k_ifnF ?_)
local macro_rules | `(tactic| walk_at "s2") => `(tactic| first
  | refine k_powc (a := 10) (b := 61) (c := 10000000000000000000000000000000000000000000000000000000000000) (by decide +kernel) (cpow (by decide) (by decide) (by decide)) ?_
  | refine k_powc (a := 10) (b := 60) (c := 1000000000000000000000000000000000000000000000000000000000000) (by decide +kernel) (cpow (by decide) (by decide) (by decide)) ?_
  | refine k_powc (a := 10) (b := 12) (c := 1000000000000) (by decide +kernel) (cpow (by decide) (by decide) (by decide)) ?_
  | refine k_powc (a := 10) (b := 5) (c := 100000) (by decide +kernel) (cpow (by decide) (by decide) (by decide)) ?_
  | refine k_powc (a := 10) (b := 6) (c := 1000000) (by decide +kernel) (cpow (by decide) (by decide) (by decide)) ?_
  | refine k_powc (a := 10) (b := 9) (c := 1000000000) (by decide +kernel) (cpow (by decide) (by decide) (by decide)) ?_
  | refine k_powc (a := 10) (b := 20) (c := 100000000000000000000) (by decide +kernel) (cpow (by decide) (by decide) (by decide)) ?_
  | refine k_powc (a := 10) (b := 50) (c := 100000000000000000000000000000000000000000000000000) (by decide +kernel) (cpow (by decide) (by decide) (by decide)) ?_
  | refine k_powc (a := 10) (b := 58) (c := 10000000000000000000000000000000000000000000000000000000000) (by decide +kernel) (cpow (by decide) (by decide) (by decide)) ?_
  | refine k_mod (by first | decide | omega) ?_
  | refine k_div (by first | decide | omega) (by first | decide +kernel | exact k_log (by omega)) ?_)
local macro_rules | `(tactic| walk_at "go") => `(tactic| repeat (first | with_reducible walk_at "s1" | with_reducible walk_at "s2"))
local macro_rules | `(tactic| walk_at "up") => `(tactic| first | assumption | (refine up_same (by assumption) ?_; walk_at "up") | (refine up_but (by assumption) (by first | assumption | (apply Ne.symm; assumption)) ?_; walk_at "up"))
local macro_rules | `(tactic| walk_at "ut") => `(tactic| first | assumption | exact SqT.of (by assumption) | (refine seqT_same (by assumption) ?_; walk_at "ut"))
local macro_rules | `(tactic| walk_at "ul") => `(tactic| first | assumption | exact SqL.of (by assumption) | (refine seqL_same (by assumption) ?_; walk_at "ul"))
namespace Dk
open PySem PySem.Spec PyProof.Rows L2
theorem at_map {ns : List Int} {i : Int} (h0 : 0 ≤ i) (h1 : i < ns.length) : ∃ z : Int, atI (ns.map V.int) i = some (.int z) := by
  obtain ⟨n, rfl⟩ : ∃ n : Nat, i = (n : Int) := ⟨i.toNat, by omega⟩
  have hl : n < ns.length := by omega
  exact ⟨ns[n], atI_nat (by simp [hl])⟩
theorem dp_all {K : PySem.W.Frag} {H : Hp} : ∀ ns : List Int, DpAll K H (ns.map V.int) (ns.map PyData.int)
  | [] => .nil
  | n :: r => .cons (.int n) (dp_all r)
theorem dp_ints {K : PySem.W.Frag} {H : Hp} {a : Addr} {ns : List Int} (h : SqL K H a (ns.map V.int)) : Dp K H (.ref a) (.list (ns.map PyData.int)) := .lst h (dp_all ns)
theorem shaped_ints (ns : List Int) : SeqAt.shaped (.list (ns.map PyData.int)) = true := by
  have h : ∀ l : List Int, PyData.canLayAll0 (l.map PyData.int) = true ∧ PyData.depthAll (l.map PyData.int) = 0 := fun l => by
    induction l with
    | nil => exact ⟨by simp [PyData.canLayAll0], by simp [PyData.depthAll]⟩
    | cons n r ih => exact ⟨by simp [PyData.canLayAll0, PyData.canLay0, ih.1], by simp [PyData.depthAll, PyData.depth, ih.2]⟩
  obtain ⟨h1, h2⟩ := h ns
  simp [SeqAt.shaped, PyData.canLay0, PyData.depth, h1, h2]
theorem eqv_nil (ns : List Int) : (!PyData.eqv (.list (ns.map PyData.int)) (.list [])) = !ns.isEmpty := by
  cases ns <;> simp [PyData.eqv, PyData.eqvAll]
theorem last (ds : List Int) (h : 0 < ds.length) : ∃ es e, ds = es ++ [e] := ⟨ds.dropLast, ds.getLast (by intro z; rw [z] at h; exact absurd h (by decide)), (List.dropLast_concat_getLast _).symm⟩
theorem last2 (ds : List Int) (h : 1 < ds.length) : ∃ es e2 e1, ds = es ++ [e2, e1] := by
  obtain ⟨fs, e1, rfl⟩ := last ds (by omega)
  obtain ⟨es, e2, rfl⟩ := last fs (by simp at h; omega)
  exact ⟨es, e2, e1, by simp⟩
theorem last3 (ds : List Int) (h : 2 < ds.length) : ∃ es e3 e2 e1, ds = es ++ [e3, e2, e1] := by
  obtain ⟨fs, e1, rfl⟩ := last ds (by omega)
  obtain ⟨es, e3, e2, rfl⟩ := last2 fs (by simp at h; omega)
  exact ⟨es, e3, e2, e1, by simp⟩
theorem sub {P : Int → Prop} {es r : List Int} (h : ∀ d ∈ es ++ r, P d) : ∀ d ∈ es, P d := fun d hd => h d (List.mem_append_left _ hd)
end Dk
namespace Lw
open PySem PySem.Spec PyProof.Rows L2 Gx
/-- a deck: a new list of so many numbers, each from 0 on, of at most 61 figures -/
def Deck (ds : List Int) : Prop := ∀ d ∈ ds, 0 ≤ d ∧ d < 10000000000000000000000000000000000000000000000000000000000000
theorem Deck.last {es : List Int} {e : Int} (h : Deck (es ++ [e])) : Deck es ∧ 0 ≤ e ∧ e < 10000000000000000000000000000000000000000000000000000000000000 := ⟨fun d hd => h d (List.mem_append_left _ hd), h e (by simp)⟩
end Lw
namespace Fr
open PySem PySem.Spec PyProof.Rows L2
/-- a fraction's two parts -/
abbrev fq (q : Rat) : List V := [.int q.num, .int (q.den : Int)]
def fqd (q : Rat) : PyData := .tuple [.int q.num, .int (q.den : Int)]
theorem dp_fq {K : PySem.W.Frag} {H : Hp} {p : Addr} {q : Rat} (h : SqT K H p (fq q)) : Dp K H (.ref p) (fqd q) := .tup h (.cons (.int _) (.cons (.int _) .nil))
theorem shaped_fq (q : Rat) : SeqAt.shaped (fqd q) = true := by simp [SeqAt.shaped, fqd, PyData.canLay0, PyData.canLayAll0, PyData.depth, PyData.depthAll]
theorem eqv_fq (x y : Rat) : PyData.eqv (fqd x) (fqd y) = decide (x = y) := by
  have e : PyData.eqv (fqd x) (fqd y) = (decide (x.num = y.num) && decide (x.den = y.den)) := by
    simp [fqd, PyData.eqv, PyData.eqvAll]
    by_cases h1 : x.num = y.num <;> by_cases h2 : x.den = y.den <;> simp [h1, h2] <;> omega
  rw [e]
  by_cases h : x = y
  · simp [h]
  · have : ¬ (x.num = y.num ∧ x.den = y.den) := fun z => h (Rat.ext z.1 z.2)
    simp [h]
    exact fun z w => this ⟨z, w⟩
/-! ### the greatest divisor -/
theorem gcd_fmod (a b : Int) : Int.gcd b (a.fmod b) = Int.gcd a b := by
  rw [Int.fmod_def, Int.gcd_sub_mul_left_right, Int.gcd_comm]
theorem fmod_nn (a : Int) {b : Int} (h : 0 < b) : 0 ≤ a.fmod b := by
  rw [Int.fmod_eq_emod_of_nonneg a (by omega)]
  exact Int.emod_nonneg _ (by omega)
theorem fmod_less {a b : Int} (h : b ≠ 0) : (a.fmod b).natAbs < b.natAbs := by
  rcases Int.lt_or_lt_of_ne h with c | c
  · have e : a.fmod b = -((-a).fmod (-b)) := by
      rw [Int.fmod_def, Int.fmod_def, Int.neg_fdiv_neg]
      have := Int.neg_mul b (a.fdiv b)
      omega
    have h1 := fmod_nn (-a) (show 0 < -b by omega)
    have h2 := Int.fmod_lt_of_pos (-a) (show 0 < -b by omega)
    omega
  · have h1 := fmod_nn a c
    have h2 := Int.fmod_lt_of_pos a c
    omega
/-- what lowest makes -/
theorem low_num {a b d : Int} (hb : b ≠ 0) (hd : d = if b < 0 then 0 - (Int.gcd a b : Int) else (Int.gcd a b : Int)) : a.fdiv d = (Rat.divInt a b).num := by
  have g0 : (0 : Int) < Int.gcd a b := by have := Int.gcd_pos_of_ne_zero_right a hb; omega
  obtain ⟨k, hk⟩ := Int.gcd_dvd_left a b
  rw [Rat.num_divInt, Int.gcd_comm b a]
  rcases Int.lt_or_lt_of_ne hb with c | c
  · rw [if_pos c] at hd
    rw [Int.sign_eq_neg_one_of_neg c]
    have e1 : a.fdiv d = -k := by
      have : a = d * (-k) := by rw [hd, Int.zero_sub, Int.neg_mul_neg]; exact hk
      rw [this]
      exact Int.mul_fdiv_cancel_left _ (by omega)
    have e2 : -1 * a / (Int.gcd a b : Int) = -k := by
      have : -1 * a = (Int.gcd a b : Int) * (-k) := by rw [Int.mul_neg, ← hk]; omega
      rw [this]
      exact Int.mul_ediv_cancel_left _ (by omega)
    rw [e1, e2]
  · rw [if_neg (by omega)] at hd
    rw [Int.sign_eq_one_of_pos c, Int.one_mul, hd, Int.fdiv_eq_ediv_of_nonneg a (by omega)]
theorem low_den {a b d : Int} (hb : b ≠ 0) (hd : d = if b < 0 then 0 - (Int.gcd a b : Int) else (Int.gcd a b : Int)) : b.fdiv d = ((Rat.divInt a b).den : Int) := by
  have g0 : (0 : Int) < Int.gcd a b := by have := Int.gcd_pos_of_ne_zero_right a hb; omega
  obtain ⟨k, hk⟩ := Int.gcd_dvd_right a b
  have e3 : ((Rat.divInt a b).den : Int) = (b.natAbs : Int) / (Int.gcd a b : Int) := by
    rw [Rat.den_divInt, if_neg hb, Int.gcd_comm b a]
    rfl
  rw [e3]
  rcases Int.lt_or_lt_of_ne hb with c | c
  · rw [if_pos c] at hd
    have e1 : b.fdiv d = -k := by
      have : b = d * (-k) := by rw [hd, Int.zero_sub, Int.neg_mul_neg]; exact hk
      rw [this]
      exact Int.mul_fdiv_cancel_left _ (by omega)
    have e2 : (b.natAbs : Int) / (Int.gcd a b : Int) = -k := by
      have : (b.natAbs : Int) = (Int.gcd a b : Int) * (-k) := by rw [Int.mul_neg, ← hk]; omega
      rw [this]
      exact Int.mul_ediv_cancel_left _ (by omega)
    rw [e1, e2]
  · rw [if_neg (by omega)] at hd
    rw [hd, Int.fdiv_eq_ediv_of_nonneg b (by omega)]
    congr 1
    omega
/-! ### sizes -/
def Sz (n : Nat) (q : Rat) : Prop := q.num.natAbs < 2 ^ n ∧ q.den < 2 ^ n
theorem pw {a b : Nat} (h : a ≤ b) : 2 ^ a ≤ 2 ^ b := Nat.pow_le_pow_right (by decide) h
theorem Sz.mono {m n : Nat} {q : Rat} (h : Sz m q) (l : m ≤ n) : Sz n q := ⟨Nat.lt_of_lt_of_le h.1 (pw l), Nat.lt_of_lt_of_le h.2 (pw l)⟩
theorem divInt_num_le {a b : Int} (hb : b ≠ 0) : (Rat.divInt a b).num.natAbs ≤ a.natAbs := by
  rw [Rat.num_divInt]
  have h : (b.sign * a / (Int.gcd b a : Int)).natAbs ≤ (b.sign * a).natAbs := Int.natAbs_ediv_le_natAbs _ _
  have e : (b.sign * a).natAbs = a.natAbs := by
    rw [Int.natAbs_mul, Int.natAbs_sign_of_ne_zero hb, Nat.one_mul]
  omega
theorem divInt_den_le {a b : Int} (hb : b ≠ 0) : (Rat.divInt a b).den ≤ b.natAbs := by
  rw [Rat.den_divInt, if_neg hb]
  exact Nat.div_le_self _ _
theorem sz_divInt {a b : Int} {n : Nat} (hb : b ≠ 0) (h1 : a.natAbs < 2 ^ n) (h2 : b.natAbs < 2 ^ n) : Sz n (Rat.divInt a b) := ⟨Nat.lt_of_le_of_lt (divInt_num_le hb) h1, Nat.lt_of_le_of_lt (divInt_den_le hb) h2⟩
theorem mul_lt {a b : Int} {m n : Nat} (ha : a.natAbs < 2 ^ m) (hb : b.natAbs < 2 ^ n) : (a * b).natAbs < 2 ^ (m + n) := by
  rw [Int.natAbs_mul, Nat.pow_add]
  exact Nat.mul_lt_mul'' ha hb
theorem add_lt {a b : Int} {m : Nat} (ha : a.natAbs < 2 ^ m) (hb : b.natAbs < 2 ^ m) : (a + b).natAbs < 2 ^ (m + 1) := by
  rw [Nat.pow_succ]
  omega
theorem sub_lt {a b : Int} {m : Nat} (ha : a.natAbs < 2 ^ m) (hb : b.natAbs < 2 ^ m) : (a - b).natAbs < 2 ^ (m + 1) := by
  rw [Nat.pow_succ]
  omega
theorem den_ne (q : Rat) : (q.den : Int) ≠ 0 := by have := q.den_nz; omega
theorem den_pos (q : Rat) : (0 : Int) < (q.den : Int) := by have := q.den_nz; omega
theorem add_eq (x y : Rat) : Rat.divInt (x.num * y.den + y.num * x.den) (x.den * y.den) = x + y := by
  rw [Rat.add_def']
  exact Rat.divInt_ofNat _ (x.den * y.den)
theorem sub_eq (x y : Rat) : Rat.divInt (x.num * y.den - y.num * x.den) (x.den * y.den) = x - y := by
  rw [Rat.sub_def']
  exact Rat.divInt_ofNat _ (x.den * y.den)
theorem mul_eq (x y : Rat) : Rat.divInt (x.num * y.num) (x.den * y.den) = x * y := by
  rw [Rat.mul_def']
  exact Rat.divInt_ofNat _ (x.den * y.den)
theorem div_eq (x y : Rat) : Rat.divInt (x.num * y.den) (x.den * y.num) = x / y := by
  rw [Rat.div_def, Rat.inv_def, ← Rat.divInt_mul_divInt, Rat.num_divInt_den]
theorem Sz.den {n : Nat} {q : Rat} (h : Sz n q) : ((q.den : Int)).natAbs < 2 ^ n := h.2
theorem dd_lt {x y : Rat} {m n : Nat} (hx : Sz m x) (hy : Sz n y) : ((x.den : Int) * (y.den : Int)).natAbs < 2 ^ (m + n) := mul_lt hx.den hy.den
theorem up1 {a : Int} {n : Nat} (h : a.natAbs < 2 ^ n) : a.natAbs < 2 ^ (n + 1) := Nat.lt_of_lt_of_le h (pw (by omega))
theorem nn_lt {x y : Rat} {m n : Nat} (hx : Sz m x) (hy : Sz n y) : (x.num * (y.den : Int) + y.num * (x.den : Int)).natAbs < 2 ^ (m + n + 1) := by
  have h1 := mul_lt hx.1 hy.den
  have h2 := mul_lt hy.1 hx.den
  rw [Nat.add_comm n m] at h2
  exact add_lt h1 h2
theorem ns_lt {x y : Rat} {m n : Nat} (hx : Sz m x) (hy : Sz n y) : (x.num * (y.den : Int) - y.num * (x.den : Int)).natAbs < 2 ^ (m + n + 1) := by
  have h1 := mul_lt hx.1 hy.den
  have h2 := mul_lt hy.1 hx.den
  rw [Nat.add_comm n m] at h2
  exact sub_lt h1 h2
theorem Sz.add {x y : Rat} {m n : Nat} (hx : Sz m x) (hy : Sz n y) : Sz (m + n + 1) (x + y) := by
  rw [← add_eq]
  exact sz_divInt (Int.mul_ne_zero (den_ne x) (den_ne y)) (nn_lt hx hy) (up1 (dd_lt hx hy))
theorem Sz.sub {x y : Rat} {m n : Nat} (hx : Sz m x) (hy : Sz n y) : Sz (m + n + 1) (x - y) := by
  rw [← sub_eq]
  exact sz_divInt (Int.mul_ne_zero (den_ne x) (den_ne y)) (ns_lt hx hy) (up1 (dd_lt hx hy))
theorem Sz.mul {x y : Rat} {m n : Nat} (hx : Sz m x) (hy : Sz n y) : Sz (m + n) (x * y) := by
  rw [← mul_eq]
  exact sz_divInt (Int.mul_ne_zero (den_ne x) (den_ne y)) (mul_lt hx.1 hy.1) (dd_lt hx hy)
theorem num_ne {y : Rat} (h : y ≠ 0) : y.num ≠ 0 := fun z => h (Rat.num_eq_zero.mp z)
theorem Sz.div {x y : Rat} {m n : Nat} (hx : Sz m x) (hy : Sz n y) : Sz (m + n) (x / y) := by
  by_cases h : y = 0
  · rw [h, Rat.div_def, Rat.inv_zero, Rat.mul_zero]
    have h3 : 1 < 2 ^ m := by have := hx.2; have := x.den_nz; omega
    exact ⟨Nat.lt_of_lt_of_le (by decide) (Nat.one_le_two_pow (n := m + n)), Nat.lt_of_lt_of_le h3 (pw (by omega))⟩
  · rw [← div_eq]
    exact sz_divInt (Int.mul_ne_zero (den_ne x) (num_ne h)) (mul_lt hx.1 hy.den) (mul_lt hx.den hy.1)
theorem gcd_small {a b : Int} {n : Nat} (hb : b ≠ 0) (h : b.natAbs < 2 ^ n) : Int.gcd a b < 2 ^ n := Nat.lt_of_le_of_lt (Int.gcd_le_natAbs_right a hb) h
end Fr
namespace Lw
open PySem PySem.Spec PyProof.Rows L2 Gx
/-- a divisor that the division may have -/
def Okd (a b : Int) : Prop := (a.natAbs < 2 ^ 13500 ∧ b.natAbs < 2 ^ 13500) ∨ Int.gcd a b < 2 ^ 9000
theorem Okd.div {a b d : Int} (h : Okd a b) (e : d.natAbs = Int.gcd a b) : Builtin.divisionGoesByPylong a d = false ∧ Builtin.divisionGoesByPylong b d = false := by
  rcases h with ⟨h1, h2⟩ | h
  · exact ⟨noPy_mid h1, noPy_mid h2⟩
  · exact ⟨noPy_low (by rw [e]; exact h), noPy_low (by rw [e]; exact h)⟩
theorem okd_den {a b : Int} {n : Nat} (hb : b ≠ 0) (h : b.natAbs < 2 ^ n) (hn : n ≤ 9000) : Okd a b := .inr (Nat.lt_of_lt_of_le (Fr.gcd_small hb h) (Fr.pw hn))
end Lw
namespace Lw
open PySem PySem.Spec PyProof.Rows L2 Gx
/-- fractions at some addresses -/
def Fqs (K : PySem.W.Frag) (H : Hp) (vs : List V) (qs : List Rat) : Prop := Paired (fun v q => ∃ p, v = V.ref p ∧ SqT K H p (Fr.fq q)) vs qs
theorem Fqs.same {K : PySem.W.Frag} {H H' : Hp} (e : Same H H') : ∀ {vs : List V} {qs : List Rat}, Fqs K H vs qs → Fqs K H' vs qs
  | _, _, .nil => .nil
  | _, _, .cons ⟨p, h1, h2⟩ r => .cons ⟨p, h1, seqT_same e h2⟩ (Fqs.same e r)
theorem Fqs.get {K : PySem.W.Frag} {H : Hp} : ∀ {vs : List V} {qs : List Rat} {i : Nat} {v : V}, Fqs K H vs qs → vs[i]? = some v → ∃ p q, v = .ref p ∧ qs[i]? = some q ∧ SqT K H p (Fr.fq q)
  | _, _, 0, v, .cons (b := q) ⟨p, h1, h2⟩ r, e => ⟨p, q, (Option.some.inj e).symm.trans h1, rfl, h2⟩
  | _, _, i + 1, v, .cons ⟨p, h1, h2⟩ r, e => Fqs.get (i := i) r e
theorem Fqs.len {K : PySem.W.Frag} {H : Hp} {vs : List V} {qs : List Rat} (h : Fqs K H vs qs) : vs.length = qs.length := Paired.length h
def sum (qs : List Rat) : Rat := qs.foldl (· + ·) 0
def szs (ns : List Nat) : Nat := ns.foldl (fun a n => a + n + 1) 1
theorem szs_snoc (l : List Nat) (n : Nat) : szs (l ++ [n]) = szs l + n + 1 := by simp [szs]
theorem sum_snoc (l : List Rat) (q : Rat) : sum (l ++ [q]) = sum l + q := by simp [sum]
theorem szs_take (l : List Nat) (i : Nat) : szs (l.take i) ≤ szs l := by
  have h : ∀ (m : List Nat) (a b : Nat), a ≤ b → a ≤ m.foldl (fun a n => a + n + 1) b := fun m => by
    induction m with
    | nil => intro a b h; exact h
    | cons x r ih => intro a b h; exact ih a _ (show a ≤ b + x + 1 by omega)
  have e : szs l = (l.drop i).foldl (fun a n => a + n + 1) (szs (l.take i)) := by
    unfold szs
    rw [← List.foldl_append, List.take_append_drop]
  rw [e]
  exact h _ _ _ (Nat.le_refl _)
theorem take_snoc {α : Type} {l : List α} {i : Nat} {x : α} (h : l[i]? = some x) : l.take (i + 1) = l.take i ++ [x] := by
  rw [List.take_add_one, h]
  rfl
theorem Paired.get {α β : Type} {F : α → β → Prop} : ∀ {as : List α} {bs : List β} {i : Nat} {a : α}, Paired F as bs → as[i]? = some a → ∃ b, bs[i]? = some b ∧ F a b
  | _, _, 0, a, .cons (b := b) h r, e => ⟨b, rfl, (Option.some.inj e) ▸ h⟩
  | _, _, i + 1, a, .cons h r, e => Paired.get (i := i) r e
theorem Fqs.snoc {K : PySem.W.Frag} {H : Hp} {p : Addr} {q : Rat} (h : SqT K H p (Fr.fq q)) : ∀ {vs : List V} {qs : List Rat}, Fqs K H vs qs → Fqs K H (vs ++ [.ref p]) (qs ++ [q])
  | _, _, .nil => .cons ⟨p, rfl, h⟩ .nil
  | _, _, .cons a r => .cons a (Fqs.snoc h r)
theorem Fqs.put {K : PySem.W.Frag} {H : Hp} {p : Addr} {q : Rat} (h : SqT K H p (Fr.fq q)) : ∀ (k : Nat) {vs : List V} {qs : List Rat}, Fqs K H vs qs → Fqs K H (vs.take k ++ [.ref p] ++ vs.drop k) (qs.take k ++ [q] ++ qs.drop k)
  | 0, _, _, r => .cons ⟨p, rfl, h⟩ r
  | _ + 1, _, _, .nil => .cons ⟨p, rfl, h⟩ .nil
  | k + 1, _, _, .cons a r => .cons a (Fqs.put h k r)
theorem foldl_add (l : List Rat) (a : Rat) : l.foldl (· + ·) a = a + sum l := by
  induction l generalizing a with
  | nil => show a = a + 0; rw [Rat.add_zero]
  | cons x r ih =>
    show r.foldl (· + ·) (a + x) = a + r.foldl (· + ·) (0 + x)
    rw [ih, ih, Rat.zero_add, Rat.add_assoc]
theorem sum_app (l m : List Rat) : sum (l ++ m) = sum l + sum m := by
  show (l ++ m).foldl (· + ·) 0 = _
  rw [List.foldl_append]
  exact foldl_add m _
theorem sum_put (l : List Rat) (k : Nat) (q : Rat) : sum (l.take k ++ [q] ++ l.drop k) = sum l + q := by
  have e : sum l = sum (l.take k) + sum (l.drop k) := by rw [← sum_app, List.take_append_drop]
  rw [sum_app, sum_app, e, show sum [q] = q from Rat.zero_add q, Rat.add_assoc, Rat.add_assoc, Rat.add_comm q]
theorem Fqs.dp {K : PySem.W.Frag} {H : Hp} : ∀ {vs : List V} {qs : List Rat}, Fqs K H vs qs → DpAll K H vs (qs.map Fr.fqd)
  | _, _, .nil => .nil
  | _, _, .cons ⟨p, e, h⟩ r => by
    subst e
    exact .cons (Fr.dp_fq h) (Fqs.dp r)
theorem shaped_fqs (qs : List Rat) : SeqAt.shaped (.list (qs.map Fr.fqd)) = true := by
  have h : ∀ l : List Rat, PyData.canLayAll0 (l.map Fr.fqd) = true ∧ PyData.depthAll (l.map Fr.fqd) ≤ 1 := fun l => by
    induction l with
    | nil => exact ⟨by simp [PyData.canLayAll0], by simp [PyData.depthAll]⟩
    | cons n r ih => exact ⟨by simp [PyData.canLayAll0, PyData.canLay0, Fr.fqd, ih.1], by simp [PyData.depthAll, PyData.depth, Fr.fqd]; have := ih.2; omega⟩
  obtain ⟨h1, h2⟩ := h qs
  have h3 : PyData.depthAll (qs.map Fr.fqd) + 1 ≤ 64 := by omega
  simp [SeqAt.shaped, PyData.canLay0, PyData.depth, h1, h3]
theorem szs_rep (n : Nat) : szs (List.replicate n 200) = 1 + 201 * n := by
  induction n with
  | zero => rfl
  | succ n ih => rw [List.replicate_succ', szs_snoc, ih]; omega
def All200 (qs : List Rat) : Prop := ∀ q ∈ qs, Fr.Sz 200 q
theorem All200.paired : ∀ {qs : List Rat}, All200 qs → Paired (fun q n => Fr.Sz n q) qs (List.replicate qs.length 200)
  | [], _ => .nil
  | q :: r, h => .cons (h q (List.mem_cons_self ..)) (All200.paired fun x hx => h x (List.mem_cons_of_mem _ hx))
end Lw
namespace Lw
open PySem PySem.Spec PyProof.Rows L2 Gx
def top (i : Nat) : Stmt := PySem.Challenge.pw_surecount_k03_totals.main.body.getD i (.Pass ⟨0, 0, 0, 0⟩)
abbrev s_in_common : Stmt := top 4
theorem sc_in_common : FnScope ["a", "b"] ["a", "b"] (defScope s_in_common) := ⟨rfl, rfl, rfl, by decide +kernel, rfl, by decide +kernel, by decide +kernel⟩
abbrev s_lowest : Stmt := top 5
theorem sc_lowest : FnScope ["a", "b", "divisor"] ["a", "b"] (defScope s_lowest) := ⟨rfl, rfl, rfl, by decide +kernel, rfl, by decide +kernel, by decide +kernel⟩
abbrev s_plus : Stmt := top 6
theorem sc_plus : FnScope ["x", "y"] ["x", "y"] (defScope s_plus) := ⟨rfl, rfl, rfl, by decide +kernel, rfl, by decide +kernel, by decide +kernel⟩
abbrev s_total : Stmt := top 7
theorem sc_total : FnScope ["some", "found", "x"] ["some"] (defScope s_total) := ⟨rfl, rfl, rfl, by decide +kernel, rfl, by decide +kernel, by decide +kernel⟩
abbrev s__law_whole : Stmt := top 9
theorem sc__law_whole : FnScope ["_law_found"] ["_law_found"] (defScope s__law_whole) := ⟨rfl, rfl, rfl, by decide +kernel, rfl, by decide +kernel, by decide +kernel⟩
abbrev s__law_digits : Stmt := top 10
theorem sc__law_digits : FnScope ["_law_script", "_law_k", "_law_cell", "_law_turn"] ["_law_script", "_law_k"] (defScope s__law_digits) := ⟨rfl, rfl, rfl, by decide +kernel, rfl, by decide +kernel, by decide +kernel⟩
abbrev s__law_deck : Stmt := top 11
theorem sc__law_deck : FnScope ["_law_script", "_law_most", "_law_deck_here", "_law_last", "_law_k", "_law_number_here"] ["_law_script", "_law_most"] (defScope s__law_deck) := ⟨rfl, rfl, rfl, by decide +kernel, rfl, by decide +kernel, by decide +kernel⟩
abbrev s__law_number : Stmt := top 12
theorem sc__law_number : FnScope ["_law_deck_here", "_law_number_here"] ["_law_deck_here"] (defScope s__law_number) := ⟨rfl, rfl, rfl, by decide +kernel, rfl, by decide +kernel, by decide +kernel⟩
abbrev s__law_common : Stmt := top 13
theorem sc__law_common : FnScope ["_law_a", "_law_b"] ["_law_a", "_law_b"] (defScope s__law_common) := ⟨rfl, rfl, rfl, by decide +kernel, rfl, by decide +kernel, by decide +kernel⟩
abbrev s__law_made : Stmt := top 14
theorem sc__law_made : FnScope ["_law_a", "_law_b", "_law_common_here"] ["_law_a", "_law_b"] (defScope s__law_made) := ⟨rfl, rfl, rfl, by decide +kernel, rfl, by decide +kernel, by decide +kernel⟩
abbrev s__law_is_fraction : Stmt := top 15
theorem sc__law_is_fraction : FnScope ["_law_found", "_law_a", "_law_b"] ["_law_found", "_law_a", "_law_b"] (defScope s__law_is_fraction) := ⟨rfl, rfl, rfl, by decide +kernel, rfl, by decide +kernel, by decide +kernel⟩
abbrev s_law : Stmt := top 16
theorem sc_law : FnScope ["_law_script", "_law_deck_here", "_law_some", "_law_turned", "_law_a", "_law_b", "_law_k", "_law_one", "_law_other", "_law_x", "_law_handed", "_law_found"] ["_law_script"] (defScope s_law) := ⟨rfl, rfl, rfl, by decide +kernel, rfl, by decide +kernel, by decide +kernel⟩
abbrev FnP (K : PySem.W.Frag) (x q : Str) (st : Stmt) (f : Addr) (fd : FuncData) : Prop := FunD K x q (defArgs st) (defBody st) (defScope st) [] [] f fd
structure Txt (K : PySem.W.Frag) (mg : Str → Option Value) : Prop where
  n_abs : mg "abs" = none
  n_bool : mg "bool" = none
  n_int : mg "int" = none
  n_isinstance : mg "isinstance" = none
  n_len : mg "len" = none
  n_list : mg "list" = none
  n_max : mg "max" = none
  n_range : mg "range" = none
  n_tuple : mg "tuple" = none
  c_NoFraction : ∃ u, mg "NoFraction" = some u ∧ RelV (.ref (He.ga K "NoFraction")) u
  g_NoFraction : mg "NoFraction" = some (.ref (He.ga K "NoFraction"))
  x_NoFraction : PySem.W.excIn K (He.ga K "NoFraction") He.veBase "ValueError.__new__" = true ∧ PySem.W.keepIn K (.ref (He.ga K "NoFraction")) = true ∧ PySem.W.subIn K (.ref (He.ga K "NoFraction")) (.type "BaseException") = some true ∧ PySem.W.typeIn K (.ref (He.ga K "NoFraction")) = some (.type "type")
end Lw
namespace Lw
open PySem PySem.Spec PyProof.Rows L2 Gx
def sp_in_common (K : PySem.W.Frag) : Sp := fun vs H Q _ => ∃ (a b : Int), vs = [.int a, .int b] ∧ Q (.int (Int.gcd a b : Int)) H
def sp_lowest (K : PySem.W.Frag) : Sp := fun vs H Q E => ∃ (a b : Int), vs = [.int a, .int b] ∧ (b = 0 → E (.ref (He.ga K "NoFraction")) none H) ∧ (b ≠ 0 → Okd a b ∧ ∀ p H', Same H H' → SqT K H' p (Fr.fq (Rat.divInt a b)) → Q (.ref p) H')
def sp_plus (K : PySem.W.Frag) : Sp := fun vs H Q _ => ∃ (p q : Addr) (x y : Rat) (m n : Nat), vs = [.ref p, .ref q] ∧ SqT K H p (Fr.fq x) ∧ SqT K H q (Fr.fq y) ∧ Fr.Sz m x ∧ Fr.Sz n y ∧ m + n ≤ 9000 ∧ ∀ r H', Same H H' → SqT K H' r (Fr.fq (x + y)) → Fr.Sz (m + n + 1) (x + y) → Q (.ref r) H'
def sp_total (K : PySem.W.Frag) : Sp := fun vs H Q _ => ∃ (a : Addr) (xs : List V) (qs : List Rat) (ns : List Nat), vs = [.ref a] ∧ (SqL K H a xs ∨ SqT K H a xs) ∧ Fqs K H xs qs ∧ Paired (fun q n => Fr.Sz n q) qs ns ∧ szs ns ≤ 9000 ∧
  ∀ r H', Same H H' → SqT K H' r (Fr.fq (sum qs)) → Fr.Sz (szs ns) (sum qs) → Q (.ref r) H'
def sp__law_whole (K : PySem.W.Frag) : Sp := fun vs H Q _ => ∃ (x : V) (t : Value) (b1 b2 : Bool), vs = [x] ∧ TyX K H x t ∧ PySem.W.kitOne K t (.type "int") = some b1 ∧ PySem.W.kitOne K t (.type "bool") = some b2 ∧ Q (.bl (b1 && !b2)) H
theorem whole_int {K : PySem.W.Frag} {H : Hp} {Q : VK} {E : XK} {i : Int} (q : Q (.bl true) H) : sp__law_whole K [.int i] H Q E := ⟨_, .type "int", true, false, rfl, .base (.int i), kit_ty (by decide +kernel), kit_ty (by decide +kernel), q⟩
def sp__law_digits (K : PySem.W.Frag) : Sp := fun vs H Q _ => ∃ (a : Addr) (ns : List Int) (k : Int), vs = [.ref a, .int k] ∧ SqL K H a (ns.map V.int) ∧ ns.length ≤ 63 ∧ 0 ≤ k ∧ k ≤ 100000 ∧ ∀ (r : Int) H', Same H H' → 0 ≤ r → r < 10000000000000000000000000000000000000000000000000000000000000 → Q (.int r) H'
def sp__law_deck (K : PySem.W.Frag) : Sp := fun vs H Q _ => ∃ (a : Addr) (ns : List Int) (m : Nat), vs = [.ref a, .int (m : Int)] ∧ SqL K H a (ns.map V.int) ∧ ns.length ≤ 63 ∧ m ≤ 100000 ∧
  ∀ (l : Addr) (ds : List Int) H', Same H H' → H l = none → H' l = some (.lst (ds.map V.int)) → ds.length = m → Deck ds → Q (.ref l) H'
def sp__law_number (K : PySem.W.Frag) : Sp := fun vs H Q _ => ∃ (l : Addr) (ds : List Int) (e : Int), vs = [.ref l] ∧ H l = some (.lst ((ds ++ [e]).map V.int)) ∧ Deck (ds ++ [e]) ∧
  ∀ (r : Int) H', But l H H' → H' l = some (.lst (ds.map V.int)) → r.natAbs < 1000000000000000000000000000000000000000000000000000000000000 → Q (.int r) H'
def sp__law_common (K : PySem.W.Frag) : Sp := fun vs H Q _ => ∃ (a b : Int), vs = [.int a, .int b] ∧ Q (.int (Int.gcd a b : Int)) H
def sp__law_made (K : PySem.W.Frag) : Sp := fun vs H Q _ => ∃ (a b : Int), vs = [.int a, .int b] ∧ b ≠ 0 ∧ Okd a b ∧ ∀ p H', Same H H' → SqT K H' p (Fr.fq (Rat.divInt a b)) → Q (.ref p) H'
def sp__law_is_fraction (K : PySem.W.Frag) : Sp := fun vs H Q _ => ∃ (p : Addr) (q : Rat) (a b : Int) (m n : Nat), vs = [.ref p, .int a, .int b] ∧ SqT K H p (Fr.fq q) ∧ Fr.Sz m q ∧ a.natAbs < 2 ^ n ∧ b.natAbs < 2 ^ n ∧ m + n ≤ 134217728 ∧ Q (.bl (decide (q.num * b = (q.den : Int) * a))) H
theorem isfr_yes {K : PySem.W.Frag} {H : Hp} {Q : VK} {E : XK} {p : Addr} {a b : Int} {n : Nat} (h : SqT K H p (Fr.fq (Rat.divInt a b))) (hb : b ≠ 0) (h1 : a.natAbs < 2 ^ n) (h2 : b.natAbs < 2 ^ n) (hn : n ≤ 67108864) (k : Q (.bl true) H) :
    sp__law_is_fraction K [.ref p, .int a, .int b] H Q E := by
  refine ⟨p, _, a, b, n, n, rfl, h, Fr.sz_divInt hb h1 h2, h1, h2, by omega, ?_⟩
  have e : (Rat.divInt a b).num * b = ((Rat.divInt a b).den : Int) * a := by
    have h := Rat.num_divInt_den (Rat.divInt a b)
    have h2 := (Rat.divInt_eq_divInt_iff (Fr.den_ne (Rat.divInt a b)) hb).mp h
    rw [h2, Int.mul_comm]
  rw [decide_eq_true e]
  exact k
def sp_law (K : PySem.W.Frag) : Sp := fun vs H Q _ => ∃ (a : Addr) (ns : List Int), vs = [.ref a] ∧ SqL K H a (ns.map V.int) ∧ ns.length ≤ 63 ∧ ∀ H', Q (.bl true) H'
end Lw
namespace Lw
open PySem PySem.Spec PyProof.Rows L2 Gx
section
variable {P : Program} {w : World} {K : PySem.W.Frag} {mg : Str → Option Value} {base : Heap} {f : Addr} {fd : FuncData}
theorem ok_in_common (F : FnP K "in_common" "in_common" s_in_common f fd) (T : Txt K mg) : FnOk P w K mg base (L2.CX P w) 1 f fd ["a", "b"] (sp_in_common K) := by
  refine F.ok sc_in_common (fun vs H Q E h => ?_) (fun cdv A outer s H vs Q E hr h => ?_)
  · obtain ⟨a, b, rfl, _⟩ := h; rfl
  · refine ⟨_, (pss_cons (ps_set (i := 0) sc_in_common.nd rfl (Or.inl rfl) (pe_callB call_absU (by rfl) T.n_abs (by decide +kernel) (pa_cons (pv 0) pa_nil))) (pss_cons (ps_set (i := 1) sc_in_common.nd rfl (Or.inl rfl) (pe_callB call_absU (by rfl) T.n_abs (by decide +kernel) (pa_cons (pv 1) pa_nil))) (pss_cons (ps_while (passes_of rfl) (pt_cmpR op_gt (pv 1) pe_int (nomark _)) (pss_one (ps_par (i := 0) (j := 1) (by rfl) sc_in_common.nd rfl rfl (by decide) rfl rfl (pa_cons (pv 1) (pa_cons (pe_op op_modN (pv 0) (pv 1)) pa_nil)) (by rfl)))) (pss_one (ps_ret (pv 0)))))), ?_⟩
    obtain ⟨a, b, rfl, kk⟩ := h
    walk_at "go"
    refine k_while (fun m σ H' => H' = H ∧ ∃ x : Nat, σ = [some (.int (x : Int)), some (.int (m : Int))] ∧ Nat.gcd x m = Int.gcd a b) b.natAbs ⟨rfl, a.natAbs, rfl, rfl⟩ ?_
    rintro m σ H' ⟨rfl, x, rfl, e⟩
    walk_at "go"
    refine k_if (fun c => ?_) (fun c => ?_)
    · refine k_wN ?_
      walk_at "go"
      refine ⟨x % m, Nat.mod_lt _ (by omega), rfl, m, rfl, ?_⟩
      rw [← e, Nat.gcd_comm m, ← Nat.gcd_rec, Nat.gcd_comm]
    · obtain rfl : m = 0 := by omega
      walk_at "go"
      rw [Nat.gcd_zero_right] at e
      rw [e]
      exact kk
end
end Lw
namespace Lw
open PySem PySem.Spec PyProof.Rows L2 Gx
section
variable {P : Program} {w : World} {K : PySem.W.Frag} {mg : Str → Option Value} {base : Heap} {f : Addr} {fd : FuncData}
theorem ok_lowest (F : FnP K "lowest" "lowest" s_lowest f fd) (T : Txt K mg) (c_in_common : Cl P w K mg base 1 "in_common" ["a", "b"] (sp_in_common K)) : FnOk P w K mg base (L2.CX P w) 2 f fd ["a", "b"] (sp_lowest K) := by
  refine F.ok sc_lowest (fun vs H Q E h => ?_) (fun cdv A outer s H vs Q E hr h => ?_)
  · obtain ⟨a, b, rfl, _⟩ := h; rfl
  · refine ⟨_, (pss_cons (ps_if (pt_cmpR (op_eqK (K := K) rfl hr) (pv 1) pe_int (nomark _)) (pss_one (ps_raise rfl (takes_of rfl rfl rfl rfl) (pmk_own PySem.F.excBase_ValueError T.x_NoFraction.1 T.g_NoFraction T.x_NoFraction.2.1 (raises_own T.x_NoFraction.2.2.1 T.x_NoFraction.2.2.2) rfl))) pss_nil) (pss_cons (ps_set (i := 2) sc_lowest.nd rfl (Or.inl rfl) (pcall c_in_common hr (by first | decide | omega) (takes_of rfl rfl rfl rfl) (pa_cons (pv 0) (pa_cons (pv 1) pa_nil)))) (C8.pss_cut (ps_if (pt_cmpR op_lt (pv 1) pe_int (nomark _)) (pss_one (ps_set (i := 2) sc_lowest.nd rfl (Or.inl rfl) (pe_op op_sub pe_int (pv 2)))) pss_nil) (pss_one (ps_ret (pe_tup (pa_cons (pe_op op_fdivG (pv 0) (pv 2)) (pa_cons (pe_op op_fdivG (pv 1) (pv 2)) pa_nil)))))))), ?_⟩
    obtain ⟨a, b, rfl, k0, k1⟩ := h
    walk_at "go"
    refine k_if (fun c => ?_) (fun c => ?_)
    · walk_at "go"
      exact k0 c
    · obtain ⟨hd, k1⟩ := k1 c
      walk_at "go"
      refine ⟨a, b, rfl, ?_⟩
      walk_at "go"
      refine k_cut (fun σ H' => H' = H ∧ ∃ d : Int, d = (if b < 0 then 0 - (Int.gcd a b : Int) else (Int.gcd a b : Int)) ∧ σ = [some (.int a), some (.int b), some (.int d)]) ?_ ?_
      · walk_at "go"
        refine k_if (fun c2 => ?_) (fun c2 => ?_)
        · walk_at "go"
          exact ⟨rfl, _, by rw [if_pos c2], rfl⟩
        · walk_at "go"
          exact ⟨rfl, _, by rw [if_neg c2], rfl⟩
      · rintro σ H' ⟨rfl, d, ed, rfl⟩
        have hg := Int.gcd_pos_of_ne_zero_right a c
        have hn : d.natAbs = Int.gcd a b := by rw [ed]; split <;> omega
        have hz : d ≠ 0 := by omega
        obtain ⟨d1, d2⟩ := hd.div hn
        walk_at "go"
        refine k_I ?_ ⟨hz, d1⟩
        walk_at "go"
        refine k_I ?_ ⟨hz, d2⟩
        walk_at "go"
        refine k_tupx (fun p H2 np s1 hp => ?_) (by simp [sizeLine_eq])
        refine k1 p H2 s1 (SqT.of ?_)
        rw [hp, Fr.low_num c ed, Fr.low_den c ed]
end
end Lw
namespace Lw
open PySem PySem.Spec PyProof.Rows L2 Gx
section
variable {P : Program} {w : World} {K : PySem.W.Frag} {mg : Str → Option Value} {base : Heap} {f : Addr} {fd : FuncData}
theorem ok_plus (F : FnP K "plus" "plus" s_plus f fd) (T : Txt K mg) (c_lowest : Cl P w K mg base 2 "lowest" ["a", "b"] (sp_lowest K)) : FnOk P w K mg base (L2.CX P w) 3 f fd ["x", "y"] (sp_plus K) := by
  refine F.ok sc_plus (fun vs H Q E h => ?_) (fun cdv A outer s H vs Q E hr h => ?_)
  · obtain ⟨p, q, x, y, m, n, rfl, _⟩ := h; rfl
  · refine ⟨_, (pss_one (ps_ret (pcall c_lowest hr (by first | decide | omega) (takes_of rfl rfl rfl rfl) (pa_cons (pe_op (op_addK (K := K) rfl) (pe_op (op_mulK (K := K) rfl) (pe_ix (ix_K (K := K) rfl) (pv 0) pe_int (fun _ _ => rfl)) (pe_ix (ix_K (K := K) rfl) (pv 1) pe_int (fun _ _ => rfl))) (pe_op (op_mulK (K := K) rfl) (pe_ix (ix_K (K := K) rfl) (pv 1) pe_int (fun _ _ => rfl)) (pe_ix (ix_K (K := K) rfl) (pv 0) pe_int (fun _ _ => rfl)))) (pa_cons (pe_op (op_mulK (K := K) rfl) (pe_ix (ix_K (K := K) rfl) (pv 0) pe_int (fun _ _ => rfl)) (pe_ix (ix_K (K := K) rfl) (pv 1) pe_int (fun _ _ => rfl))) pa_nil))))), ?_⟩
    obtain ⟨p, q, x, y, m, n, rfl, hp, hq, sx, sy, hmn, kk⟩ := h
    walk_at "go"
    refine k_ixT hp (v := .int x.num) rfl ?_
    walk_at "go"
    refine k_ixT hq (v := .int (y.den : Int)) rfl ?_
    walk_at "go"
    refine k_mulB sx.1 sy.den (by omega) ?_
    walk_at "go"
    refine k_ixT hq (v := .int y.num) rfl ?_
    walk_at "go"
    refine k_ixT hp (v := .int (x.den : Int)) rfl ?_
    walk_at "go"
    refine k_mulB sy.1 sx.den (by omega) ?_
    walk_at "go"
    refine k_ixT hp (v := .int (x.den : Int)) rfl ?_
    walk_at "go"
    refine k_ixT hq (v := .int (y.den : Int)) rfl ?_
    walk_at "go"
    refine k_mulB sx.den sy.den (by omega) ?_
    walk_at "go"
    have hz : (x.den : Int) * (y.den : Int) ≠ 0 := Int.mul_ne_zero (Fr.den_ne x) (Fr.den_ne y)
    refine ⟨_, _, rfl, fun c => absurd c hz, fun _ => ⟨okd_den hz (Fr.dd_lt sx sy) hmn, fun r H' s1 hr => ?_⟩⟩
    rw [Fr.add_eq x y] at hr
    exact kk r H' s1 hr (sx.add sy)
end
end Lw
namespace Lw
open PySem PySem.Spec PyProof.Rows L2 Gx
section
variable {P : Program} {w : World} {K : PySem.W.Frag} {mg : Str → Option Value} {base : Heap} {f : Addr} {fd : FuncData}
theorem ok_total (F : FnP K "total" "total" s_total f fd) (T : Txt K mg) (c_plus : Cl P w K mg base 3 "plus" ["x", "y"] (sp_plus K)) : FnOk P w K mg base (L2.CX P w) 4 f fd ["some"] (sp_total K) := by
  refine F.ok sc_total (fun vs H Q E h => ?_) (fun cdv A outer s H vs Q E hr h => ?_)
  · obtain ⟨a, xs, qs, ns, rfl, _⟩ := h; rfl
  · refine ⟨_, (pss_cons (ps_set (i := 1) sc_total.nd rfl (Or.inl rfl) (pe_tup (pa_cons pe_int (pa_cons pe_int pa_nil)))) (pss_cons (ps_for (passes_of rfl) rfl (pi_seqU (pv 0)) (pg_name (i := 2) sc_total.nd rfl (Or.inl rfl)) (pss_one (ps_set (i := 1) sc_total.nd rfl (Or.inl rfl) (pcall c_plus hr (by first | decide | omega) (takes_of rfl rfl rfl rfl) (pa_cons (pv 1) (pa_cons (pv 2) pa_nil)))))) (pss_one (ps_ret (pv 1))))), ?_⟩
    obtain ⟨a, xs, qs, ns, rfl, hS, hq, hz, hn, kk⟩ := h
    walk_at "go"
    refine k_tupx (fun p H1 np s1 hp => ?_) (by simp [sizeLine_eq])
    walk_at "go"
    refine k_loopU (xs := xs) (hS.imp (seqL_same s1) (seqT_same s1)) (fun i σ H' => Same H1 H' ∧ ∃ (r : Addr) (t : Option V), σ = [some (.ref a), some (.ref r), t] ∧ SqT K H' r (Fr.fq (sum (qs.take i))) ∧ Fr.Sz (szs (ns.take i)) (sum (qs.take i)))
      ⟨Same.refl _, p, none, rfl, SqT.of hp, by simp only [List.take_zero]; exact ⟨by decide, by decide⟩⟩ (fun i σ' H' h => h.1) ?_ ?_
    · rintro i x σ H2 hx ⟨s2, r, t, rfl, hr, hsz⟩
      obtain ⟨px, q, rfl, hqi, hpx⟩ := Fqs.get ((hq.same s1).same s2) hx
      obtain ⟨n, hni, hqn⟩ := Paired.get hz hqi
      have hle := szs_take ns (i + 1)
      rw [take_snoc hni, szs_snoc] at hle
      walk_at "go"
      refine ⟨r, px, _, q, szs (ns.take i), n, rfl, hr, hpx, hsz, hqn, by omega, fun r2 H3 s3 hr2 hsz2 => ?_⟩
      walk_at "go"
      refine ⟨s2.trans s3, r2, _, rfl, ?_, ?_⟩
      · rw [take_snoc hqi, sum_snoc]
        exact hr2
      · rw [take_snoc hqi, sum_snoc, take_snoc hni, szs_snoc]
        exact hsz2
    · rintro σ H2 ⟨s2, r, t, rfl, hr, hsz⟩
      have e1 : qs.take xs.length = qs := by rw [hq.len, List.take_length]
      have e2 : ns.take xs.length = ns := by rw [hq.len, Paired.length hz, List.take_length]
      rw [e1] at hr hsz
      rw [e2] at hsz
      walk_at "go"
      exact kk r H2 (s1.trans s2) hr hsz
end
end Lw
namespace Lw
open PySem PySem.Spec PyProof.Rows L2 Gx
section
variable {P : Program} {w : World} {K : PySem.W.Frag} {mg : Str → Option Value} {base : Heap} {f : Addr} {fd : FuncData}
theorem ok__law_whole (F : FnP K "_law_whole" "_law_whole" s__law_whole f fd) (T : Txt K mg) : FnOk P w K mg base (L2.CX P w) 1 f fd ["_law_found"] (sp__law_whole K) := by
  refine F.ok sc__law_whole (fun vs H Q E h => ?_) (fun cdv A outer s H vs Q E hr h => ?_)
  · obtain ⟨x, t, b1, b2, rfl, _⟩ := h; rfl
  · refine ⟨_, (pss_one (ps_ret (pe_and (pe_callB call_isi (by rfl) T.n_isinstance (by decide +kernel) (pa_cons (pv 0) (pa_cons (pe_bltn (v := .ty "int") (by rfl) T.n_int (by decide +kernel) rfl) pa_nil))) (pe_one (pe_not (pe_callB call_isi (by rfl) T.n_isinstance (by decide +kernel) (pa_cons (pv 0) (pa_cons (pe_bltn (v := .ty "bool") (by rfl) T.n_bool (by decide +kernel) rfl) pa_nil)))))))), ?_⟩
    obtain ⟨x, t, b1, b2, rfl, ht, h1, h2, k⟩ := h
    walk_at "go"
    refine k_isi (.ty "int") ht h1 ?_
    walk_at "go"
    cases b1 with
    | false => walk_at "go"; exact k
    | true =>
      walk_at "go"
      refine k_isi (.ty "bool") ht h2 ?_
      walk_at "go"
      exact k
end
end Lw
namespace Lw
open PySem PySem.Spec PyProof.Rows L2 Gx
section
variable {P : Program} {w : World} {K : PySem.W.Frag} {mg : Str → Option Value} {base : Heap} {f : Addr} {fd : FuncData}
theorem ok__law_digits (F : FnP K "_law_digits" "_law_digits" s__law_digits f fd) (T : Txt K mg) : FnOk P w K mg base (L2.CX P w) 1 f fd ["_law_script", "_law_k"] (sp__law_digits K) := by
  refine F.ok sc__law_digits (fun vs H Q E h => ?_) (fun cdv A outer s H vs Q E hr h => ?_)
  · obtain ⟨a, ns, k, rfl, _⟩ := h; rfl
  · refine ⟨_, (pss_cons (ps_if (pt_cmpR op_lt (pv 1) (pe_callB call_lenU (by rfl) T.n_len (by decide +kernel) (pa_cons (pv 0) pa_nil)) (nomark _)) (pss_one (ps_ret (pe_op op_modN (pe_ix (ix_K (K := K) rfl) (pv 0) (pv 1) (fun _ _ => rfl)) (pe_op op_pow pe_int pe_int)))) pss_nil) (pss_cons (ps_set (i := 2) sc__law_digits.nd rfl (Or.inl rfl) pe_int) (C8.pss_cut (ps_if (pt_cmpR (op_neK (K := K) rfl hr) (pv 0) (pe_lst pa_nil) (nomark _)) (pss_cons (ps_set (i := 2) sc__law_digits.nd rfl (Or.inl rfl) (pe_callB (call_maxU rfl) (by rfl) T.n_max (by decide +kernel) (pa_cons pe_int (pa_cons (pe_ix (ix_K (K := K) rfl) (pv 0) (pe_op op_modN (pv 1) (pe_callB call_lenU (by rfl) T.n_len (by decide +kernel) (pa_cons (pv 0) pa_nil))) (fun _ _ => rfl)) pa_nil)))) (pss_one (ps_for (passes_of rfl) rfl (pi_range1 rfl T.n_range (pa_cons (pe_op op_fdivG (pv 1) (pe_callB call_lenU (by rfl) T.n_len (by decide +kernel) (pa_cons (pv 0) pa_nil))) pa_nil)) (pg_name (i := 3) sc__law_digits.nd rfl (Or.inl rfl)) (pss_one (ps_set (i := 2) sc__law_digits.nd rfl (Or.inl rfl) (pe_op op_fdivG (pv 2) (pe_op op_pow pe_int pe_int))))))) pss_nil) (pss_one (ps_ret (pe_op op_modN (pv 2) (pe_op op_pow pe_int pe_int))))))), ?_⟩
    obtain ⟨a, ns, k, rfl, hS, hl, k0, k1, kk⟩ := h
    have hlm : (ns.map V.int).length = ns.length := List.length_map ..
    walk_at "go"
    refine k_lenL ?_ hS
    walk_at "go"
    refine k_if (fun c => ?_) (fun c => ?_)
    · walk_at "go"
      obtain ⟨z, hz⟩ := Dk.at_map (ns := ns) k0 (by omega)
      refine k_ixL hS hz ?_
      walk_at "go"
      refine kk _ _ (Same.refl H) (by omega) (by omega)
    · walk_at "go"
      refine k_cut0 ?_
      walk_at "go"
      refine k_lstx (fun p H1 np s1 hp1 => ?_) (by simp)
      have hS1 := seqL_same s1 hS
      refine k_neD (Dk.dp_ints hS1) (.lst (SqL.of hp1) .nil) ?_ (Dk.shaped_ints ns) rfl
      walk_at "go"
      rw [Dk.eqv_nil]
      refine k_ifb (fun c2 => ?_) (fun c2 => ?_)
      · have hpos : 0 < ns.length := by
          cases ns with
          | nil => simp at c2
          | cons => simp
        walk_at "go"
        refine k_lenL ?_ hS1
        walk_at "go"
        obtain ⟨z, hz⟩ := Dk.at_map (ns := ns) (i := k % (((ns.map V.int).length : Nat) : Int)) (Int.emod_nonneg _ (by omega)) (by
          have := Int.emod_lt_of_pos k (show (0 : Int) < ((ns.map V.int).length : Nat) by omega)
          omega)
        refine k_ixL hS1 hz ?_
        walk_at "go"
        refine k_lenL ?_ hS1
        walk_at "go"
        have hq0 : 0 ≤ k / (((ns.map V.int).length : Nat) : Int) := Int.ediv_nonneg k0 (by omega)
        have hq1 : k / (((ns.map V.int).length : Nat) : Int) ≤ k := Int.ediv_le_self _ k0
        refine k_rng1 (by omega) ?_
        refine k_loopR (fun _ σ H' => ∃ (c : Int) (t : Option V), σ = [some (.ref a), some (.int k), some (.int c), t] ∧ Same H1 H') ⟨_, none, rfl, Same.refl _⟩ ?_ ?_
        · rintro i σ H' hi ⟨c, t, rfl, s2⟩
          walk_at "go"
          exact ⟨_, _, rfl, s2⟩
        · rintro σ H' ⟨c, t, rfl, s2⟩
          walk_at "go"
          refine kk _ _ (s1.trans s2) (by omega) (by omega)
      · walk_at "go"
        refine kk _ _ s1 (by omega) (by omega)
end
end Lw
namespace Lw
open PySem PySem.Spec PyProof.Rows L2 Gx
section
variable {P : Program} {w : World} {K : PySem.W.Frag} {mg : Str → Option Value} {base : Heap} {f : Addr} {fd : FuncData}
theorem ok__law_deck (F : FnP K "_law_deck" "_law_deck" s__law_deck f fd) (T : Txt K mg) (c__law_digits : Cl P w K mg base 1 "_law_digits" ["_law_script", "_law_k"] (sp__law_digits K)) : FnOk P w K mg base (L2.CX P w) 2 f fd ["_law_script", "_law_most"] (sp__law_deck K) := by
  refine F.ok sc__law_deck (fun vs H Q E h => ?_) (fun cdv A outer s H vs Q E hr h => ?_)
  · obtain ⟨a, ns, m, rfl, _⟩ := h; rfl
  · refine ⟨_, (pss_cons (ps_set (i := 2) sc__law_deck.nd rfl (Or.inl rfl) (pe_lst pa_nil)) (pss_cons (ps_set (i := 3) sc__law_deck.nd rfl (Or.inl rfl) pe_int) (pss_cons (ps_for (passes_of rfl) rfl (pi_range1 rfl T.n_range (pa_cons (pv 1) pa_nil)) (pg_name (i := 4) sc__law_deck.nd rfl (Or.inl rfl)) (pss_cons (ps_set (i := 5) sc__law_deck.nd rfl (Or.inl rfl) (pcall c__law_digits hr (by first | decide | omega) (takes_of rfl rfl rfl rfl) (pa_cons (pv 0) (pa_cons (pv 4) pa_nil)))) (C8.pss_cut (ps_if (PW.pt (pw_and (pt_cmpR op_ge (pv 4) (pe_callB call_lenU (by rfl) T.n_len (by decide +kernel) (pa_cons (pv 0) pa_nil)) (nomark _)) (pw_and1 (pt_cmpR (op_eqK (K := K) rfl hr) (pv 5) pe_int (nomark _))))) (pss_one (ps_set (i := 5) sc__law_deck.nd rfl (Or.inl rfl) (pe_op op_modN (pe_op (op_mulK (K := K) rfl) (pe_op op_modN (pe_op (op_mulK (K := K) rfl) (pv 3) pe_int) pe_int) pe_int) pe_int))) pss_nil) (pss_cons (ps_set (i := 3) sc__law_deck.nd rfl (Or.inl rfl) (pe_op op_modN (pe_op (op_addK (K := K) rfl) (pe_op (op_addK (K := K) rfl) (pe_op (op_mulK (K := K) rfl) (pv 3) pe_int) (pv 5)) (pv 4)) pe_int)) (pss_one (ps_expr (pe_bm PySem.F.plainAttrs_list PySem.F.slot_list_append PySem.F.type_list_append mt_append (pv 2) (pa_cons (pv 5) pa_nil)))))))) (pss_one (ps_ret (pe_revL (pv 2))))))), ?_⟩
    obtain ⟨a, ns, m, rfl, hS, hl, hm, kk⟩ := h
    have hlm : (ns.map V.int).length = ns.length := List.length_map ..
    walk_at "go"
    refine k_lstx (fun l H1 nl s1 hl1 => ?_) (by simp)
    walk_at "go"
    refine k_rng1 (by omega) ?_
    have hmt : ((m : Int)).toNat = m := by omega
    rw [hmt]
    refine k_loopR (fun i σ H' => ∃ (c : Int) (t1 t2 : Option V) (ds : List Int), σ = [some (.ref a), some (.int (m : Int)), some (.ref l), some (.int c), t1, t2] ∧ Same H H' ∧ H' l = some (.lst (ds.map V.int)) ∧ ds.length = i ∧ Deck ds ∧ 0 ≤ c ∧ c < 2147483647) ⟨_, none, none, [], rfl, s1, hl1, rfl, fun d hd => (nomatch hd), by omega, by omega⟩ ?_ ?_
    · rintro i σ H2 hi ⟨c, t1, t2, ds, rfl, s2, hl2, hn, hd, c0, c1⟩
      walk_at "go"
      refine ⟨a, ns, (i : Int), rfl, seqL_same s2 hS, hl, by omega, by omega, fun r H3 s3 r0 r1 => ?_⟩
      walk_at "go"
      refine k_cut (fun σ H' => ∃ r : Int, 0 ≤ r ∧ r < 10000000000000000000000000000000000000000000000000000000000000 ∧ H' = H3 ∧ σ = [some (.ref a), some (.int (m : Int)), some (.ref l), some (.int c), some (.int (i : Int)), some (.int r)]) ?_ (fun σ H' => ?_)
      rotate_left
      · rintro ⟨r, r0, r1, rfl, rfl⟩
        have hl3 := s3 _ _ hl2
        walk_at "go"
        refine k_mulB (m := 40) (n := 40) (by omega) (by decide) (by decide) ?_
        walk_at "go"
        refine ⟨k_app0 hl3, ?_⟩
        walk_at "go"
        refine k_app1 hl3 (by rw [List.length_map, sizeLine_eq]; omega) (fun H4 b4 hl4 => ?_)
        refine ⟨_, _, _, ds ++ [r], rfl, But.same nl (s2.trans s3) b4, ?_, by simp [hn], ?_, by omega, by omega⟩
        · rw [hl4]; simp
        · intro d hd'
          rcases List.mem_append.mp hd' with q | q
          · exact hd d q
          · rw [List.mem_singleton.mp q]; exact ⟨r0, r1⟩
      walk_at "go"
      refine k_lenL ?_ (seqL_same s3 (seqL_same s2 hS))
      walk_at "go"
      have hl3 := s3 _ _ hl2
      have hz : (ds.map V.int).length < sizeLine := by rw [List.length_map, sizeLine_eq]; omega
      refine k_if (fun c2 => ?_) (fun c2 => ?_)
      · walk_at "go"
        refine k_if (fun c3 => ?_) (fun c3 => ?_)
        · walk_at "go"
          refine k_mulB (m := 40) (n := 40) (by omega) (by decide) (by decide) ?_
          walk_at "go"
          refine k_mulB (m := 40) (n := 40) (by omega) (by decide) (by decide) ?_
          walk_at "go"
          exact ⟨_, by omega, by omega, rfl, rfl⟩
        · walk_at "go"
          exact ⟨_, r0, r1, rfl, rfl⟩
      · walk_at "go"
        exact ⟨_, r0, r1, rfl, rfl⟩
    · rintro σ H2 ⟨c, t1, t2, ds, rfl, s2, hl2, hn, hd, c0, c1⟩
      walk_at "go"
      refine k_rev1 (SqL.of hl2) (fun p H3 np s3 hp => ?_)
      refine kk p ds.reverse H3 (s2.trans s3) (s2.free np) ?_ (by simp [hn]) (fun d hd' => hd d (List.mem_reverse.mp hd'))
      rw [hp, List.map_reverse]
end
end Lw
namespace Lw
open PySem PySem.Spec PyProof.Rows L2 Gx
section
variable {P : Program} {w : World} {K : PySem.W.Frag} {mg : Str → Option Value} {base : Heap} {f : Addr} {fd : FuncData}
theorem ok__law_number (F : FnP K "_law_number" "_law_number" s__law_number f fd) (T : Txt K mg) : FnOk P w K mg base (L2.CX P w) 1 f fd ["_law_deck_here"] (sp__law_number K) := by
  refine F.ok sc__law_number (fun vs H Q E h => ?_) (fun cdv A outer s H vs Q E hr h => ?_)
  · obtain ⟨l, ds, e, rfl, _⟩ := h; rfl
  · refine ⟨_, (pss_cons (ps_set (i := 1) sc__law_number.nd rfl (Or.inl rfl) (pe_bm0 PySem.F.plainAttrs_list PySem.F.slot_list_pop PySem.F.type_list_pop mt_pop (pv 0))) (pss_cons (ps_if (pt_cmpR (op_eqK (K := K) rfl hr) (pe_op op_modN (pv 1) pe_int) pe_int (nomark _)) (pss_one (ps_ret (pe_op op_sub (pe_op op_modN (pe_op op_fdivG (pv 1) pe_int) (pe_op op_sub (pe_op (op_mulK (K := K) rfl) pe_int (pe_op op_pow pe_int pe_int)) pe_int)) (pe_op op_sub (pe_op op_pow pe_int pe_int) pe_int)))) pss_nil) (pss_cons (ps_if (pt_cmpR (op_eqK (K := K) rfl hr) (pe_op op_modN (pv 1) pe_int) pe_int (nomark _)) (pss_one (ps_ret (pe_op op_sub (pe_op op_modN (pe_op op_fdivG (pv 1) pe_int) pe_int) pe_int))) pss_nil) (pss_one (ps_ret (pe_op op_sub (pe_op op_modN (pe_op op_pow (pe_op (op_addK (K := K) rfl) (pe_op op_modN (pe_op op_fdivG (pv 1) pe_int) (pe_op op_pow pe_int pe_int)) pe_int) pe_int) (pe_op op_sub (pe_op (op_mulK (K := K) rfl) pe_int (pe_op op_pow pe_int pe_int)) pe_int)) (pe_op op_sub (pe_op op_pow pe_int pe_int) pe_int))))))), ?_⟩
    obtain ⟨l, ds, e, rfl, hl, hd, kk⟩ := h
    obtain ⟨hds, e0, e1⟩ := hd.last
    walk_at "go"
    rw [List.map_append] at hl
    refine k_pop hl (fun H1 b1 hl1 => ?_)
    walk_at "go"
    refine k_if (fun c => ?_) (fun c => ?_)
    · walk_at "go"
      refine k_mulB (m := 10) (n := 210) (by decide) (by decide) (by decide) ?_
      walk_at "go"
      exact kk _ H1 b1 hl1 (by omega)
    · walk_at "go"
      refine k_if (fun c2 => ?_) (fun c2 => ?_)
      · walk_at "go"
        exact kk _ H1 b1 hl1 (by omega)
      · walk_at "go"
        refine k_I ?_ (cpow (by decide) (by decide) (by omega))
        walk_at "go"
        refine k_mulB (m := 10) (n := 210) (by decide) (by decide) (by decide) ?_
        walk_at "go"
        refine kk _ H1 b1 hl1 ?_
        have h1 := Int.emod_nonneg ((e / 3 % 1000000000000 + 7) ^ (5 : Int).toNat) (show (2 * 1000000000000000000000000000000000000000000000000000000000000 - 1 : Int) ≠ 0 by decide)
        have h2 := Int.emod_lt_of_pos ((e / 3 % 1000000000000 + 7) ^ (5 : Int).toNat) (show (0 : Int) < 2 * 1000000000000000000000000000000000000000000000000000000000000 - 1 by decide)
        generalize (e / 3 % 1000000000000 + 7) ^ (5 : Int).toNat % (2 * 1000000000000000000000000000000000000000000000000000000000000 - 1) = z at h1 h2
        omega
end
end Lw
namespace Lw
open PySem PySem.Spec PyProof.Rows L2 Gx
section
variable {P : Program} {w : World} {K : PySem.W.Frag} {mg : Str → Option Value} {base : Heap} {f : Addr} {fd : FuncData}
theorem ok__law_common (F : FnP K "_law_common" "_law_common" s__law_common f fd) (T : Txt K mg) : FnOk P w K mg base (L2.CX P w) 1 f fd ["_law_a", "_law_b"] (sp__law_common K) := by
  refine F.ok sc__law_common (fun vs H Q E h => ?_) (fun cdv A outer s H vs Q E hr h => ?_)
  · obtain ⟨a, b, rfl, _⟩ := h; rfl
  · refine ⟨_, (pss_cons (ps_while (passes_of rfl) (pt_cmpR (op_neK (K := K) rfl hr) (pv 1) pe_int (nomark _)) (pss_one (ps_par (i := 0) (j := 1) (by rfl) sc__law_common.nd rfl rfl (by decide) rfl rfl (pa_cons (pv 1) (pa_cons (pe_op op_modN (pv 0) (pv 1)) pa_nil)) (by rfl)))) (pss_one (ps_ret (pe_callB call_absU (by rfl) T.n_abs (by decide +kernel) (pa_cons (pv 0) pa_nil))))), ?_⟩
    obtain ⟨a, b, rfl, kk⟩ := h
    walk_at "go"
    refine k_while (fun m σ H' => H' = H ∧ ∃ x y : Int, σ = [some (.int x), some (.int y)] ∧ m = y.natAbs ∧ Int.gcd x y = Int.gcd a b) b.natAbs ⟨rfl, a, b, rfl, rfl, rfl⟩ ?_
    rintro m σ H' ⟨rfl, x, y, rfl, rfl, e⟩
    walk_at "go"
    refine k_ifn (fun c => ?_) (fun c => ?_)
    · refine k_wN ?_
      walk_at "go"
      refine k_I ?_ c
      walk_at "go"
      exact ⟨_, Fr.fmod_less c, rfl, y, _, rfl, rfl, by rw [Fr.gcd_fmod]; exact e⟩
    · subst c
      walk_at "go"
      rw [Int.gcd_zero] at e
      rw [e]
      exact kk
end
end Lw
namespace Lw
open PySem PySem.Spec PyProof.Rows L2 Gx
section
variable {P : Program} {w : World} {K : PySem.W.Frag} {mg : Str → Option Value} {base : Heap} {f : Addr} {fd : FuncData}
theorem ok__law_made (F : FnP K "_law_made" "_law_made" s__law_made f fd) (T : Txt K mg) (c__law_common : Cl P w K mg base 1 "_law_common" ["_law_a", "_law_b"] (sp__law_common K)) : FnOk P w K mg base (L2.CX P w) 2 f fd ["_law_a", "_law_b"] (sp__law_made K) := by
  refine F.ok sc__law_made (fun vs H Q E h => ?_) (fun cdv A outer s H vs Q E hr h => ?_)
  · obtain ⟨a, b, rfl, _⟩ := h; rfl
  · refine ⟨_, (pss_cons (ps_set (i := 2) sc__law_made.nd rfl (Or.inl rfl) (pcall c__law_common hr (by first | decide | omega) (takes_of rfl rfl rfl rfl) (pa_cons (pv 0) (pa_cons (pv 1) pa_nil)))) (C8.pss_cut (ps_if (pt_cmpR op_lt (pv 1) pe_int (nomark _)) (pss_one (ps_set (i := 2) sc__law_made.nd rfl (Or.inl rfl) (pe_op op_sub pe_int (pv 2)))) pss_nil) (pss_one (ps_ret (pe_tup (pa_cons (pe_op op_fdivG (pv 0) (pv 2)) (pa_cons (pe_op op_fdivG (pv 1) (pv 2)) pa_nil))))))), ?_⟩
    obtain ⟨a, b, rfl, c, hd, k1⟩ := h
    walk_at "go"
    refine ⟨a, b, rfl, ?_⟩
    walk_at "go"
    refine k_cut (fun σ H' => H' = H ∧ ∃ d : Int, d = (if b < 0 then 0 - (Int.gcd a b : Int) else (Int.gcd a b : Int)) ∧ σ = [some (.int a), some (.int b), some (.int d)]) ?_ ?_
    · walk_at "go"
      refine k_if (fun c2 => ?_) (fun c2 => ?_)
      · walk_at "go"
        exact ⟨rfl, _, by rw [if_pos c2], rfl⟩
      · walk_at "go"
        exact ⟨rfl, _, by rw [if_neg c2], rfl⟩
    · rintro σ H' ⟨rfl, d, ed, rfl⟩
      have hg := Int.gcd_pos_of_ne_zero_right a c
      have hn : d.natAbs = Int.gcd a b := by rw [ed]; split <;> omega
      have hz : d ≠ 0 := by omega
      obtain ⟨d1, d2⟩ := hd.div hn
      walk_at "go"
      refine k_I ?_ ⟨hz, d1⟩
      walk_at "go"
      refine k_I ?_ ⟨hz, d2⟩
      walk_at "go"
      refine k_tupx (fun p H2 np s1 hp => ?_) (by simp [sizeLine_eq])
      refine k1 p H2 s1 (SqT.of ?_)
      rw [hp, Fr.low_num c ed, Fr.low_den c ed]
end
end Lw
namespace Lw
open PySem PySem.Spec PyProof.Rows L2 Gx
section
variable {P : Program} {w : World} {K : PySem.W.Frag} {mg : Str → Option Value} {base : Heap} {f : Addr} {fd : FuncData}
theorem ok__law_is_fraction (F : FnP K "_law_is_fraction" "_law_is_fraction" s__law_is_fraction f fd) (T : Txt K mg) (c__law_common : Cl P w K mg base 1 "_law_common" ["_law_a", "_law_b"] (sp__law_common K)) (c__law_whole : Cl P w K mg base 1 "_law_whole" ["_law_found"] (sp__law_whole K)) : FnOk P w K mg base (L2.CX P w) 2 f fd ["_law_found", "_law_a", "_law_b"] (sp__law_is_fraction K) := by
  refine F.ok sc__law_is_fraction (fun vs H Q E h => ?_) (fun cdv A outer s H vs Q E hr h => ?_)
  · obtain ⟨p, q, a, b, m, n, rfl, _⟩ := h; rfl
  · refine ⟨_, (pss_cons (ps_if (PW.pt (pw_or (pt_not (pt_val (pe_callB call_isi (by rfl) T.n_isinstance (by decide +kernel) (pa_cons (pv 0) (pa_cons (pe_bltn (v := .ty "tuple") (by rfl) T.n_tuple (by decide +kernel) rfl) pa_nil))))) (pw_or (pt_cmpR (op_neK (K := K) rfl hr) (pe_callB call_lenU (by rfl) T.n_len (by decide +kernel) (pa_cons (pv 0) pa_nil)) pe_int (nomark _)) (pw_or (pt_not (pt_val (pcall c__law_whole hr (by first | decide | omega) (takes_of rfl rfl rfl rfl) (pa_cons (pe_ix (ix_K (K := K) rfl) (pv 0) pe_int (fun _ _ => rfl)) pa_nil)))) (pw_or1 (pt_not (pt_val (pcall c__law_whole hr (by first | decide | omega) (takes_of rfl rfl rfl rfl) (pa_cons (pe_ix (ix_K (K := K) rfl) (pv 0) pe_int (fun _ _ => rfl)) pa_nil))))))))) (pss_one (ps_ret pe_bl)) pss_nil) (pss_cons (ps_if (PW.pt (pw_or (pt_cmpR op_lt (pe_ix (ix_K (K := K) rfl) (pv 0) pe_int (fun _ _ => rfl)) pe_int (nomark _)) (pw_or1 (pt_cmpR (op_neK (K := K) rfl hr) (pcall c__law_common hr (by first | decide | omega) (takes_of rfl rfl rfl rfl) (pa_cons (pe_ix (ix_K (K := K) rfl) (pv 0) pe_int (fun _ _ => rfl)) (pa_cons (pe_ix (ix_K (K := K) rfl) (pv 0) pe_int (fun _ _ => rfl)) pa_nil))) pe_int (nomark _))))) (pss_one (ps_ret pe_bl)) pss_nil) (pss_one (ps_ret (pe_cmpR (op_eqK (K := K) rfl hr) (pe_op (op_mulK (K := K) rfl) (pe_ix (ix_K (K := K) rfl) (pv 0) pe_int (fun _ _ => rfl)) (pv 2)) (pe_op (op_mulK (K := K) rfl) (pe_ix (ix_K (K := K) rfl) (pv 0) pe_int (fun _ _ => rfl)) (pv 1)) (nomark _)))))), ?_⟩
    obtain ⟨p, q, a, b, m, n, rfl, hp, hz, ha, hb, hmn, kk⟩ := h
    walk_at "go"
    refine k_isi (.ty "tuple") (ty_tup hp) (kit_ty (r := true) (by decide +kernel)) ?_
    walk_at "go"
    refine k_lenT ?_ hp
    walk_at "go"
    refine k_ifn (fun c => absurd rfl c) (fun c => ?_)
    walk_at "go"
    refine k_ixT hp (v := .int q.num) rfl ?_
    walk_at "go"
    refine whole_int ?_
    walk_at "go"
    refine k_ixT hp (v := .int (q.den : Int)) rfl ?_
    walk_at "go"
    refine whole_int ?_
    walk_at "go"
    refine k_ixT hp (v := .int (q.den : Int)) rfl ?_
    walk_at "go"
    have hd := Fr.den_pos q
    refine k_if (fun c => absurd c (by omega)) (fun c => ?_)
    walk_at "go"
    refine k_ixT hp (v := .int q.num) rfl ?_
    walk_at "go"
    refine k_ixT hp (v := .int (q.den : Int)) rfl ?_
    walk_at "go"
    refine ⟨q.num, (q.den : Int), rfl, ?_⟩
    walk_at "go"
    have e : Int.gcd q.num (q.den : Int) = 1 := q.reduced
    refine k_ifn (fun c => absurd (by rw [e]; rfl) c) (fun c => ?_)
    walk_at "go"
    refine k_ixT hp (v := .int q.num) rfl ?_
    walk_at "go"
    refine k_mulB hz.1 hb hmn ?_
    walk_at "go"
    refine k_ixT hp (v := .int (q.den : Int)) rfl ?_
    walk_at "go"
    refine k_mulB hz.den ha hmn ?_
    walk_at "go"
    exact kk
end
end Lw
namespace Lw
open PySem PySem.Spec PyProof.Rows L2 Gx
section
variable {P : Program} {w : World} {K : PySem.W.Frag} {mg : Str → Option Value} {base : Heap} {f : Addr} {fd : FuncData}
theorem ok_law (F : FnP K "law" "law" s_law f fd) (T : Txt K mg) (c_total : Cl P w K mg base 4 "total" ["some"] (sp_total K)) (c__law_is_fraction : Cl P w K mg base 2 "_law_is_fraction" ["_law_found", "_law_a", "_law_b"] (sp__law_is_fraction K)) (c__law_made : Cl P w K mg base 2 "_law_made" ["_law_a", "_law_b"] (sp__law_made K)) (c__law_number : Cl P w K mg base 1 "_law_number" ["_law_deck_here"] (sp__law_number K)) (c__law_deck : Cl P w K mg base 2 "_law_deck" ["_law_script", "_law_most"] (sp__law_deck K)) : FnOk P w K mg base CX0 5 f fd ["_law_script"] (sp_law K) := by
  refine F.ok sc_law (fun vs H Q E h => ?_) (fun cdv A outer s H vs Q E hr h => ?_)
  · obtain ⟨a, ns, rfl, _⟩ := h; rfl
  · refine ⟨_, PSs.nox (pss_cons (ps_set (i := 1) sc_law.nd rfl (Or.inl rfl) (pcallN c__law_deck hr (by first | decide | omega) (pa_cons (pv 0) (pa_cons pe_int pa_nil)))) (pss_cons (ps_set (i := 2) sc_law.nd rfl (Or.inl rfl) (pe_lst pa_nil)) (pss_cons (ps_set (i := 3) sc_law.nd rfl (Or.inl rfl) (pe_lst pa_nil)) (pss_cons (ps_set (i := 4) sc_law.nd rfl (Or.inl rfl) pe_int) (pss_cons (ps_set (i := 5) sc_law.nd rfl (Or.inl rfl) pe_int) (pss_cons (ps_for PassesOwn.never rfl (pi_range1 rfl T.n_range (pa_cons (pe_op op_modN (pe_bm0 PySem.F.plainAttrs_list PySem.F.slot_list_pop PySem.F.type_list_pop mt_pop (pv 1)) pe_int) pa_nil)) (pg_name (i := 6) sc_law.nd rfl (Or.inl rfl)) (pss_cons (ps_set (i := 7) sc_law.nd rfl (Or.inl rfl) (pcallN c__law_number hr (by first | decide | omega) (pa_cons (pv 1) pa_nil))) (pss_cons (ps_set (i := 8) sc_law.nd rfl (Or.inl rfl) (pe_op (op_addK (K := K) rfl) pe_int (pe_op op_modN (pe_bm0 PySem.F.plainAttrs_list PySem.F.slot_list_pop PySem.F.type_list_pop mt_pop (pv 1)) (pe_ix (ix_K (K := K) rfl) (pe_lst (pa_cons pe_int (pa_cons (pe_op op_sub (pe_op op_pow pe_int pe_int) pe_int) pa_nil))) (pe_callTy call_intU (by rfl) T.n_int (by decide +kernel) (pa_cons (pe_cmpR op_lt (pv 6) pe_int (nomark _)) pa_nil)) (fun _ _ => rfl))))) (pss_cons (ps_set (i := 9) sc_law.nd rfl (Or.inl rfl) (pcallN c__law_made hr (by first | decide | omega) (pa_cons (pv 7) (pa_cons (pv 8) pa_nil)))) (pss_cons (ps_expr (pe_bm PySem.F.plainAttrs_list PySem.F.slot_list_append PySem.F.type_list_append mt_append (pv 2) (pa_cons (pv 9) pa_nil))) (pss_cons (ps_expr (pe_bm PySem.F.plainAttrs_list PySem.F.slot_list_insert PySem.F.type_list_insert mt_insert (pv 3) (pa_cons (pe_op op_modN (pe_bm0 PySem.F.plainAttrs_list PySem.F.slot_list_pop PySem.F.type_list_pop mt_pop (pv 1)) (pe_op (op_addK (K := K) rfl) (pe_callB call_lenU (by rfl) T.n_len (by decide +kernel) (pa_cons (pv 3) pa_nil)) pe_int)) (pa_cons (pv 9) pa_nil)))) (pss_one (ps_asg (pcallN c__law_made hr (by first | decide | omega) (pa_cons (pe_op (op_addK (K := K) rfl) (pe_op (op_mulK (K := K) rfl) (pv 4) (pe_ix (ix_K (K := K) rfl) (pv 9) pe_int (fun _ _ => rfl))) (pe_op (op_mulK (K := K) rfl) (pe_ix (ix_K (K := K) rfl) (pv 9) pe_int (fun _ _ => rfl)) (pv 5))) (pa_cons (pe_op (op_mulK (K := K) rfl) (pv 5) (pe_ix (ix_K (K := K) rfl) (pv 9) pe_int (fun _ _ => rfl))) pa_nil))) (pg_tup rfl (pgs_cons (pg_name (i := 4) sc_law.nd rfl (Or.inl rfl)) (pgs_cons (pg_name (i := 5) sc_law.nd rfl (Or.inl rfl)) pgs_nil))))))))))) (pss_cons (ps_set (i := 10) sc_law.nd rfl (Or.inl rfl) (pe_callTy call_lstU (by rfl) T.n_list (by decide +kernel) (pa_cons (pv 2) pa_nil))) (pss_cons (ps_set (i := 11) sc_law.nd rfl (Or.inl rfl) (pcallN c_total hr (by first | decide | omega) (pa_cons (pv 10) pa_nil))) (pss_cons (ps_if (PW.pt (pw_or (pt_not (pt_val (pcallN c__law_is_fraction hr (by first | decide | omega) (pa_cons (pv 11) (pa_cons (pv 4) (pa_cons (pv 5) pa_nil)))))) (pw_or1 (pt_cmpR (op_neK (K := K) rfl hr) (pv 10) (pv 2) (nomark _))))) (pss_one (ps_ret pe_bl)) pss_nil) (pss_one (ps_ret (pe_and (pe_cmpR (op_eqK (K := K) rfl hr) (pcallN c_total hr (by first | decide | omega) (pa_cons (pe_callTy call_tupU (by rfl) T.n_tuple (by decide +kernel) (pa_cons (pv 2) pa_nil)) pa_nil)) (pv 11) (nomark _)) (pe_and (pe_cmpR (op_eqK (K := K) rfl hr) (pcallN c_total hr (by first | decide | omega) (pa_cons (pv 3) pa_nil)) (pv 11) (nomark _)) (pe_one (pe_cmpR (op_eqK (K := K) rfl hr) (pcallN c_total hr (by first | decide | omega) (pa_cons (pe_lst pa_nil) pa_nil)) (pe_tup (pa_cons pe_int (pa_cons pe_int pa_nil))) (nomark _)))))))))))))))), ?_⟩
    obtain ⟨a, ns, rfl, hS, hl, kk⟩ := h
    walk_at "go"
    refine ⟨a, ns, 100, rfl, hS, hl, by decide, fun l ds H1 s1 nl hl1 hn hd => ?_⟩
    walk_at "go"
    refine k_lstx (fun m1 H2 n2 s2 hm1 => ?_) (by simp)
    walk_at "go"
    refine k_lstx (fun m2 H3 n3 s3 hm2 => ?_) (by simp)
    walk_at "go"
    obtain ⟨es, e, rfl⟩ := Dk.last ds (by omega)
    obtain ⟨hd, e0, e1⟩ := hd.last
    rw [List.map_append] at hl1
    refine k_pop (s3 _ _ (s2 _ _ hl1)) (fun H4 b4 hl4 => ?_)
    walk_at "go"
    refine k_rng1 (by omega) ?_
    obtain ⟨N, hN⟩ := Int.eq_ofNat_of_zero_le (show 0 ≤ e % 31 by omega)
    rw [show (e % 31).toNat = N by omega]
    have ne12 : m1 ≠ m2 := ne_of_none hm1 n3
    have nel1 : l ≠ m1 := ne_of_none hl1 n2
    have nel2 : l ≠ m2 := ne_of_none (s2 _ _ hl1) n3
    refine k_loopR (n := N) (fun i σ H' => ∃ (t1 t2 t3 t4 : Option V) (ds : List Int) (xs ys : List V) (qs rs : List Rat), σ = [some (.ref a), some (.ref l), some (.ref m1), some (.ref m2), some (.int (sum qs).num), some (.int ((sum qs).den : Int)), t1, t2, t3, t4, none, none] ∧
      H' l = some (.lst (ds.map V.int)) ∧ ds.length + 3 * i = 99 ∧ Deck ds ∧ H' m1 = some (.lst xs) ∧ H' m2 = some (.lst ys) ∧ Fqs K H' xs qs ∧ Fqs K H' ys rs ∧ qs.length = i ∧ rs.length = i ∧ sum rs = sum qs ∧ All200 qs ∧ All200 rs ∧ Fr.Sz (1 + 201 * i) (sum qs))
      ⟨none, none, none, none, es, [], [], [], [], rfl, hl4, by simp at hn; omega, hd, by walk_at "up", by walk_at "up", .nil, .nil, rfl, rfl, rfl, fun _ h => (nomatch h), fun _ h => (nomatch h), ⟨by decide, by decide⟩⟩ ?_ ?_
    · rintro i σ H5 hi ⟨t1, t2, t3, t4, ds, xs, ys, qs, rs, rfl, hl5, hn, hd, hm1, hm2, fx, fy, lx, ly, esum, ax, ay, sz⟩
      obtain ⟨es, e3, e2, e1, rfl⟩ := Dk.last3 ds (by omega)
      have hn' : es.length + 3 * (i + 1) = 99 := by simp at hn; omega
      rw [show es ++ [e3, e2, e1] = ((es ++ [e3]) ++ [e2]) ++ [e1] by simp] at hl5 hd
      have hx : xs.length = i := by rw [fx.len, lx]
      have hy : ys.length = i := by rw [fy.len, ly]
      have lift : ∀ {H' : Hp} {vs : List V} {ps : List Rat}, (∀ {p : Addr} {q : Rat}, SqT K H5 p (Fr.fq q) → SqT K H' p (Fr.fq q)) → Fqs K H5 vs ps → Fqs K H' vs ps := fun {H' vs ps} f h => by
        induction h with
        | nil => exact .nil
        | cons a r ih => exact .cons (let ⟨p, e, q⟩ := a; ⟨p, e, f q⟩) ih
      walk_at "go"
      refine ⟨l, _, e1, rfl, hl5, hd, fun u H6 b6 hl6 hu => ?_⟩
      walk_at "go"
      rw [List.map_append] at hl6
      refine k_pop hl6 (fun H7 b7 hl7 => ?_)
      obtain ⟨hd7, w0, w1⟩ := hd.last.1.last
      walk_at "go"
      refine k_lstx (fun p8 H8 n8 s8 hp8 => ?_) (by simp [sizeLine_eq])
      walk_at "go"
      obtain ⟨d, hd0, hd1, hat⟩ : ∃ d : Int, 0 < d ∧ d < 2 ^ 200 ∧ atI [V.int 100, .int (1000000000000000000000000000000000000000000000000000000000000 - 1)] (if decide ((i : Int) < 3) = true then 1 else 0) = some (.int d) := by
        by_cases c : (i : Int) < 3
        · exact ⟨1000000000000000000000000000000000000000000000000000000000000 - 1, by decide, by decide, by rw [if_pos (decide_eq_true c)]; rfl⟩
        · exact ⟨100, by decide, by decide, by rw [if_neg (by rw [decide_eq_false c]; decide)]; rfl⟩
      refine k_ixL (SqL.of hp8) hat ?_
      walk_at "go"
      have v0 := Int.emod_nonneg e2 (show d ≠ 0 by omega)
      have v1 := Int.emod_lt_of_pos e2 hd0
      have z0 : 1 + e2 % d ≠ 0 := by omega
      have z1 : (1 + e2 % d).natAbs < 2 ^ 200 := by omega
      refine ⟨u, _, rfl, z0, okd_den z0 z1 (by decide), fun p H9 s9 hp => ?_⟩
      have sx := Fr.sz_divInt z0 (show u.natAbs < 2 ^ 200 by omega) z1
      generalize Rat.divInt u (1 + e2 % d) = x at hp sx
      walk_at "go"
      have hm19 : H9 m1 = some (.lst xs) := by walk_at "up"
      refine ⟨k_app0 hm19, ?_⟩
      walk_at "go"
      refine k_app1 hm19 (by rw [sizeLine_eq]; omega) (fun H10 b10 hm110 => ?_)
      walk_at "go"
      have hm210 : H10 m2 = some (.lst ys) := by walk_at "up"
      refine ⟨k_app0 hm210, ?_⟩
      walk_at "go"
      have hl10 : H10 l = some (.lst (List.map V.int es ++ [.int e3])) := by
        have : H10 l = some (.lst ((es ++ [e3]).map V.int)) := by walk_at "up"
        rw [this, List.map_append]
        rfl
      refine k_pop hl10 (fun H11 b11 hl11 => ?_)
      obtain ⟨hd11, q0, q1⟩ := hd7.last
      walk_at "go"
      have hm211 : H11 m2 = some (.lst ys) := by walk_at "up"
      refine k_lenL ?_ (SqL.of hm211)
      walk_at "go"
      have k0 := Int.emod_nonneg e3 (show ((ys.length : Nat) : Int) + 1 ≠ 0 by omega)
      have k1 := Int.emod_lt_of_pos e3 (show 0 < ((ys.length : Nat) : Int) + 1 by omega)
      refine ⟨m2, ys, _, .ref p, rfl, rfl, hm211, by rw [sizeLine_eq]; omega, k0, by omega, ?_⟩
      generalize (e3 % ((ys.length : Int) + 1)).toNat = k
      have b12 : But m2 H11 (upd H11 m2 (.lst (ys.take k ++ [.ref p] ++ ys.drop k))) := But.upd
      have hm212 : upd H11 m2 (.lst (ys.take k ++ [.ref p] ++ ys.drop k)) m2 = some (.lst (ys.take k ++ [.ref p] ++ ys.drop k)) := upd_same
      generalize upd H11 m2 (.lst (ys.take k ++ [.ref p] ++ ys.drop k)) = H12 at b12 hm212
      walk_at "go"
      have f12 : ∀ {p : Addr} {q : Rat}, SqT K H9 p (Fr.fq q) → SqT K H12 p (Fr.fq q) := fun h => seqT_but b12 hm211 (seqT_but b11 hl10 (seqT_but b10 hm19 h))
      have f5 : ∀ {p : Addr} {q : Rat}, SqT K H5 p (Fr.fq q) → SqT K H12 p (Fr.fq q) := fun h => f12 (seqT_same s9 (seqT_same s8 (seqT_but b7 hl6 (seqT_but b6 hl5 h))))
      have hp12 := f12 hp
      have fx12 := lift f5 fx
      have fy12 := lift f5 fy
      have hz : (((sum qs).den : Nat) : Int) * (x.den : Int) ≠ 0 := Int.mul_ne_zero (Fr.den_ne _) (Fr.den_ne x)
      refine k_ixT hp12 (v := .int (x.den : Int)) rfl ?_
      walk_at "go"
      refine k_mulB sz.1 sx.den (by omega) ?_
      walk_at "go"
      refine k_ixT hp12 (v := .int x.num) rfl ?_
      walk_at "go"
      refine k_mulB sx.1 sz.den (by omega) ?_
      walk_at "go"
      refine k_ixT hp12 (v := .int (x.den : Int)) rfl ?_
      walk_at "go"
      refine k_mulB sz.den sx.den (by omega) ?_
      walk_at "go"
      refine ⟨_, _, rfl, hz, okd_den hz (Fr.dd_lt sz sx) (by omega), fun r H13 s13 hr => ?_⟩
      rw [Fr.add_eq] at hr
      walk_at "go"
      refine k_gtup hr rfl ?_
      walk_at "go"
      refine ⟨_, _, _, _, es, _, _, qs ++ [x], rs.take k ++ [x] ++ rs.drop k, by rw [sum_snoc]; rfl, by walk_at "up", hn', hd11, by walk_at "up", s13 _ _ hm212, (fx12.snoc hp12).same s13, (fy12.put hp12 k).same s13, by simp [lx], ?_, ?_, ?_, ?_, ?_⟩
      · simp
        omega
      · rw [sum_put, sum_snoc, esum]
      · intro q hq
        rcases List.mem_append.mp hq with h | h
        · exact ax q h
        · rw [List.mem_singleton.mp h]; exact sx
      · intro q hq
        rcases List.mem_append.mp hq with h | h
        · rcases List.mem_append.mp h with h | h
          · exact ay q (List.mem_of_mem_take h)
          · rw [List.mem_singleton.mp h]; exact sx
        · exact ay q (List.mem_of_mem_drop h)
      · rw [sum_snoc]
        exact (sz.add sx).mono (by omega)
    · rintro σ H5 ⟨t1, t2, t3, t4, ds, xs, ys, qs, rs, rfl, hl5, hn, hd, hm1, hm2, fx, fy, lx, ly, esum, ax, ay, sz⟩
      have szq : szs (List.replicate qs.length 200) ≤ 9000 := by rw [szs_rep]; omega
      have szr : szs (List.replicate rs.length 200) ≤ 9000 := by rw [szs_rep]; omega
      walk_at "go"
      refine k_lstL (SqL.of hm1) (fun m3 H6 n6 s6 hm3 => ?_)
      walk_at "go"
      refine ⟨m3, xs, qs, _, rfl, .inl (SqL.of hm3), fx.same s6, ax.paired, szq, fun r H7 s7 hr zr => ?_⟩
      walk_at "go"
      refine ⟨r, sum qs, _, _, _, _, rfl, hr, zr, zr.1, zr.den, by omega, ?_⟩
      rw [decide_eq_true (Int.mul_comm _ _)]
      walk_at "go"
      have fx7 := (fx.same s6).same s7
      have d3 : Dp K H7 (.ref m3) (.list (qs.map Fr.fqd)) := .lst (SqL.of (s7 _ _ hm3)) fx7.dp
      have d1 : Dp K H7 (.ref m1) (.list (qs.map Fr.fqd)) := .lst (SqL.of (s7 _ _ (s6 _ _ hm1))) fx7.dp
      have sh := shaped_fqs qs
      refine k_neD d3 d1 ?_ sh sh
      rw [show PyData.eqv (.list (qs.map Fr.fqd)) (.list (qs.map Fr.fqd)) = true from SeqAt.eqv_refl _ (SeqAt.canLay_of_shaped sh)]
      walk_at "go"
      refine k_tupL (SqL.of (s7 _ _ (s6 _ _ hm1))) (fun p8 H8 n8 s8 hp8 => ?_)
      walk_at "go"
      have fx8 := fx7.same s8
      refine ⟨p8, xs, qs, _, rfl, .inr (SqT.of hp8), fx8, ax.paired, szq, fun r2 H9 s9 hr2 zr2 => ?_⟩
      walk_at "go"
      have hr9 : SqT K H9 r (Fr.fq (sum qs)) := seqT_same s9 (seqT_same s8 hr)
      refine k_eqD (Fr.dp_fq hr2) (Fr.dp_fq hr9) ?_ (Fr.shaped_fq _) (Fr.shaped_fq _)
      rw [Fr.eqv_fq, decide_eq_true rfl]
      walk_at "go"
      have hm29 : H9 m2 = some (.lst ys) := by walk_at "up"
      refine ⟨m2, ys, rs, _, rfl, .inl (SqL.of hm29), (((fy.same s6).same s7).same s8).same s9, ay.paired, szr, fun r3 H10 s10 hr3 zr3 => ?_⟩
      walk_at "go"
      refine k_eqD (Fr.dp_fq hr3) (Fr.dp_fq (seqT_same s10 hr9)) ?_ (Fr.shaped_fq _) (Fr.shaped_fq _)
      rw [Fr.eqv_fq, decide_eq_true esum]
      walk_at "go"
      refine k_lstx (fun p11 H11 n11 s11 hp11 => ?_) (by simp)
      walk_at "go"
      refine ⟨p11, [], [], [], rfl, .inl (SqL.of hp11), .nil, .nil, by decide, fun r4 H12 s12 hr4 zr4 => ?_⟩
      walk_at "go"
      refine k_tupx (fun p13 H13 n13 s13 hp13 => ?_) (by simp [sizeLine_eq])
      walk_at "go"
      refine k_eqD (Fr.dp_fq (seqT_same s13 hr4)) (Fr.dp_fq (q := 0) (SqT.of hp13)) ?_ (Fr.shaped_fq _) (Fr.shaped_fq _)
      rw [Fr.eqv_fq, decide_eq_true (show sum [] = 0 from rfl)]
      exact kk _
end
end Lw
namespace Lw
open PySem PySem.Spec PyProof.Rows L2 Gx
def d_in_common : He.DefD := ⟨("in_common", none), "in_common", "in_common", defArgs s_in_common, defBody s_in_common, defScope s_in_common, [], []⟩
def d_lowest : He.DefD := ⟨("lowest", none), "lowest", "lowest", defArgs s_lowest, defBody s_lowest, defScope s_lowest, [], []⟩
def d_plus : He.DefD := ⟨("plus", none), "plus", "plus", defArgs s_plus, defBody s_plus, defScope s_plus, [], []⟩
def d_total : He.DefD := ⟨("total", none), "total", "total", defArgs s_total, defBody s_total, defScope s_total, [], []⟩
def d__law_whole : He.DefD := ⟨("_law_whole", none), "_law_whole", "_law_whole", defArgs s__law_whole, defBody s__law_whole, defScope s__law_whole, [], []⟩
def d__law_digits : He.DefD := ⟨("_law_digits", none), "_law_digits", "_law_digits", defArgs s__law_digits, defBody s__law_digits, defScope s__law_digits, [], []⟩
def d__law_deck : He.DefD := ⟨("_law_deck", none), "_law_deck", "_law_deck", defArgs s__law_deck, defBody s__law_deck, defScope s__law_deck, [], []⟩
def d__law_number : He.DefD := ⟨("_law_number", none), "_law_number", "_law_number", defArgs s__law_number, defBody s__law_number, defScope s__law_number, [], []⟩
def d__law_common : He.DefD := ⟨("_law_common", none), "_law_common", "_law_common", defArgs s__law_common, defBody s__law_common, defScope s__law_common, [], []⟩
def d__law_made : He.DefD := ⟨("_law_made", none), "_law_made", "_law_made", defArgs s__law_made, defBody s__law_made, defScope s__law_made, [], []⟩
def d__law_is_fraction : He.DefD := ⟨("_law_is_fraction", none), "_law_is_fraction", "_law_is_fraction", defArgs s__law_is_fraction, defBody s__law_is_fraction, defScope s__law_is_fraction, [], []⟩
def d_law : He.DefD := ⟨("law", none), "law", "law", defArgs s_law, defBody s_law, defScope s_law, [], []⟩
def fn : List He.DefD := [d_in_common, d_lowest, d_plus, d_total, d__law_whole, d__law_digits, d__law_deck, d__law_number, d__law_common, d__law_made, d__law_is_fraction, d_law]
def fa : List He.Fa := [.free "abs", .free "bool", .free "int", .free "isinstance", .free "len", .free "list", .free "max", .free "range", .free "tuple", .glo "NoFraction", .glo "NoFraction", .exc "NoFraction", .glo "in_common", .glo "lowest", .glo "plus", .glo "total", .glo "_law_whole", .glo "_law_digits", .glo "_law_deck", .glo "_law_number", .glo "_law_common", .glo "_law_made", .glo "_law_is_fraction", .glo "law"]
abbrev R : PySem.W.OpenRow := PySem.W.OpenLaw.row PySem.Challenge.rw_surecount_k03_totals
def exl : List (PySem.W.Frag → Bool) := []
def exB (K : PySem.W.Frag) : Bool := exl.all fun f => f K
abbrev hk : PySem.W.Hook := He.hookX 5 fa fn [] [] exB
def ob (s : PySem.W.SharedT) : He.AlX := He.obsX 5 fa fn [] [] exB (HandSHeadRun.getT s)
theorem ob_eq (s : PySem.W.SharedT) : ob s = hk.obs s.abs := He.obsX_eq (HandSHeadRun.getT_eq s)
def loose : List PySem.Str := (["in_common", "lowest", "plus", "total", "_law_whole", "_law_digits", "_law_deck", "_law_number", "_law_common", "_law_made", "_law_is_fraction", "SureError", "NoFraction"] : List PySem.Str)
theorem run (w : World) : HandSHeadRun.RunEq R (PySem.W.view R.prog [16]) hk ob 6000 loose w := by
  intro os
  kernel_rfl
theorem facts {P : Program} {w : World} {K : PySem.W.Frag} {h : Heap} {mg : Str → Option Value} {f : Addr} (X : K.In h) (G : h.Ns mainGlobals mg) (hfa : mg ("law" : Str) = some (.ref f)) (c : He.SaysD fa fn K) (cx : (exl.all fun f => f K) = true) :
    ∃ fd : FuncData, (∀ (s : Shared) (v : Value), BindsTo s fd ⟨[v], []⟩ [("_law_script", v)]) ∧ ∀ base : Heap, K.In base → base.Ns mainGlobals mg → FnOk P w K mg base CX0 5 f fd ["_law_script"] (sp_law K) := by
  obtain ⟨fd0, F0⟩ := c.def_ 0 (d := d_in_common) rfl
  obtain ⟨fd1, F1⟩ := c.def_ 1 (d := d_lowest) rfl
  obtain ⟨fd2, F2⟩ := c.def_ 2 (d := d_plus) rfl
  obtain ⟨fd3, F3⟩ := c.def_ 3 (d := d_total) rfl
  obtain ⟨fd4, F4⟩ := c.def_ 4 (d := d__law_whole) rfl
  obtain ⟨fd5, F5⟩ := c.def_ 5 (d := d__law_digits) rfl
  obtain ⟨fd6, F6⟩ := c.def_ 6 (d := d__law_deck) rfl
  obtain ⟨fd7, F7⟩ := c.def_ 7 (d := d__law_number) rfl
  obtain ⟨fd8, F8⟩ := c.def_ 8 (d := d__law_common) rfl
  obtain ⟨fd9, F9⟩ := c.def_ 9 (d := d__law_made) rfl
  obtain ⟨fd10, F10⟩ := c.def_ 10 (d := d__law_is_fraction) rfl
  obtain ⟨fd11, F11⟩ := c.def_ 11 (d := d_law) rfl
  have T : Txt K mg := { n_abs := He.free_ok X G (c.fact 0 rfl), n_bool := He.free_ok X G (c.fact 1 rfl), n_int := He.free_ok X G (c.fact 2 rfl), n_isinstance := He.free_ok X G (c.fact 3 rfl), n_len := He.free_ok X G (c.fact 4 rfl), n_list := He.free_ok X G (c.fact 5 rfl), n_max := He.free_ok X G (c.fact 6 rfl), n_range := He.free_ok X G (c.fact 7 rfl), n_tuple := He.free_ok X G (c.fact 8 rfl), c_NoFraction := ⟨_, He.glo_ok X G (c.fact 9 rfl), rfl⟩, g_NoFraction := He.glo_ok X G (c.fact 10 rfl), x_NoFraction := He.exc_ok (c.fact 11 rfl) }
  have g_in_common := He.glo_ok X G (c.fact 12 (f := .glo "in_common") rfl)
  have g_lowest := He.glo_ok X G (c.fact 13 (f := .glo "lowest") rfl)
  have g_plus := He.glo_ok X G (c.fact 14 (f := .glo "plus") rfl)
  have g_total := He.glo_ok X G (c.fact 15 (f := .glo "total") rfl)
  have g__law_whole := He.glo_ok X G (c.fact 16 (f := .glo "_law_whole") rfl)
  have g__law_digits := He.glo_ok X G (c.fact 17 (f := .glo "_law_digits") rfl)
  have g__law_deck := He.glo_ok X G (c.fact 18 (f := .glo "_law_deck") rfl)
  have g__law_number := He.glo_ok X G (c.fact 19 (f := .glo "_law_number") rfl)
  have g__law_common := He.glo_ok X G (c.fact 20 (f := .glo "_law_common") rfl)
  have g__law_made := He.glo_ok X G (c.fact 21 (f := .glo "_law_made") rfl)
  have g__law_is_fraction := He.glo_ok X G (c.fact 22 (f := .glo "_law_is_fraction") rfl)
  have g_law := He.glo_ok X G (c.fact 23 (f := .glo "law") rfl)
  have e := hfa.symm.trans g_law
  cases e
  have b := FunD.bindsA (ps := ["_law_script"]) F11 fun _ _ _ _ _ _ us hl => match us, hl with | [_], _ => rfl
  refine ⟨fd11, fun s v => b s [v] rfl, fun base _ _ => ?_⟩
  have c_in_common : Cl P w K mg base 1 "in_common" ["a", "b"] (sp_in_common K) := ⟨_, fd0, ok_in_common F0 T , g_in_common, F0.kp, F0.bindsN fun _ _ _ _ _ _ us hl => match us, hl with | [_, _], _ => rfl⟩
  have c_lowest : Cl P w K mg base 2 "lowest" ["a", "b"] (sp_lowest K) := ⟨_, fd1, ok_lowest F1 T c_in_common, g_lowest, F1.kp, F1.bindsN fun _ _ _ _ _ _ us hl => match us, hl with | [_, _], _ => rfl⟩
  have c_plus : Cl P w K mg base 3 "plus" ["x", "y"] (sp_plus K) := ⟨_, fd2, ok_plus F2 T c_lowest, g_plus, F2.kp, F2.bindsN fun _ _ _ _ _ _ us hl => match us, hl with | [_, _], _ => rfl⟩
  have c_total : Cl P w K mg base 4 "total" ["some"] (sp_total K) := ⟨_, fd3, ok_total F3 T c_plus, g_total, F3.kp, F3.bindsN fun _ _ _ _ _ _ us hl => match us, hl with | [_], _ => rfl⟩
  have c__law_whole : Cl P w K mg base 1 "_law_whole" ["_law_found"] (sp__law_whole K) := ⟨_, fd4, ok__law_whole F4 T , g__law_whole, F4.kp, F4.bindsN fun _ _ _ _ _ _ us hl => match us, hl with | [_], _ => rfl⟩
  have c__law_digits : Cl P w K mg base 1 "_law_digits" ["_law_script", "_law_k"] (sp__law_digits K) := ⟨_, fd5, ok__law_digits F5 T , g__law_digits, F5.kp, F5.bindsN fun _ _ _ _ _ _ us hl => match us, hl with | [_, _], _ => rfl⟩
  have c__law_deck : Cl P w K mg base 2 "_law_deck" ["_law_script", "_law_most"] (sp__law_deck K) := ⟨_, fd6, ok__law_deck F6 T c__law_digits, g__law_deck, F6.kp, F6.bindsN fun _ _ _ _ _ _ us hl => match us, hl with | [_, _], _ => rfl⟩
  have c__law_number : Cl P w K mg base 1 "_law_number" ["_law_deck_here"] (sp__law_number K) := ⟨_, fd7, ok__law_number F7 T , g__law_number, F7.kp, F7.bindsN fun _ _ _ _ _ _ us hl => match us, hl with | [_], _ => rfl⟩
  have c__law_common : Cl P w K mg base 1 "_law_common" ["_law_a", "_law_b"] (sp__law_common K) := ⟨_, fd8, ok__law_common F8 T , g__law_common, F8.kp, F8.bindsN fun _ _ _ _ _ _ us hl => match us, hl with | [_, _], _ => rfl⟩
  have c__law_made : Cl P w K mg base 2 "_law_made" ["_law_a", "_law_b"] (sp__law_made K) := ⟨_, fd9, ok__law_made F9 T c__law_common, g__law_made, F9.kp, F9.bindsN fun _ _ _ _ _ _ us hl => match us, hl with | [_, _], _ => rfl⟩
  have c__law_is_fraction : Cl P w K mg base 2 "_law_is_fraction" ["_law_found", "_law_a", "_law_b"] (sp__law_is_fraction K) := ⟨_, fd10, ok__law_is_fraction F10 T c__law_common c__law_whole, g__law_is_fraction, F10.kp, F10.bindsN fun _ _ _ _ _ _ us hl => match us, hl with | [_, _, _], _ => rfl⟩
  exact ok_law F11 T c_total c__law_is_fraction c__law_made c__law_number c__law_deck
end Lw
open PySem PySem.W PySem.Calls PyProof.Rows
theorem PySem.Challenge.cw_surecount_k03_totals_holds : PySem.Challenge.rw_surecount_k03_totals.Holds := by
  w_on; o_law
  refine HandSHeadRun.head_any (r := OpenLaw.row PySem.Challenge.rw_surecount_k03_totals) (q := view (OpenLaw.row PySem.Challenge.rw_surecount_k03_totals).prog [16]) (H := Lw.hk) (ob := Lw.ob) (M := 6000) (loose := Lw.loose) (d := HandSHeadRun.topDef (OpenLaw.row PySem.Challenge.rw_surecount_k03_totals).prog 16) (kwd := []) Lw.ob_eq
    (by kernel_rfl) (fun s => by kernel_rfl) Lw.run (by kernel_rfl) (by kernel_rfl) (by kernel_rfl) (by rfl) (by first | assumption | decide +kernel) (by decide +kernel) ⟨rfl, rfl, rfl, rfl, rfl, by decide +kernel⟩ ?hw ?hc
  case hw => w_witness2
  case hc =>
    refine L2.walk_ofE (l := PySem.Challenge.rw_surecount_k03_totals) (n := 63) (k := 5) (x := "_law_script") (CX := L2.CX0) rfl (by decide) (by kernel_rfl) ⟨rfl, by decide, by decide⟩ ?F (fun _ _ _ _ z => z)
    case F =>
      intro w mg fa h Y G hmg0
      obtain ⟨K, KX, c⟩ := Y
      have hmg : mg ("law" : PySem.Str) = some (.ref fa) := by
        have e : (HandSHeadRun.topDef (OpenLaw.row PySem.Challenge.rw_surecount_k03_totals).prog 16).name = ("law" : PySem.Str) := by kernel_rfl
        rw [← e]
        exact hmg0
      obtain ⟨fd, hb, hF⟩ := Lw.facts (P := (PySem.Challenge.rw_surecount_k03_totals).prog) (w := w) KX G hmg c.t.d c.more
      exact ⟨K, fd, Lw.sp_law K, KX, hb, fun H a ns hl _ hS => ⟨a, ns, rfl, hS, hl, fun _ => rfl⟩, hF⟩
