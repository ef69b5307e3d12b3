import PyProof.Rows.All
import Wide.All
import OpenK.AllK
import Wide.FinOn
import Lean
import HandS.ForMost
import HandS.ForExc
import HandS.Wide
import HandS.WideBits
import HandS.TupAny
import HandS.TupLe
import HandS.TryOnly
import HandS.TupMul
import HandS.Deep
import HandS.IsInst
import HandS.ExcIs
import KE.KExcIs
import KE.DataFind
import KE.GoesEnum
import KE.GoesMore
import HandS.ExcInit
import HandS.ExcField
import HandS.ClsMeth
import HandS.Style
import HandS.Codes
import HandS.Conv
import HandS.SetFor
import HandS.Zip
import HandS.More
import HandS.Defaults
import HandS.Small
import HandS.HeadEnd
import HandS.HeadHook1
import HandS.HeadHook2
import HandS.HeadHook3
import HandS.HeadHook4
import HandS.Head0
import HandS.Head1
import HandS.Head2
import PySem.Challenge.RW_surecount_k26_all_draws
set_option Elab.async false
set_option linter.all false
set_option maxRecDepth 100000
set_option maxHeartbeats 4000000
/-! ### own short words over the hand layer -/
namespace Gx
open PySem PySem.Spec PyProof.Rows L2
/-- all but l stays -/
def But (l : Addr) (H H' : Hp) : Prop := ∀ a o, a ≠ l → H a = some o → H' a = some o
theorem But.of {H H' : Hp} {l : Addr} (e : Same H H') : But l H H' := fun a o _ h => e a o h
theorem But.trans {H H1 H2 : Hp} {l : Addr} (a : But l H H1) (b : But l H1 H2) : But l H H2 := fun c o n h => b c o n (a c o n h)
theorem But.upd {H : Hp} {l : Addr} {o : HO} : But l H (upd H l o) := fun a u n h => by
  rw [upd_ne n]
  exact h
theorem same_new {H : Hp} {p : Addr} {o : HO} (h : H p = none) : Same H (upd H p o) := fun b u q => by
  rw [upd_ne (ne_of_none q h)]
  exact q
theorem But.same {H H1 H2 : Hp} {l : Addr} (n : H l = none) (a : Same H H1) (b : But l H1 H2) : Same H H2 := fun c o h => b c o (ne_of_none h n) (a c o h)
/-! ### reading facts through heaps -/
theorem up_same {H H' : Hp} (e : Same H H') {a : Addr} {o : HO} (h : H a = some o) : H' a = some o := e a o h
theorem up_but {H H' : Hp} {l : Addr} (e : But l H H') {a : Addr} {o : HO} (n : a ≠ l) (h : H a = some o) : H' a = some o := e a o n h
theorem seqL_same {K : PySem.W.Frag} {H H' : Hp} (e : Same H H') {a : Addr} {xs : List V} (h : SqL K H a xs) : SqL K H' a xs := e.seq h
theorem seqT_same {K : PySem.W.Frag} {H H' : Hp} (e : Same H H') {a : Addr} {xs : List V} (h : SqT K H a xs) : SqT K H' a xs := by
  rcases h with (h | ⟨o, h⟩) | h
  · exact .inl (.inl (e _ _ h))
  · exact .inl (.inr ⟨o, e _ _ h⟩)
  · exact .inr h
/-- tuples stay while a list changes -/
theorem seqT_but {K : PySem.W.Frag} {H H' : Hp} {l : Addr} {ys : List V} (e : But l H H') (hl : H l = some (.lst ys)) {a : Addr} {xs : List V} (h : SqT K H a xs) : SqT K H' a xs := by
  rcases h with (h | ⟨o, h⟩) | h
  · exact .inl (.inl (e _ _ (ne_of h hl (by intro z; cases z)) h))
  · exact .inl (.inr ⟨o, e _ _ (ne_of h hl (by intro z; cases z)) h⟩)
  · exact .inr h
theorem seqL_but {K : PySem.W.Frag} {H H' : Hp} {l : Addr} (e : But l H H') {a : Addr} (n : a ≠ l) {xs : List V} (h : SqL K H a xs) : SqL K H' a xs := by
  rcases h with (h | ⟨o, h⟩) | h
  · exact .inl (.inl (e _ _ n h))
  · exact .inl (.inr ⟨o, e _ _ n h⟩)
  · exact .inr h
/-! ### data through heaps -/
mutual
theorem dp_same {K : PySem.W.Frag} {H H' : Hp} (e : Same H H') : ∀ {d : PyData} {v : V}, Dp K H v d → Dp K H' v d
  | _, _, .non => .non
  | _, _, .bl b => .bl b
  | _, _, .int i => .int i
  | _, _, .str x => .str x
  | _, _, .lst h a => .lst (seqL_same e h) (dpAll_same e a)
  | _, _, .tup h a => .tup (seqT_same e h) (dpAll_same e a)
theorem dpAll_same {K : PySem.W.Frag} {H H' : Hp} (e : Same H H') : ∀ {ds : List PyData} {vs : List V}, DpAll K H vs ds → DpAll K H' vs ds
  | _, _, .nil => .nil
  | _, _, .cons a r => .cons (dp_same e a) (dpAll_same e r)
end
/-! data without lists -/
mutual
def noL : PyData → Bool
  | .list _ => false
  | .tuple ds => noLs ds
  | _ => true
def noLs : List PyData → Bool
  | [] => true
  | d :: ds => noL d && noLs ds
end
mutual
theorem dp_but {K : PySem.W.Frag} {H H' : Hp} {l : Addr} {ys : List V} (e : But l H H') (hl : H l = some (.lst ys)) : ∀ {d : PyData} {v : V}, noL d = true → Dp K H v d → Dp K H' v d
  | _, _, _, .non => .non
  | _, _, _, .bl b => .bl b
  | _, _, _, .int i => .int i
  | _, _, _, .str x => .str x
  | _, _, n, .lst h a => by simp [noL] at n
  | _, _, n, .tup h a => .tup (seqT_but e hl h) (dpAll_but e hl (by simpa [noL] using n) a)
theorem dpAll_but {K : PySem.W.Frag} {H H' : Hp} {l : Addr} {ys : List V} (e : But l H H') (hl : H l = some (.lst ys)) : ∀ {ds : List PyData} {vs : List V}, noLs ds = true → DpAll K H vs ds → DpAll K H' vs ds
  | _, _, _, .nil => .nil
  | _, _, n, .cons a r => by
    simp [noLs] at n
    exact .cons (dp_but e hl n.1 a) (dpAll_but e hl n.2 r)
end
theorem tyof_same {K : PySem.W.Frag} {H H' : Hp} (e : Same H H') {x : V} {t : Value} (h : TyOf K H x t) : TyOf K H' x t := by
  cases h with
  | non => exact .non
  | bl x => exact .bl x
  | int i => exact .int i
  | str x => exact .str x
  | flt x => exact .flt x
  | lst h => exact .lst (e _ _ h)
  | frz h => exact .frz (e _ _ h)
  | tup h => exact .tup (e _ _ h)
  | dK h => exact .dK (e _ _ h)
  | dT h => exact .dT (e _ _ h)
  | ins h cl ha hn htk hm => exact .ins (e _ _ h) cl ha hn htk hm
theorem tyx_same {K : PySem.W.Frag} {H H' : Hp} (e : Same H H') {x : V} {t : Value} (h : TyX K H x t) : TyX K H' x t := by
  cases h with
  | base h => exact .base (tyof_same e h)
  | byt b => exact .byt b
  | set h => exact .set (e _ _ h)
  | kList h c => exact .kList h c
  | kTuple h c => exact .kTuple h c
  | kDict h c => exact .kDict h c
  | fTuple h => exact .fTuple (e _ _ h)
  | fDict h => exact .fDict (e _ _ h)
/-! ### a def that may be called -/
structure Cl (P : Program) (w : World) (K : PySem.W.Frag) (mg : Str → Option Value) (base : Heap) (k : Nat) (x : Str) (ps : List Str) (sp : Sp) : Prop where
  ex : ∃ f fd, FnOk P w K mg base (L2.CX P w) k f fd ps sp ∧ mg x = some (.ref f) ∧ PySem.W.keepIn K (.ref f) = true ∧ Binds K fd ps []
section
variable {X : Cx} {W : WX} {e : Expr} {es : List Expr} {p pos : Pos} {t : TA} {x : Str} {ps : List Str} {sp : Sp} {j k : Nat}
theorem pcall (c : Cl X.prog X.w X.K X.mg X.base k x ps sp) (hr : Room j X.A) (hk : k ≤ j) (tk : Takes X W) (ha : PA X (e :: es) t) (hg : Gl X x := by rfl)
    (he : starEach (e :: es) X.env = (false, eval e X.env) :: starEach es X.env := by rfl) (hpl : (backTo pos (starEach es X.env)).any (·.1) = false := by rfl) (hdb : (x == ("__debug__" : Str)) = false := by decide) :
    PE X (.Call (.Name x p) (e :: es) [] pos) (tCallS sp (WE W) t) := by
  obtain ⟨f, fd, F, m, kp, b⟩ := c.ex
  exact pe_callS F (hr.mono hk) hg m kp b (fun σ => passAt tk σ) ha hdb he hpl
theorem pcall0 (c : Cl X.prog X.w X.K X.mg X.base k x ps sp) (hr : Room j X.A) (hk : k ≤ j) (hg : Gl X x := by rfl) (hdb : (x == ("__debug__" : Str)) = false := by decide) :
    PE X (.Call (.Name x p) [] [] pos) (tCall sp [] E0 tNil) := by
  obtain ⟨f, fd, F, m, kp, b⟩ := c.ex
  exact pe_call0 F (hr.mono hk) hg m kp b .nil passL hdb
/-- where nothing may be raised -/
theorem pcallN (c : Cl X.prog X.w X.K X.mg X.base k x ps sp) (hr : Room j X.A) (hk : k ≤ j) (ha : PA X (e :: es) t) (hg : Gl X x := by rfl)
    (he : starEach (e :: es) X.env = (false, eval e X.env) :: starEach es X.env := by rfl) (hpl : (backTo pos (starEach es X.env)).any (·.1) = false := by rfl) (hdb : (x == ("__debug__" : Str)) = false := by decide) :
    PE X (.Call (.Name x p) (e :: es) [] pos) (tCall sp [] E0 t) := by
  obtain ⟨f, fd, F, m, kp, b⟩ := c.ex
  exact pe_call F (hr.mono hk) hg m kp b .nil passL ha hdb he hpl
end
/-- a recursion: nothing is promised at 0 -/
theorem fn_void {P : Program} {w : World} {K : PySem.W.Frag} {mg : Str → Option Value} {base : Heap} {CX : CXT} {k : Nat} {f : Addr} {fd : FuncData} {ps : List Str} {sp : Sp} (h : ∀ vs H Q E, ¬ sp vs H Q E) : FnOk P w K mg base CX k f fd ps sp :=
  ⟨fun vs H Q E z => (h vs H Q E z).elim, fun _ _ _ H _ _ vs Q E _ _ _ _ z => (h vs H Q E z).elim⟩
/-! ### exceptions with fields, their own __init__ walked -/
section
def oexB (K : PySem.W.Frag) (x : Str) : Bool := (match K.lookup (He.ga K x) with
  | some ⟨.type "type", _, .cls cd, sl⟩ => (match cd.mro, sl.toList with
    | .ref C' :: bm, [_, _, _, _, some (.builtin n), _] => C' == He.ga K x && n == "ValueError.__new__" && !cd.hasDel && cd.hasDict && PySem.HandSPX.refsVE bm
    | _, _ => false)
  | _ => false) && (He.eqO (PySem.W.findIn K (.ref (He.ga K x)) "__setattr__") (some (some (.builtin "object.__setattr__"))) && (decide (PySem.W.subIn K (.ref (He.ga K x)) (.type "BaseException") = some true) && (decide (PySem.W.typeIn K (.ref (He.ga K x)) = some (.type "type")) && PySem.W.keepIn K (.ref (He.ga K x)))))
theorem oexB_ok {K : PySem.W.Frag} {x : Str} (h : oexB K x = true) : OexC K (He.ga K x) := by
  unfold oexB at h
  obtain ⟨q, h⟩ := He.ba h
  obtain ⟨h1, h⟩ := He.ba h
  obtain ⟨h2, h⟩ := He.ba h
  obtain ⟨h3, h4⟩ := He.ba h
  refine ⟨?_, He.eqO_ok h1, of_decide_eq_true h2, of_decide_eq_true h3, h4⟩
  split at q
  · rename_i dd cd sl ho
    split at q
    · rename_i C' bm k0 k1 k2 k3 n k5 hm hs
      simp only [Bool.and_eq_true, beq_iff_eq, Bool.not_eq_true'] at q
      obtain ⟨⟨⟨⟨hC, hn⟩, hdel⟩, hdc⟩, hr⟩ := q
      obtain ⟨nm, bs, mro, ns, qn, hd, sn, sub, ab, col, del⟩ := cd
      dsimp only at hm hdel hdc
      subst hm hdel hdc hC hn
      have hsl : sl = #[k0, k1, k2, k3, some (.builtin "ValueError.__new__"), k5] := by
        obtain ⟨l⟩ := sl
        simp only at hs
        rw [hs]
      subst hsl
      exact ⟨_, _, _, _, _, _, _, _, _, _, _, _, _, _, _, ho, hr⟩
    · cases q
  · cases q
/-- the own __init__ of an exception -/
def oinB (K : PySem.W.Frag) (x : Str) : Bool := He.eqO (PySem.W.findIn K (.ref (He.ga K x)) "__init__") (some (some (.ref (He.ma K (He.ga K x) "__init__")))) && decide (PySem.W.typeIn K (.ref (He.ma K (He.ga K x) "__init__")) = some (.type "function"))
theorem oinB_ok {K : PySem.W.Frag} {x : Str} (h : oinB K x = true) : PySem.W.findIn K (.ref (He.ga K x)) "__init__" = some (some (.ref (He.ma K (He.ga K x) "__init__"))) ∧ PySem.W.typeIn K (.ref (He.ma K (He.ga K x) "__init__")) = some (.type "function") := by
  obtain ⟨h1, h2⟩ := He.ba h
  exact ⟨He.eqO_ok h1, of_decide_eq_true h2⟩
/-- Base.__init__(self, ..) of an exception class that has ValueError's -/
structure SupC (K : PySem.W.Frag) (C : Addr) : Prop where
  r : ClX.CRead K C (.type "type")
  at_ : PySem.W.findCls K (.ref C) (.type "type") "__init__" = some (.val (.builtin "ValueError.__init__"))
def supB (K : PySem.W.Frag) (x : Str) : Bool := PySem.W.readsIn K (He.ga K x) (.type "type") && (He.eqO (PySem.W.specialIn K (.ref (He.ga K x)) "__getattribute__") (some (some (.builtin "type.__getattribute__"))) && (match PySem.W.findCls K (.ref (He.ga K x)) (.type "type") "__init__" with
  | some (.val (.builtin n)) => n == "ValueError.__init__"
  | _ => false))
theorem supB_ok {K : PySem.W.Frag} {x : Str} (h : supB K x = true) : SupC K (He.ga K x) := by
  obtain ⟨h1, h⟩ := He.ba h
  obtain ⟨h2, h3⟩ := He.ba h
  refine ⟨⟨h1, He.eqO_ok h2⟩, ?_⟩
  split at h3
  · rename_i n e
    rw [e, beq_iff_eq.mp h3]
  · cases h3
theorem pe_svinit {X : Cx} {n : Str} {C : Addr} {e : Expr} {es : List Expr} {ta : TA} {p1 p2 pos : Pos} {pl : Sem Bool} (S : SupC X.K C) (hg : Gl X n) (hm : X.mg n = some (.ref C)) (ha : PA X (e :: es) ta)
    (hc : eval (.Call (.Attribute (.Name n p1) "__init__" p2) (e :: es) [] pos) X.env = (do
      let ov ← eval (.Name n p1) X.env
      standAt p2.atName
      let (f, first) ← holding [ov] (getMethod ov "__init__" pl)
      callWith pos f first (backTo pos (starEach (e :: es) X.env)) (backToKw pos (keywordEach [] X.env))) := by rfl)
    (he : starEach (e :: es) X.env = (false, eval e X.env) :: starEach es X.env := by rfl) (hpl : (backTo pos (starEach es X.env)).any (·.1) = false := by rfl) (hdb : (n == ("__debug__" : Str)) = false := by decide) :
    PE X (.Call (.Attribute (.Name n p1) "__init__" p2) (e :: es) [] pos) (tVeI X.K ta) := by
  refine ⟨fun pins s σ H Q I h => ?_⟩
  refine PySem.W.methodCall_KW (ld_glob I hg hm ?_ hdb) hc
  refine PySem.W.method_cls I.kIn S.r.ga (PySem.W.cls_value I.kIn S.r.rd S.at_ rfl ?_)
  show wpAny _ _ (callWith pos (Value.builtin "ValueError.__init__") [] (backTo pos (starEach (e :: es) X.env)) []) _ _ _
  refine PyProof.Rows.callWith_method1 (thn (ha.run pos pins _ σ H _ (I.tok _) h) fun us s1 ⟨vs, H1, I1, r1, a, C', ws, ev, hl, T, ea, q⟩ => ?_) he hpl
  subst ev
  cases r1 with
  | @cons _ u0 _ ur ra rw' =>
    obtain rfl : u0 = Value.ref a := ra
    have hlen : ur.length ≤ sizeLine := by
      rw [← Paired.length rw', sizeLine_eq]
      omega
    exact oinit_ok T I1 ea hlen fun s' J => ⟨.non, H1, J, rfl, q⟩
/-- what the __init__ of an exception with one field keeps -/
def spXI (C : Addr) (f : Str) : Sp := fun vs H Q _ => ∃ (a : Addr) (v : V), vs = [.ref a, v] ∧ H a = some (exo a C none) ∧ ∀ d, H d = none → d ≠ a → Q .non (upd (upd H d (exd d [(f, v)])) a (exo a C (some d)))
structure XCl (P : Program) (w : World) (K : PySem.W.Frag) (mg : Str → Option Value) (base : Heap) (k : Nat) (x : Str) (ps : List Str) (sp : Sp) : Prop where
  ex : ∃ fd, OexC K (He.ga K x) ∧ PySem.W.findIn K (.ref (He.ga K x)) "__init__" = some (some (.ref (He.ma K (He.ga K x) "__init__"))) ∧ PySem.W.typeIn K (.ref (He.ma K (He.ga K x) "__init__")) = some (.type "function") ∧
    FnOk P w K mg base (L2.CX P w) k (He.ma K (He.ga K x) "__init__") fd ps sp ∧ mg x = some (.ref (He.ga K x)) ∧ Binds K fd ps []
theorem pmkO {X : Cx} {e : Expr} {es : List Expr} {ta : TA} {p pos : Pos} {x : Str} {ps : List Str} {sp : Sp} {j k : Nat} (c : XCl X.prog X.w X.K X.mg X.base k x ps sp) (hr : Room j X.A) (hk : k + 1 ≤ j) (ha : PA X (e :: es) ta) (hg : Gl X x := by rfl)
    (hdb : (x == ("__debug__" : Str)) = false := by decide) (he : starEach (e :: es) X.env = (false, eval e X.env) :: starEach es X.env := by rfl) (hpl : (backTo pos (starEach es X.env)).any (·.1) = false := by rfl) :
    PMk X (.Call (.Name x p) (e :: es) [] pos) (tMkO (He.ga X.K x) sp [] ta) := by
  obtain ⟨fd, T, iC, tI, F, m, b⟩ := c.ex
  exact pmk_oex T iC tI F (hr.mono hk) b .nil passL hg m ha hdb he hpl
def rMkO (C : Addr) (sp : Sp) (vs : List V) (H1 : Hp) (E : XK) : Prop := vs.length ≤ 1000 ∧ ∀ a, H1 a = none → sp (.ref a :: (vs ++ [])) (upd H1 a (exo a C none))
  (fun v H2 => v = .non ∧ ∃ (d : Addr) (fs : List (Str × V)), H2 a = some (exo a C (some d)) ∧ H2 d = some (exd d fs) ∧ H1 d = none ∧ E (.ref C) (some d) (upd (del H2 a) d (.xd fs))) (fun _ _ _ => False)
theorem k_mk0 {C : Addr} {sp : Sp} {ta : TA} {σ : L2.St} {H : Hp} {E : XK} (q : ta σ H fun vs H1 => rMkO C sp vs H1 E) : tMkO C sp [] ta σ H E := q
theorem k_mkx {C : Addr} {f : Str} {v : V} {H1 : Hp} {E : XK} (k : ∀ d H2, H1 d = none → Same H1 H2 → H2 d = some (.xd [(f, v)]) → E (.ref C) (some d) H2) : rMkO C (spXI C f) [v] H1 E :=
  ⟨by simp, fun a ha => ⟨a, v, rfl, upd_same, fun d hd hda => ⟨rfl, d, [(f, v)], upd_same, by rw [upd_ne hda, upd_same], by rw [upd_ne hda] at hd; exact hd, by
      have hd1 : H1 d = none := by rw [upd_ne hda] at hd; exact hd
      have e : upd (del (upd (upd (upd H1 a (exo a C none)) d (exd d [(f, v)])) a (exo a C (some d))) a) d (.xd [(f, v)]) = upd H1 d (.xd [(f, v)]) := by
        funext b
        by_cases h1 : b = d
        · rw [h1, upd_same, upd_same]
        · rw [upd_ne h1, upd_ne h1]
          by_cases h2 : b = a
          · rw [h2, del_same, ha]
          · rw [del_ne h2, upd_ne h2, upd_ne h1, upd_ne h2]
      rw [e]
      exact k d _ hd1 (same_new hd1) upd_same⟩⟩⟩
def rVeI (K : PySem.W.Frag) (vs : List V) (H1 : Hp) (Q : VK) : Prop := ∃ (a C : Addr) (ws : List V), vs = .ref a :: ws ∧ ws.length ≤ 1000 ∧ OexC K C ∧ H1 a = some (exo a C none) ∧ Q .non H1
theorem k_veI {K : PySem.W.Frag} {ta : TA} {σ : L2.St} {H : Hp} {Q : VK} (q : ta σ H fun vs H1 => rVeI K vs H1 Q) : tVeI K ta σ H Q := q
theorem k_veIx {K : PySem.W.Frag} {a C : Addr} {ws : List V} {H : Hp} {Q : VK} (T : OexC K C) (h : H a = some (exo a C none)) (q : Q .non H) (hl : ws.length ≤ 1000) : rVeI K (.ref a :: ws) H Q := ⟨a, C, ws, rfl, hl, T, h, q⟩
def rOst (K : PySem.W.Frag) (f : Str) (x y : V) (H2 : Hp) (Q : Hp → Prop) : Prop := ∃ a C : Addr, x = .ref a ∧ OexC K C ∧ PySem.W.findIn K (.ref C) f = some none ∧
  ((H2 a = some (exo a C none) ∧ ∀ dx, H2 dx = none → dx ≠ a → Q (upd (upd H2 dx (exd dx [(f, y)])) a (exo a C (some dx)))) ∨
    ∃ (dx : Addr) (fs : List (Str × V)), H2 a = some (exo a C (some dx)) ∧ H2 dx = some (exd dx fs) ∧ fs.length ≤ 900 ∧ Q (upd H2 dx (exd dx ((f, y) :: fs))))
theorem k_ost {K : PySem.W.Frag} {f : Str} {to te : TE} {D : Ends} {σ : L2.St} {H : Hp} (q : te σ H fun y H1 => to σ H1 fun x H2 => rOst K f x y H2 fun H3 => D.nx σ H3) : tOst K f to te D σ H := q
theorem k_ostx {K : PySem.W.Frag} {f : Str} {a C : Addr} {y : V} {H : Hp} {Q : Hp → Prop} (T : OexC K C) (hn : PySem.W.findIn K (.ref C) f = some none) (h : H a = some (exo a C none)) (q : ∀ d, H d = none → d ≠ a → Q (upd (upd H d (exd d [(f, y)])) a (exo a C (some d)))) : rOst K f (.ref a) y H Q := ⟨a, C, rfl, T, hn, .inl ⟨h, q⟩⟩
/-- a field of the error that a suite holds -/
def rXf (a : Addr) (cls : Value) (d : Option Addr) (C : Addr) (f : Str) (x : V) (H1 : Hp) (Q : VK) : Prop := x = .ref a ∧ cls = .ref C ∧ ∃ (dd : Addr) (fs : List (Str × V)) (v : V), d = some dd ∧ H1 dd = some (.xd fs) ∧ fs.lookup f = some v ∧ Q v H1
theorem k_xf {a C : Addr} {cls : Value} {d : Option Addr} {f : Str} {te : TE} {σ : L2.St} {H : Hp} {Q : VK} (q : te σ H fun x H1 => rXf a cls d C f x H1 Q) : tXf a cls d C f te σ H Q := q
theorem k_xfx {a C dd : Addr} {f : Str} {v : V} {H : Hp} {Q : VK} (h : H dd = some (.xd [(f, v)])) (q : Q v H) : rXf a (.ref C) (some dd) C f (.ref a) H Q := ⟨rfl, rfl, dd, _, v, rfl, h, by simp [List.lookup], q⟩
end
/-! ### classes -/
structure MCl (P : Program) (w : World) (K : PySem.W.Frag) (mg : Str → Option Value) (base : Heap) (k : Nat) (C m : Str) (ps : List Str) (sp : Sp) : Prop where
  ex : ∃ f fd, Cls K (He.ga K C) ∧ Meth K (He.ga K C) m f ∧ FnOk P w K mg base (L2.CX P w) k f fd ps sp ∧ Binds K fd ps []
structure KCl (P : Program) (w : World) (K : PySem.W.Frag) (mg : Str → Option Value) (base : Heap) (k : Nat) (C : Str) (ps : List Str) (sp : Sp) : Prop where
  ex : ∃ f fd, Mk K (He.ga K C) f ∧ FnOk P w K mg base (L2.CX P w) k f fd ps sp ∧ mg C = some (.ref (He.ga K C)) ∧ Binds K fd ps []
/-- a class's def, called through the class: C.m(self, ..) -/
structure SCl (P : Program) (w : World) (K : PySem.W.Frag) (mg : Str → Option Value) (base : Heap) (k : Nat) (C m : Str) (ps : List Str) (sp : Sp) : Prop where
  ex : ∃ f fd, ClX.CRead K (He.ga K C) (.type "type") ∧ PySem.W.findCls K (.ref (He.ga K C)) (.type "type") m = some (.val (.ref f)) ∧ PySem.W.keepIn K (.ref f) = true ∧ FnOk P w K mg base (L2.CX P w) k f fd ps sp ∧ mg C = some (.ref (He.ga K C)) ∧ Binds K fd ps []
def tMethS (C : Addr) (m : Str) (sp : Sp) (E : L2.St → XK) (ta : TE) (t : TA) : TE := fun σ H Q => ta σ H fun x H1 => ∃ a dx fs, x = .ref a ∧ H1 a = some (.ins C dx fs) ∧ fs.lookup m = none ∧ t σ H1 fun vs H2 => sp (x :: vs) H2 Q (E σ)
def tOr2 (t u : TE) : TE := fun σ H Q => t σ H Q ∨ u σ H Q
section
variable {X : Cx} {W : WX} {e o : Expr} {es : List Expr} {p pos apos : Pos} {ta : TE} {t : TA} {C m x : Str} {ps : List Str} {sp : Sp} {j k : Nat}
theorem pe_or2 {e : Expr} {t u : TE} (a : PE X e t) (b : PE X e u) : PE X e (tOr2 t u) := ⟨fun pins s σ H Q I h => h.elim (a.run pins s σ H Q I) (b.run pins s σ H Q I)⟩
theorem pmeth {pl : Sem Bool} {K : PySem.W.Frag} (hK : X.K = K) (c : MCl X.prog X.w K X.mg X.base k C m ps sp) (hr : Room j X.A) (hk : k ≤ j) (tk : Takes X W) (he : PE X o ta) (ha : PA X (e :: es) t)
    (hst : starEach (e :: es) X.env = (false, eval e X.env) :: starEach es X.env := by rfl) (hpl : (backTo pos (starEach es X.env)).any (·.1) = false := by rfl)
    (ht : eval (.Call (.Attribute o m apos) (e :: es) [] pos) X.env = (do
      let ov ← eval o X.env
      standAt apos.atName
      let (f, first) ← holding [ov] (getMethod ov m pl)
      callWith pos f first (backTo pos (starEach (e :: es) X.env)) (backToKw pos (keywordEach [] X.env))) := by rfl) :
    PE X (.Call (.Attribute o m apos) (e :: es) [] pos) (tMethS (He.ga K C) m sp (WE W) ta t) := by
  subst hK
  obtain ⟨f, fd, hc, hm, F, b⟩ := c.ex
  refine ⟨fun pins s σ H Q I h => ?_⟩
  refine PySem.W.methodCall_KW (pl := pl) (thn (he.run pins s σ H _ I h) fun u s1 ⟨x, H1, I1, rx, a, dx, fs, ex, ea, l, q⟩ => ?_) ht
  subst ex
  obtain rfl : u = Value.ref a := rx
  refine getmeth_ok I1 ea hc hm l ?_
  refine PySem.W.callWith_K (first := [.ref a]) (h₀ := X.base) I.ok.mod.kin hm.kp (thn (ha.run pos pins s1 σ H1 _ I1 q) fun us s2 ⟨vs, H2, I2, r, q2⟩ => ⟨I2.kIn, ?_⟩) hst hpl
  exact run_fnS (us := .ref a :: us) (vs := .ref a :: vs) (E := WE W) F (hr.mono hk) b (passAt tk σ) I2 (.cons rfl r) q2
theorem pmeth0 {pl : Sem Bool} {K : PySem.W.Frag} (hK : X.K = K) (c : MCl X.prog X.w K X.mg X.base k C m ps sp) (hr : Room j X.A) (hk : k ≤ j) (tk : Takes X W) (he : PE X o ta)
    (ht : eval (.Call (.Attribute o m apos) [] [] pos) X.env = (do
      let ov ← eval o X.env
      standAt apos.atName
      let (f, first) ← holding [ov] (getMethod ov m pl)
      callWith pos f first (backTo pos (starEach [] X.env)) (backToKw pos (keywordEach [] X.env))) := by rfl) :
    PE X (.Call (.Attribute o m apos) [] [] pos) (tMethS (He.ga K C) m sp (WE W) ta tNil) := by
  subst hK
  obtain ⟨f, fd, hc, hm, F, b⟩ := c.ex
  refine ⟨fun pins s σ H Q I h => ?_⟩
  refine PySem.W.methodCall_KW (pl := pl) (thn (he.run pins s σ H _ I h) fun u s1 ⟨x, H1, I1, rx, a, dx, fs, ex, ea, l, q⟩ => ?_) ht
  subst ex
  obtain rfl : u = Value.ref a := rx
  refine getmeth_ok I1 ea hc hm l ?_
  exact PySem.W.callWith_K0 (first := [.ref a]) I1.kIn hm.kp (run_fnS (us := [.ref a]) (vs := [.ref a]) (E := WE W) F (hr.mono hk) b (passAt tk σ) I1 (.cons rfl .nil) q)
/-- where nothing may be raised -/
theorem pmethN {pl : Sem Bool} {K : PySem.W.Frag} (hK : X.K = K) (c : MCl X.prog X.w K X.mg X.base k C m ps sp) (hr : Room j X.A) (hk : k ≤ j) (he : PE X o ta) (ha : PA X (e :: es) t)
    (hst : starEach (e :: es) X.env = (false, eval e X.env) :: starEach es X.env := by rfl) (hpl : (backTo pos (starEach es X.env)).any (·.1) = false := by rfl)
    (ht : eval (.Call (.Attribute o m apos) (e :: es) [] pos) X.env = (do
      let ov ← eval o X.env
      standAt apos.atName
      let (f, first) ← holding [ov] (getMethod ov m pl)
      callWith pos f first (backTo pos (starEach (e :: es) X.env)) (backToKw pos (keywordEach [] X.env))) := by rfl) :
    PE X (.Call (.Attribute o m apos) (e :: es) [] pos) (tMethS (He.ga K C) m sp (fun _ => E0) ta t) := by
  subst hK
  obtain ⟨f, fd, hc, hm, F, b⟩ := c.ex
  refine ⟨fun pins s σ H Q I h => (pe_meth (pl := pl) he hc hm F (hr.mono hk) b .nil passL ha hst hpl ht).run pins s σ H Q I ?_⟩
  simp only [tMeth, List.append_nil]
  exact h
theorem pmethN0 {pl : Sem Bool} {K : PySem.W.Frag} (hK : X.K = K) (c : MCl X.prog X.w K X.mg X.base k C m ps sp) (hr : Room j X.A) (hk : k ≤ j) (he : PE X o ta)
    (ht : eval (.Call (.Attribute o m apos) [] [] pos) X.env = (do
      let ov ← eval o X.env
      standAt apos.atName
      let (f, first) ← holding [ov] (getMethod ov m pl)
      callWith pos f first (backTo pos (starEach [] X.env)) (backToKw pos (keywordEach [] X.env))) := by rfl) :
    PE X (.Call (.Attribute o m apos) [] [] pos) (tMethS (He.ga K C) m sp (fun _ => E0) ta tNil) := by
  subst hK
  obtain ⟨f, fd, hc, hm, F, b⟩ := c.ex
  refine ⟨fun pins s σ H Q I h => (pe_meth0 (pl := pl) he hc hm F (hr.mono hk) b .nil passL ht).run pins s σ H Q I ?_⟩
  simp only [tMeth, List.append_nil]
  exact h
theorem pmake {K : PySem.W.Frag} (hK : X.K = K) (c : KCl X.prog X.w K X.mg X.base k C ps sp) (hr : Room j X.A) (hk : k + 1 ≤ j) (ha : PA X (e :: es) t) (hg : Gl X C := by rfl)
    (hdb : (C == ("__debug__" : Str)) = false := by decide) (he : starEach (e :: es) X.env = (false, eval e X.env) :: starEach es X.env := by rfl) (hpl : (backTo pos (starEach es X.env)).any (·.1) = false := by rfl) :
    PE X (.Call (.Name C p) (e :: es) [] pos) (tMake (He.ga K C) sp [] E0 t) := by
  subst hK
  obtain ⟨f, fd, M, F, hm, b⟩ := c.ex
  exact pe_make M F (hr.mono hk) hg hm b .nil passL ha hdb he hpl
/-- C.m(self, ..) -/
theorem psup {pl : Sem Bool} (c : SCl X.prog X.w X.K X.mg X.base k C m ps sp) (hr : Room j X.A) (hk : k ≤ j) (ha : PA X (e :: es) t) (hg : Gl X C := by rfl)
    (hc : eval (.Call (.Attribute (.Name C p) m apos) (e :: es) [] pos) X.env = (do
      let ov ← eval (.Name C p) X.env
      standAt apos.atName
      let (f, first) ← holding [ov] (getMethod ov m pl)
      callWith pos f first (backTo pos (starEach (e :: es) X.env)) (backToKw pos (keywordEach [] X.env))) := by rfl)
    (he : starEach (e :: es) X.env = (false, eval e X.env) :: starEach es X.env := by rfl) (hpl : (backTo pos (starEach es X.env)).any (·.1) = false := by rfl) (hdb : (C == ("__debug__" : Str)) = false := by decide) :
    PE X (.Call (.Attribute (.Name C p) m apos) (e :: es) [] pos) (tCall sp [] E0 t) := by
  obtain ⟨f, fd, cr, ca, kp, F, hm, b⟩ := c.ex
  refine ⟨fun pins s σ H Q I h => ?_⟩
  refine PySem.W.methodCall_KW (ld_glob I hg hm ?_ hdb) hc
  refine PySem.W.method_cls I.kIn cr.ga (PySem.W.cls_value I.kIn cr.rd ca rfl ?_)
  refine PySem.W.callWith_K (first := []) (h₀ := X.base) I.ok.mod.kin kp (thn (ha.run pos pins _ σ H _ (I.tok _) h) fun us s2 ⟨vs, H2, I2, r, q2⟩ => ⟨I2.kIn, ?_⟩) he hpl
  exact run_fn F (hr.mono hk) b .nil passL I2 r q2
/-- C(), C without an __init__ -/
structure MbC (K : PySem.W.Frag) (mg : Str → Option Value) (C : Str) : Prop where
  mks : PySem.W.makesIn K (He.ga K C) = true
  ini : PySem.W.findIn K (.ref (He.ga K C)) "__init__" = some (some (.builtin "object.__init__"))
  kp : PySem.W.keepIn K (.ref (He.ga K C)) = true
  ob : PySem.W.mroIn K (He.ga K C) (.type "object") = some true
def mbB (K : PySem.W.Frag) (C : Str) : Bool := PySem.W.makesIn K (He.ga K C) && (He.eqO (PySem.W.findIn K (.ref (He.ga K C)) "__init__") (some (some (.builtin "object.__init__"))) && (PySem.W.keepIn K (.ref (He.ga K C)) && decide (PySem.W.mroIn K (He.ga K C) (.type "object") = some true)))
theorem mbB_ok {K : PySem.W.Frag} {mg : Str → Option Value} {C : Str} (h : mbB K C = true) : MbC K mg C := by
  obtain ⟨h1, h⟩ := He.ba h
  obtain ⟨h2, h⟩ := He.ba h
  obtain ⟨h3, h4⟩ := He.ba h
  exact ⟨h1, He.eqO_ok h2, h3, of_decide_eq_true h4⟩
def tMakeB (C : Addr) : TE := fun _ H Q => ∀ x dx, H x = none → H dx = none → dx ≠ x → Q (.ref x) (upd (upd H dx (.own x)) x (.ins C dx []))
theorem pmakeB {K : PySem.W.Frag} (hK : X.K = K) (c : MbC K X.mg C) (hm : X.mg C = some (.ref (He.ga K C))) (hg : Gl X C := by rfl) (hdb : (C == ("__debug__" : Str)) = false := by decide) : PE X (.Call (.Name C p) [] [] pos) (tMakeB (He.ga K C)) := by
  subst hK
  refine ⟨fun pins s σ H Q I h => ?_⟩
  refine wpAny_Call_Name_kw (ld_glob I hg hm ?_ hdb)
  refine PySem.W.callWith_K0 I.kIn c.kp ?_
  have q := h (s.heap.objs.size + 1) s.heap.objs.size (I.hok.fresh (Nat.le_succ _)) (I.hok.fresh (Nat.le_refl _)) (Nat.ne_of_lt (Nat.lt_succ_self _))
  have I2 := Inv.made (C := He.ga X.K C) I
  refine wpAny_call (make_map0 I.kIn c.mks c.ini (fun self => PySem.W.Looks.of_pure (PySem.W.oi_bind self)) ?_)
  have hx : ((s.heap.push PySem.W.emptyDict).push (PySem.W.instObj (He.ga X.K C) s.heap.objs.size)).get? (s.heap.objs.size + 1) = some (PySem.W.instObj (He.ga X.K C) s.heap.objs.size) := by
    have := Heap.get?_push_size (s.heap.push PySem.W.emptyDict) (o := PySem.W.instObj (He.ga X.K C) s.heap.objs.size) rfl
    rwa [Heap.size_push] at this
  have t1 : PySem.W.Looks (model X.prog X.w) ((s.heap.push PySem.W.emptyDict).push (PySem.W.instObj (He.ga X.K C) s.heap.objs.size)) (typeOf (.ref (s.heap.objs.size + 1))) (.ref (He.ga X.K C)) := (PySem.W.Looks.ld hx).andThen .now
  have t2 : PySem.W.Looks (model X.prog X.w) ((s.heap.push PySem.W.emptyDict).push (PySem.W.instObj (He.ga X.K C) s.heap.objs.size)) (isInstance (.ref (s.heap.objs.size + 1)) (.type "object")) true := t1.andThen (PySem.W.looks_mroIn (M := model X.prog X.w) I2.kIn c.ob)
  refine codeAny_call_builtin PySem.W.oi_plain PySem.W.entry_oi (@PySem.W.check_slot (model X.prog X.w) _ _ _ "object.__init__" "object" "__init__" (.ref (s.heap.objs.size + 1)) [] [] _ PySem.W.oi_kind PySem.W.oi_split t2 (PySem.W.oi_args (.ref (s.heap.objs.size + 1))) ?_)
  rw [PySem.W.oi_run]
  exact wpAny_pure (And.intro rfl ⟨V.ref (s.heap.objs.size + 1), _, I2, rfl, q⟩)
end
section
variable {σ : L2.St} {H : Hp} {Q : VK} {ta tv : TE} {K : PySem.W.Frag} {a C dx : Addr} {fs : List (Str × V)} {f m : Str} {v : V} {sp : Sp} {t : TA} {D : Ends} {E : XK}
def rFld (K : PySem.W.Frag) (f : Str) (x : V) (H1 : Hp) (Q : VK) : Prop := ∃ a C dx fs v, x = .ref a ∧ H1 a = some (.ins C dx fs) ∧ Cls K C ∧ NoAttr K C f ∧ fs.lookup f = some v ∧ Q v H1
theorem k_fld (q : ta σ H fun x H1 => rFld K f x H1 Q) : tFld K ta f σ H Q := q
theorem k_fldx (h : H a = some (.ins C dx fs)) (c : Cls K C) (n : NoAttr K C f) (l : fs.lookup f = some v) (q : Q v H) : rFld K f (.ref a) H Q := ⟨a, C, dx, fs, v, rfl, h, c, n, l, q⟩
def rSFld (K : PySem.W.Frag) (f : Str) (x y : V) (H2 : Hp) (Q : Hp → Prop) : Prop := ∃ a C dx fs, x = .ref a ∧ H2 a = some (.ins C dx fs) ∧ Cls K C ∧ NoAttr K C f ∧ fs.length < 1000 ∧ Q (upd H2 a (.ins C dx (putF f y fs)))
theorem k_sfld (q : tv σ H fun y H1 => ta σ H1 fun x H2 => rSFld K f x y H2 fun H3 => D.nx σ H3) : sFld K ta tv f D σ H := q
theorem k_sfldx {y : V} {Q : Hp → Prop} (h : H a = some (.ins C dx fs)) (c : Cls K C) (n : NoAttr K C f) (q : ∀ H', But a H H' → H' a = some (.ins C dx (putF f y fs)) → Q H') (l : fs.length < 1000) : rSFld K f (.ref a) y H Q := ⟨a, C, dx, fs, rfl, h, c, n, l, q _ But.upd upd_same⟩
def rMeth (C : Addr) (m : Str) (x : V) (H1 : Hp) (P : Prop) : Prop := ∃ a dx fs, x = .ref a ∧ H1 a = some (.ins C dx fs) ∧ fs.lookup m = none ∧ P
theorem k_meth {E : L2.St → XK} (q : ta σ H fun x H1 => rMeth C m x H1 (t σ H1 fun vs H2 => sp (x :: vs) H2 Q (E σ))) : tMethS C m sp E ta t σ H Q := q
theorem k_methx {P : Prop} (h : H a = some (.ins C dx fs)) (l : fs.lookup m = none) (q : P) : rMeth C m (.ref a) H P := ⟨a, dx, fs, rfl, h, l, q⟩
theorem k_o1 {t u : TE} (q : t σ H Q) : tOr2 t u σ H Q := .inl q
theorem k_o2 {t u : TE} (q : u σ H Q) : tOr2 t u σ H Q := .inr q
def rMake (C : Addr) (sp : Sp) (vs : List V) (H1 : Hp) (Q : VK) (E : XK) : Prop := ∀ x dx, H1 x = none → H1 dx = none → dx ≠ x → sp (.ref x :: vs) (upd (upd H1 dx (.own x)) x (.ins C dx [])) (fun v H2 => v = .non ∧ Q (.ref x) H2) E
theorem k_make (q : t σ H fun vs H1 => rMake C sp vs H1 Q E) : tMake C sp [] E t σ H Q := by
  unfold tMake
  simp only [List.append_nil]
  exact q
theorem k_makex {vs : List V} (q : ∀ x dx H2, H x = none → H dx = none → Same H H2 → H2 x = some (.ins C dx []) → H2 dx = some (.own x) → sp (.ref x :: vs) H2 (fun v H3 => v = .non ∧ Q (.ref x) H3) E) : rMake C sp vs H Q E := fun x dx hx hd ne =>
  q x dx _ hx hd ((same_new hd).trans (same_new (by rw [upd_ne (Ne.symm ne)]; exact hx))) upd_same (by rw [upd_ne ne, upd_same])
def rMakeB (C : Addr) (H : Hp) (Q : VK) : Prop := ∀ x dx, H x = none → H dx = none → dx ≠ x → Q (.ref x) (upd (upd H dx (.own x)) x (.ins C dx []))
theorem k_makeB (q : rMakeB C H Q) : tMakeB C σ H Q := q
theorem k_makeBx (q : ∀ x dx H2, H x = none → Same H H2 → H2 x = some (.ins C dx []) → Q (.ref x) H2) : rMakeB C H Q := fun x dx hx hd ne =>
  q x dx _ hx ((same_new hd).trans (same_new (by rw [upd_ne (Ne.symm ne)]; exact hx))) upd_same
end
/-! fields by name -/
section
variable {f g : Str} {u v : V} {r : List (Str × V)}
theorem lk1 : List.lookup f ((f, v) :: r) = some v := by simp [List.lookup]
theorem lkn (h : (f == g) = false) (k : List.lookup f r = some v) : List.lookup f ((g, u) :: r) = some v := by
  show (match f == g with | true => some u | false => List.lookup f r) = _
  rw [h]
  exact k
theorem lk0 : List.lookup f ([] : List (Str × V)) = none := rfl
theorem lkz (h : (f == g) = false) (k : List.lookup f r = none) : List.lookup f ((g, u) :: r) = none := by
  show (match f == g with | true => some u | false => List.lookup f r) = _
  rw [h]
  exact k
theorem pfl0 : ([] : List (Str × V)).length < 1 := by decide
theorem pfl : ∀ {r : List (Str × V)} {n : Nat}, r.length < n → (putF f v r).length < n + 1
  | [], n, h => by show 1 < n + 1; simp at h; omega
  | (g, u) :: r, n, h => by
    show (if g = f then (g, v) :: r else (g, u) :: putF f v r).length < n + 1
    cases n with
    | zero => simp at h
    | succ n =>
      split
      · simp at h ⊢; omega
      · have := pfl (r := r) (n := n) (by simpa using h)
        simp only [List.length_cons]
        omega
theorem pf0 : putF f v [] = [(f, v)] := rfl
theorem pf1 : putF f v ((f, u) :: r) = (f, v) :: r := if_pos rfl
theorem pfn (h : g ≠ f) : putF f v ((g, u) :: r) = (g, u) :: putF f v r := if_neg h
end
/-- what a class says, read through -/
def supmB (K : PySem.W.Frag) (C m : Str) : Bool := PySem.W.readsIn K (He.ga K C) (.type "type") && (He.eqO (PySem.W.specialIn K (.ref (He.ga K C)) "__getattribute__") (some (some (.builtin "type.__getattribute__"))) && (PySem.W.keepIn K (.ref (He.ma K (He.ga K C) m)) && (match PySem.W.findCls K (.ref (He.ga K C)) (.type "type") m with
  | some (.val (.ref f)) => f == He.ma K (He.ga K C) m
  | _ => false)))
theorem supmB_ok {K : PySem.W.Frag} {C m : Str} (h : supmB K C m = true) : ClX.CRead K (He.ga K C) (.type "type") ∧ PySem.W.findCls K (.ref (He.ga K C)) (.type "type") m = some (.val (.ref (He.ma K (He.ga K C) m))) ∧ PySem.W.keepIn K (.ref (He.ma K (He.ga K C) m)) = true := by
  obtain ⟨h1, h⟩ := He.ba h
  obtain ⟨h2, h⟩ := He.ba h
  obtain ⟨h3, h4⟩ := He.ba h
  refine ⟨⟨h1, He.eqO_ok h2⟩, ?_, h3⟩
  split at h4
  · rename_i f e
    rw [e, beq_iff_eq.mp h4]
  · cases h4
/-! ### operators, joined -/
section
variable {X : Cx}
def rAddU (K : PySem.W.Frag) : R2 := fun x y H Q => (∃ i j, x = .int i ∧ y = .int j ∧ Q (.int (i + j)) H) ∨ (∃ i j, x = .str i ∧ y = .str j ∧ i.length + j.length ≤ sizeLine ∧ Q (.str (i ++ j)) H) ∨ rCat x y H Q ∨ rCatA K x y H Q
theorem op_addU : OpR X (binaryOp .Add) (rAddU X.K) := op_add.or (op_add_str.or (op_cat.or op_catA))
def rMulU (K : PySem.W.Frag) : R2 := fun x y H Q => (∃ i j, x = .int i ∧ y = .int j ∧ CMulX i j ∧ Q (.int (i * j)) H) ∨ rRep x y H Q ∨ rRepT K x y H Q
theorem op_mulU : OpR X (binaryOp .Mult) (rMulU X.K) := op_mulX.or (op_rep.or op_repT)
def rEqU (K : PySem.W.Frag) : R2 := fun x y H Q => rEq x y H Q ∨ rEqD K x y H Q
def rNeU (K : PySem.W.Frag) : R2 := fun x y H Q => rNe x y H Q ∨ rNeD K x y H Q
theorem op_eqU {k : Nat} (hr : Room k X.A) : OpR X (compareOp .Eq) (rEqU X.K) := op_eq.or (op_eqD hr.units)
theorem op_neU {k : Nat} (hr : Room k X.A) : OpR X (compareOp .NotEq) (rNeU X.K) := op_ne.or (op_neD hr.units)
def CDivG (i j : Int) : Prop := j ≠ 0 ∧ Builtin.divisionGoesByPylong i j = false
theorem noPy_low {i j : Int} (h : j.natAbs < 2 ^ 9000) : Builtin.divisionGoesByPylong i j = false := PyProof.noPylong_of_log2 (PySem.Flt.log2_lt_of (by decide) h)
theorem noPy_mid {i j : Int} (h : i.natAbs < 2 ^ 13500) : Builtin.divisionGoesByPylong i j = false := by
  have e := PySem.Flt.log2_lt_of (by decide) h
  unfold Builtin.divisionGoesByPylong
  simp only [Bool.and_eq_false_iff, decide_eq_false_iff_not]
  by_cases c : j = 0
  · left; simp [c]
  · by_cases c2 : i = 0
    · right; simp [c2]
    · simp [c, c2]; omega
theorem op_fdivG : OpR X (binaryOp .FloorDiv) (rI CDivG fun i j => .int (i.fdiv j)) := opI fun i j _ _ _ _ _ hc q => floordiv_int hc.1 q (.inl hc.2)
end
/-- walking a list or a tuple -/
def rItU (K : PySem.W.Frag) (x : V) (H : Hp) (R : It → Hp → Prop) : Prop := ∃ a, x = .ref a ∧ (((∃ xs, SqL K H a xs) ∧ R (Itl K a) H) ∨ ((∃ xs, SqT K H a xs) ∧ R (Itt K a) H))
def iSeqU (K : PySem.W.Frag) (tl : TE) : TI := fun σ H R => tl σ H fun x H1 => rItU K x H1 R
theorem pi_seqU {X : Cx} {tg l : Expr} {tl : TE} (hl : PE X l tl) : PI X tg l (iSeqU X.K tl) :=
  ⟨fun pins s σ H R I h => thn (hl.run pins s σ H _ I h) fun v s1 z => by
    obtain ⟨x, H1, I1, r1, a, e, z⟩ := z
    cases e
    cases r1
    have fp : ∀ b ∈ [s1.heap.objs.size], FpOk X pins H1 b := fun b hb => by
      obtain rfl : b = s1.heap.objs.size := by simpa using hb
      exact I1.fpOk (Nat.le_refl _) (I1.hok.fresh (Nat.le_refl _))
    rcases z with ⟨⟨xs, hq⟩, q⟩ | ⟨⟨xs, hq⟩, q⟩
    · obtain ⟨its, _, pl, _⟩ := I1.list hq
      exact wpAny_pyIter_list pl.isList ⟨_, [s1.heap.objs.size], _, _, H1, rfl, I1.kept (t' := s1.toks) (fun b o w => Heap.get?_push_of_some _ w), turn_list a _, ⟨_, Heap.get?_push_size _ rfl, rfl, rfl⟩, fp, q⟩
    · obtain ⟨its, _, pt, _⟩ := I1.tuple hq
      exact wpAny_pyIter_tuple (show s1.heap.IsTuple a its.toArray from pt) ⟨_, [s1.heap.objs.size], _, _, H1, rfl, I1.kept (t' := s1.toks) (fun b o w => Heap.get?_push_of_some _ w), turn_tuple a _, ⟨_, Heap.get?_push_size _ rfl, rfl, rfl⟩, fp, q⟩⟩
/-- a tuple's type, a list's type -/
theorem ty_tup {K : PySem.W.Frag} {H : Hp} {p : Addr} {xs : List V} (h : SqT K H p xs) : TyX K H (.ref p) (.type "tuple") := by
  rcases h with (h | ⟨o, h⟩) | ⟨o, its, n, h, c, _⟩
  · exact .base (.tup h)
  · exact .fTuple h
  · exact .kTuple h c
theorem ty_lst {K : PySem.W.Frag} {H : Hp} {p : Addr} {xs : List V} (h : SqL K H p xs) : TyX K H (.ref p) (.type "list") := by
  rcases h with (h | ⟨o, h⟩) | ⟨o, its, n, h, c, _⟩
  · exact .base (.lst h)
  · exact .base (.frz h)
  · exact .kList h c
/-- isinstance(e, c), e the error that a suite holds, its class cls, its dict d -/
def rIsEU (K : PySem.W.Frag) (a : Addr) (cls : Value) (d : Option Addr) : List V → Hp → VK → Prop := fun xs H Q => ∃ D : Addr, cls = .ref D ∧ (d = none ∨ ∃ dd fs, d = some dd ∧ H dd = some (.xd fs)) ∧ ExcC K D ∧ rIsE K D a xs H Q
theorem call_isEU {X : Cx} {a : Addr} {cls : Value} {d : Option Addr} {oe : Obj} {pn : List (Addr × Obj)} (hz : Zc cls d oe) (hf : ∃ vs, oe.data = .fields vs) : CallR (X.suite a ((a, oe) :: pn)) (.builtin "isinstance") (rIsEU X.K a cls d) := by
  intro pins s σ H xs us Q I r h
  obtain ⟨D, rfl, hd, C, h⟩ := h
  rcases hd with rfl | ⟨dd, fs, rfl, hdd⟩
  · exact call_isE C hz hf pins s σ H xs us Q I r h
  · obtain ⟨c, cv, b, rfl, hcv, e, q⟩ := h
    cases r with
    | cons rx rr =>
      cases rr with
      | cons rt rr =>
        cases rr
        cases rx
        have ec := hcv _ rt
        subst ec
        obtain ⟨hget, _⟩ := I.pin (a, oe) (List.mem_append.mpr (.inl List.mem_cons_self))
        obtain ⟨vs, hv⟩ := hf
        have hx : ObjOk X.prog X.w H s.heap dd (.xd fs) := I.hok dd _ hdd
        obtain ⟨mA, hns, hr⟩ := hx
        obtain ⟨od, ho, hl⟩ := lookIn_ns hns
        have J : PySem.W.InstAt s.heap a oe D (some od) := ⟨hget, hz.1, by unfold PySem.W.notCls; rw [hv] <;> rfl, by rw [hz.2]; exact ho⟩
        exact PySem.W.kia_one (PySem.W.kitx_exc (by obtain ⟨cd, hc, _⟩ := PySem.W.any_some C.hd; rw [hc]; rfl) C.hg C.hk C.hs C.ha C.hn C.ht C.hm) I.kIn J e (fun z => nomatch z) fun tk => ⟨.bl b, H, I.kept (t' := tk) fun _ _ z => z, rfl, q⟩
theorem k_isE {K : PySem.W.Frag} {H : Hp} {Q : VK} {a D : Addr} {c : V} {cv : Value} {b : Bool} (C : ExcC K D) (hk : PySem.W.kitOne K (.ref D) cv = some b) (hc : ∀ u, RelV c u → u = cv) (q : Q (.bl b) H) : rIsEU K a (.ref D) none [.ref a, c] H Q := ⟨D, rfl, .inl rfl, C, c, cv, b, rfl, hc, hk, q⟩
theorem k_isED {K : PySem.W.Frag} {H : Hp} {Q : VK} {a D dd : Addr} {fs : List (Str × V)} {c : V} {cv : Value} {b : Bool} (h : H dd = some (.xd fs)) (C : ExcC K D) (hk : PySem.W.kitOne K (.ref D) cv = some b) (hc : ∀ u, RelV c u → u = cv) (q : Q (.bl b) H) : rIsEU K a (.ref D) (some dd) [.ref a, c] H Q := ⟨D, rfl, .inr ⟨dd, fs, rfl, h⟩, C, c, cv, b, rfl, hc, hk, q⟩
def excB (K : PySem.W.Frag) (x : Str) : Bool := He.eqO (PySem.W.findIn K (.ref (He.ga K x)) "__getattribute__") (some (some (.builtin "BaseException.__getattribute__"))) && (He.eqO (PySem.W.findIn K (.ref (He.ga K x)) "__getattr__") (some none) &&
  (decide (PySem.W.subIn K (.ref (He.ga K x)) (.type "BaseException") = some true) && (PySem.W.hasDictIn K (He.ga K x) && (He.eqO (PySem.W.findIn K (.ref (He.ga K x)) "__class__") (some (some (.builtin "object.__class__"))) &&
  (He.eqO (PySem.W.specialIn K (.builtin "object.__class__") "__get__") (some (some (.builtin "getset_descriptor.__get__"))) && (decide (PySem.W.takesIn K (.builtin "object.__class__") = some true) && decide (PySem.W.mroIn K (He.ga K x) (.type "object") = some true)))))))
theorem excB_ok {K : PySem.W.Frag} {x : Str} (h : excB K x = true) : ExcC K (He.ga K x) := by
  unfold excB at h
  obtain ⟨h1, h⟩ := He.ba h
  obtain ⟨h2, h⟩ := He.ba h
  obtain ⟨h3, h⟩ := He.ba h
  obtain ⟨h4, h⟩ := He.ba h
  obtain ⟨h5, h⟩ := He.ba h
  obtain ⟨h6, h⟩ := He.ba h
  obtain ⟨h7, h8⟩ := He.ba h
  exact ⟨He.eqO_ok h1, He.eqO_ok h2, of_decide_eq_true h3, h4, He.eqO_ok h5, He.eqO_ok h6, of_decide_eq_true h7, of_decide_eq_true h8⟩
def kitB2 (K : PySem.W.Frag) (x : Str) (c : Value) (b : Bool) : Bool := decide (PySem.W.kitOne K (.ref (He.ga K x)) c = some b)
theorem xat {K : PySem.W.Frag} {l : List (PySem.W.Frag → Bool)} (h : (l.all fun f => f K) = true) (i : Nat) {f : PySem.W.Frag → Bool} (e : l[i]? = some f) : f K = true := List.all_eq_true.mp h f (List.mem_of_getElem? e)
/-! ### readings, step by step -/
section
variable {σ : L2.St} {H : Hp} {Q : VK} {v : V} {ta tb tc te : TE} {tt tu : TT} {K : PySem.W.Frag} {i j : Nat}
theorem k_var (h : σ[i]? = some (some v)) (q : Q v H) : tVar i σ H Q := ⟨v, h, q⟩
theorem k_c (q : Q v H) : tC v σ H Q := q
theorem k_op {r : R2} (q : ta σ H fun x H1 => tb σ H1 fun y H2 => r x y H2 Q) : tOp r ta tb σ H Q := q
theorem k_un {r : V → Hp → VK → Prop} (q : ta σ H fun x H1 => r x H1 Q) : tUn r ta σ H Q := q
theorem k_neg {a : Int} (q : Q (.int (-a)) H) : rU (fun i => .int (-i)) (.int a) H Q := ⟨a, rfl, q⟩
theorem k_I0 {g : Int → Int → V} {a b : Int} (q : Q (g a b) H) : rI0 g (.int a) (.int b) H Q := ⟨a, b, rfl, rfl, q⟩
theorem k_I {C : Int → Int → Prop} {g : Int → Int → V} {a b : Int} (q : Q (g a b) H) (c : C a b) : rI C g (.int a) (.int b) H Q := ⟨a, b, rfl, rfl, c, q⟩
theorem k_addI {a b : Int} (q : Q (.int (a + b)) H) : rAddU K (.int a) (.int b) H Q := .inl ⟨a, b, rfl, rfl, q⟩
theorem k_addS {a b : Str} (q : Q (.str (a ++ b)) H) (c : a.length + b.length ≤ sizeLine) : rAddU K (.str a) (.str b) H Q := .inr (.inl ⟨a, b, rfl, rfl, c, q⟩)
theorem k_addL {a b : Addr} {xs ys : List V} (ha : H a = some (.lst xs)) (hb : H b = some (.lst ys)) (q : ∀ p H', H p = none → Same H H' → H' p = some (.lst (xs ++ ys)) → Q (.ref p) H') (c : xs.length + ys.length ≤ sizeLine) : rAddU K (.ref a) (.ref b) H Q :=
  .inr (.inr (.inl ⟨a, b, xs, ys, rfl, rfl, ha, hb, c, fun p hp => q p _ hp (same_new hp) upd_same⟩))
theorem k_addT {a b : Addr} {xs ys : List V} (ha : SqT K H a xs) (hb : SqT K H b ys) (hx : xs ≠ []) (hy : ys ≠ []) (q : ∀ p H', H p = none → Same H H' → H' p = some (.tup (xs ++ ys)) → Q (.ref p) H') (c : xs.length + ys.length ≤ sizeLine) : rAddU K (.ref a) (.ref b) H Q :=
  .inr (.inr (.inr ⟨a, b, xs, ys, rfl, rfl, ha, hb, c, fun e => absurd e hx, fun _ e => absurd e hy, fun _ _ p hp => q p _ hp (same_new hp) upd_same⟩))
theorem k_mulI {a b : Int} (q : Q (.int (a * b)) H) (c : CMulX a b) : rMulU K (.int a) (.int b) H Q := .inl ⟨a, b, rfl, rfl, c, q⟩
theorem k_eqS {x y : V} (h : scal x y = true) (q : Q (.bl (decide (x = y))) H) : rEqU K x y H Q := .inl ⟨h, q⟩
theorem k_neS {x y : V} (h : scal x y = true) (q : Q (.bl (!decide (x = y))) H) : rNeU K x y H Q := .inl ⟨h, q⟩
theorem dec_int {a b : Int} : decide (V.int a = V.int b) = decide (a = b) := by
  by_cases h : a = b
  · rw [h] <;> simp
  · rw [decide_eq_false h, decide_eq_false (fun e => h (V.int.inj e))]
theorem dec_str {a b : Str} : decide (V.str a = V.str b) = decide (a = b) := by
  by_cases h : a = b
  · rw [h] <;> simp
  · rw [decide_eq_false h, decide_eq_false (fun e => h (V.str.inj e))]
theorem dec_bl {a b : Bool} : decide (V.bl a = V.bl b) = decide (a = b) := by
  cases a <;> cases b <;> decide
theorem k_eqI {a b : Int} (q : Q (.bl (decide (a = b))) H) : rEqU K (.int a) (.int b) H Q := k_eqS rfl (by rw [dec_int]; exact q)
theorem k_neI {a b : Int} (q : Q (.bl (!decide (a = b))) H) : rNeU K (.int a) (.int b) H Q := k_neS rfl (by rw [dec_int]; exact q)
theorem k_eqT {a b : Str} (q : Q (.bl (decide (a = b))) H) : rEqU K (.str a) (.str b) H Q := k_eqS rfl (by rw [dec_str]; exact q)
theorem k_neT {a b : Str} (q : Q (.bl (!decide (a = b))) H) : rNeU K (.str a) (.str b) H Q := k_neS rfl (by rw [dec_str]; exact q)
theorem k_eqB {a b : Bool} (q : Q (.bl (decide (a = b))) H) : rEqU K (.bl a) (.bl b) H Q := k_eqS rfl (by rw [dec_bl]; exact q)
theorem k_neB {a b : Bool} (q : Q (.bl (!decide (a = b))) H) : rNeU K (.bl a) (.bl b) H Q := k_neS rfl (by rw [dec_bl]; exact q)
theorem k_eqD {x y : V} {d e : PyData} (hx : Dp K H x d) (hy : Dp K H y e) (q : Q (.bl (PyData.eqv d e)) H) (s1 : SeqAt.shaped d = true) (s2 : SeqAt.shaped e = true) : rEqU K x y H Q := .inr ⟨d, e, hx, hy, s1, s2, q⟩
theorem k_neD {x y : V} {d e : PyData} (hx : Dp K H x d) (hy : Dp K H y e) (q : Q (.bl (!PyData.eqv d e)) H) (s1 : SeqAt.shaped d = true) (s2 : SeqAt.shaped e = true) : rNeU K x y H Q := .inr ⟨d, e, hx, hy, s1, s2, q⟩
theorem k_in0 {x : V} {p : Addr} {xs : List V} {b : Bool} (h : SqL K H p xs ∨ SqT K H p xs) (hx : flatV x = true) (ha : xs.all flatV = true) (e : inV x xs = b) (q : Q (.bl b) H) : rIn K false x (.ref p) H Q := ⟨p, xs, rfl, h, hx, ha, by rw [e]; exact q⟩
theorem k_ni0 {x : V} {p : Addr} {xs : List V} {b : Bool} (h : SqL K H p xs ∨ SqT K H p xs) (hx : flatV x = true) (ha : xs.all flatV = true) (e : inV x xs = b) (q : Q (.bl (!b)) H) : rIn K true x (.ref p) H Q := ⟨p, xs, rfl, h, hx, ha, by rw [e]; exact q⟩
/-- True stands in no list of False -/
theorem k_notIn {p : Addr} {xs : List V} (h : SqL K H p xs) (ha : xs.all flatV = true) (e : inV (.bl true) xs = false) (q : Q (.bl true) H) : rIn K true (.bl true) (.ref p) H Q := k_ni0 (.inl h) rfl ha e q
/-- tests -/
theorem k_tst {Q : Bool → Hp → Prop} (q : te σ H fun x H' => ∃ k, x = .bl k ∧ Q k H') : tTest te σ H Q := q
theorem k_B {Q : Bool → Hp → Prop} (q : te σ H fun x H' => ∃ k, x = .bl k ∧ Q k H') : tB te σ H Q := q
theorem k_bl {Q : Bool → Prop} {b : Bool} (q : Q b) : ∃ k, V.bl b = .bl k ∧ Q k := ⟨b, rfl, q⟩
theorem k_and {Q : Bool → Hp → Prop} (q : tt σ H fun c H1 => if c = true then tu σ H1 Q else Q false H1) : tAnd tt tu σ H Q := q
theorem k_or {Q : Bool → Hp → Prop} (q : tt σ H fun c H1 => if c = true then Q true H1 else tu σ H1 Q) : tOr tt tu σ H Q := q
theorem k_not {Q : Bool → Hp → Prop} (q : tt σ H fun c H1 => Q (!c) H1) : tNot tt σ H Q := q
theorem k_andV (q : ta σ H fun x H1 => ∃ c, x = .bl c ∧ if c = true then tb σ H1 Q else Q (.bl false) H1) : tAndV ta tb σ H Q := q
theorem k_orV (q : ta σ H fun x H1 => ∃ c, x = .bl c ∧ if c = true then Q (.bl true) H1 else tb σ H1 Q) : tOrV ta tb σ H Q := q
theorem k_notV (q : ta σ H fun x H1 => ∃ c, x = .bl c ∧ Q (.bl (!c)) H1) : tNotV ta σ H Q := q
theorem k_ife (q : tt σ H fun c H1 => if c = true then ta σ H1 Q else tb σ H1 Q) : tIf tt ta tb σ H Q := q
theorem k_chain {r r' : R2} (q : ta σ H fun x H1 => tb σ H1 fun y H2 => r x y H2 fun z H3 => ∃ k, z = .bl k ∧ (if k = true then tc σ H3 fun w' H4 => r' y w' H4 Q else Q (.bl false) H3)) : tChain r r' ta tb tc σ H Q := q
theorem k_tru {Q : Bool → Hp → Prop} {x : V} {b : Bool} (h : TruV K x H b) (q : Q b H) : ∃ k, TruV K x H k ∧ Q k H := ⟨b, h, q⟩
/-- a branch -/
theorem k_if {c : Prop} [Decidable c] {A B : Prop} (h1 : c → A) (h2 : ¬ c → B) : if decide c = true then A else B := by
  by_cases h : c
  · rw [if_pos (decide_eq_true h)]
    exact h1 h
  · rw [if_neg (by rw [decide_eq_false h]; decide)]
    exact h2 h
theorem k_ifn {c : Prop} [Decidable c] {A B : Prop} (h1 : ¬ c → A) (h2 : c → B) : if (!decide c) = true then A else B := by
  by_cases h : c
  · rw [if_neg (by rw [decide_eq_true h]; decide)]
    exact h2 h
  · rw [if_pos (by rw [decide_eq_false h]; decide)]
    exact h1 h
theorem k_ifb {b : Bool} {A B : Prop} (h1 : b = true → A) (h2 : b = false → B) : if b = true then A else B := by
  cases b with
  | true => exact h1 rfl
  | false => exact h2 rfl
theorem k_ifnb {b : Bool} {A B : Prop} (h1 : b = false → A) (h2 : b = true → B) : if (!b) = true then A else B := by
  cases b with
  | true => exact h2 rfl
  | false => exact h1 rfl
theorem k_ifnd {c : Prop} [Decidable c] {A B : Prop} (h1 : ¬ c → A) (h2 : c → B) : if (!decide c) = true then A else B := k_ifn h1 h2
theorem k_ifT {A B : Prop} (h : A) : if true = true then A else B := iteT h
theorem k_ifF {A B : Prop} (h : B) : if false = true then A else B := iteF h
theorem k_ifnT {A B : Prop} (h : B) : if (!true) = true then A else B := iteF h
theorem k_ifnF {A B : Prop} (h : A) : if (!false) = true then A else B := iteT h
/-- calls, arguments, displays -/
theorem k_cb {r : List V → Hp → VK → Prop} {t : TA} (q : t σ H fun vs H1 => r vs H1 Q) : tCB r t σ H Q := q
theorem k_cons {t : TA} {Q : List V → Hp → Prop} (q : ta σ H fun x H1 => t σ H1 fun xs H2 => Q (x :: xs) H2) : tCons ta t σ H Q := q
theorem k_nil {Q : List V → Hp → Prop} (q : Q [] H) : tNil σ H Q := q
theorem k_callS {sp : Sp} {W : WX} {t : TA} (q : t σ H fun vs H1 => sp vs H1 Q (WE W σ)) : tCallS sp (WE W) t σ H Q := q
theorem k_call {sp : Sp} {t : TA} {E : XK} (q : t σ H fun vs H1 => sp vs H1 Q E) : tCall sp [] E t σ H Q := by
  show t σ H fun vs H1 => sp (vs ++ []) H1 Q E
  simp only [List.append_nil]
  exact q
def rTupX (xs : List V) (H : Hp) (Q : VK) : Prop := xs.length ≤ sizeLine ∧ ∀ p, H p = none → Q (.ref p) (upd H p (.tup xs))
def rLstX (xs : List V) (H : Hp) (Q : VK) : Prop := xs.length ≤ sizeLine ∧ ∀ p, H p = none → Q (.ref p) (upd H p (.lst xs))
theorem k_tupx {xs : List V} (q : ∀ p H2, H p = none → Same H H2 → H2 p = some (.tup xs) → Q (.ref p) H2) (c : xs.length ≤ sizeLine) : rTupX xs H Q := ⟨c, fun p hp => q p _ hp (same_new hp) upd_same⟩
theorem k_lstx {xs : List V} (q : ∀ p H2, H p = none → Same H H2 → H2 p = some (.lst xs) → Q (.ref p) H2) (c : xs.length ≤ sizeLine) : rLstX xs H Q := ⟨c, fun p hp => q p _ hp (same_new hp) upd_same⟩
theorem k_tup0 {t : TA} (q : t σ H fun xs H1 => rTupX xs H1 Q) : tTup t σ H Q := q
theorem k_lst0 {t : TA} (q : t σ H fun xs H1 => rLstX xs H1 Q) : tLst t σ H Q := q
/-- subscripts -/
theorem k_ixL {p : Addr} {xs : List V} {i : Int} (h : SqL K H p xs) (ha : atI xs i = some v) (q : Q v H) : rIx K (.ref p) (.int i) H Q := .inl ⟨p, xs, i, v, rfl, rfl, h, ha, q⟩
theorem k_ixT {p : Addr} {xs : List V} {i : Int} (h : SqT K H p xs) (ha : atI xs i = some v) (q : Q v H) : rIx K (.ref p) (.int i) H Q := .inr (.inl ⟨p, xs, i, v, rfl, rfl, h, ha, q⟩)
/-! statements -/
variable {D : Ends} {t u : TS} {g : TG}
theorem k_seq (q : t { D with nx := u D } σ H) : tSeq t u D σ H := q
theorem k_asg  (q : te σ H fun x H1 => g x σ H1 D.nx) : tAsg te g D σ H := q
theorem k_gn {Q : L2.St → Hp → Prop} (q : Q (σ.set i (some v)) H) : gName i v σ H Q := q
theorem k_gtup {a : Addr} {xs : List V} {n : Nat} {t : TGs} {Q : L2.St → Hp → Prop} (h : SqT K H a xs) (hl : xs.length = n) (q : t xs σ H Q) : gTup K n t (.ref a) σ H Q := ⟨a, xs, rfl, h, hl, q⟩
theorem k_gcons {t : TG} {u : TGs} {r : List V} {Q : L2.St → Hp → Prop} (q : t v σ H fun σ' H' => u r σ' H' Q) : gCons t u (v :: r) σ H Q := ⟨v, r, rfl, q⟩
theorem k_gnil {Q : L2.St → Hp → Prop} (q : Q σ H) : gNil [] σ H Q := ⟨rfl, q⟩
theorem k_drop (q : te σ H fun _ H1 => D.nx σ H1) : tDrop te D σ H := q
theorem k_ret (q : te σ H D.rt) : tRet te D σ H := q
theorem k_ifs (q : tt σ H fun c H1 => if c = true then t D σ H1 else u D σ H1) : tIfS tt t u D σ H := q
theorem k_next (q : D.nx σ H) : tNext D σ H := q
theorem k_par {ta : TA} (q : ta σ H fun vs H1 => ∃ v w, vs = [v, w] ∧ D.nx ((σ.set i (some v)).set j (some w)) H1) : tPar i j ta D σ H := q
theorem k_two {v w : V} {P : V → V → Prop} (q : P v w) : ∃ a b, [v, w] = [a, b] ∧ P a b := ⟨v, w, rfl, q⟩
theorem k_app {l : Addr} {xs : List V} {y : V} (h : H l = some (.lst xs)) (q : ∀ H', But l H H' → H' l = some (.lst (xs ++ [y])) → Q .non H') (c : xs.length < sizeLine) : tyV K "list" (.ref l) H ∧ rAppend (.ref l) [y] H Q :=
  ⟨.inl ⟨rfl, _, SqL.of h⟩, l, xs, y, rfl, rfl, h, c, q _ But.upd upd_same⟩
end
/-! ### the same, the written part by its name -/
section
variable {X : Cx} {K : PySem.W.Frag}
theorem op_addK (h : X.K = K) : OpR X (binaryOp .Add) (rAddU K) := h ▸ op_addU
theorem op_mulK (h : X.K = K) : OpR X (binaryOp .Mult) (rMulU K) := h ▸ op_mulU
theorem op_eqK {k : Nat} (h : X.K = K) (hr : Room k X.A) : OpR X (compareOp .Eq) (rEqU K) := h ▸ op_eqU hr
theorem op_neK {k : Nat} (h : X.K = K) (hr : Room k X.A) : OpR X (compareOp .NotEq) (rNeU K) := h ▸ op_neU hr
theorem op_inK (h : X.K = K) : OpR X (compareOp .In) (rIn K false) := h ▸ op_in_seq
theorem op_niK (h : X.K = K) : OpR X (compareOp .NotIn) (rIn K true) := h ▸ op_notIn_seq
def rSlU (K : PySem.W.Frag) : V → Option Int → Option Int → Hp → VK → Prop := fun x lo hi H Q => rSlL K x lo hi H Q ∨ rSlS x lo hi H Q ∨ rSlA K x lo hi H Q
theorem sl_U {X : Cx} : SlR X (rSlU X.K) := sl_list.or (sl_str.or sl_tupA)
theorem sl_K (h : X.K = K) : SlR X (rSlU K) := h ▸ sl_U
theorem ix_K (h : X.K = K) : IxR X (rIx K) := h ▸ ix_seq
end
section
variable {σ : L2.St} {H : Hp} {Q : VK} {te : TE} {K : PySem.W.Frag}
/-! slices, an empty dict -/
theorem k_sl {r : V → Option Int → Option Int → Hp → VK → Prop} {tl th : TO} (q : te σ H fun x H1 => tl σ H1 fun lo H2 => th σ H2 fun hi H3 => r x lo hi H3 Q) : tSl r te tl th σ H Q := q
theorem k_part {Q : Option Int → Hp → Prop} (q : te σ H fun x H1 => ∃ i, x = .int i ∧ Q (some i) H1) : tPart te σ H Q := q
theorem k_noPart {Q : Option Int → Hp → Prop} (q : Q none H) : tNoPart σ H Q := q
theorem k_int {a : Int} {Q : Int → Prop} (q : Q a) : ∃ i, V.int a = .int i ∧ Q i := ⟨a, rfl, q⟩
theorem k_slL {a : Addr} {xs : List V} {lo hi : Option Int} (h : SqL K H a xs) (q : ∀ p H2, H p = none → Same H H2 → H2 p = some (.lst (cutV xs lo hi)) → Q (.ref p) H2) : rSlU K (.ref a) lo hi H Q := .inl ⟨a, xs, rfl, h, fun p hp => q p _ hp (same_new hp) upd_same⟩
theorem k_slS {z : Str} {lo hi : Option Int} (q : Q (.str (cutS z lo hi)) H) (c : z.length ≤ sizeLine) : rSlU K (.str z) lo hi H Q := .inr (.inl ⟨z, rfl, c, q⟩)
theorem k_slT {a : Addr} {xs : List V} {lo hi : Option Int} (h : SqT K H a xs) (c : ¬ (HT.sIx xs.length 0 lo = 0 ∧ HT.sIx xs.length xs.length hi = xs.length)) (q : ∀ p H2, H p = none → Same H H2 → H2 p = some (.tup (cutV xs lo hi)) → Q (.ref p) H2) : rSlU K (.ref a) lo hi H Q :=
  .inr (.inr ⟨a, xs, rfl, h, fun z => absurd z c, fun _ p hp => q p _ hp (same_new hp) upd_same⟩)
def rDictX (H : Hp) (Q : VK) : Prop := ∀ p, H p = none → Q (.ref p) (upd H p (.dK []))
theorem k_dict0 (q : rDictX H Q) : tDNewK σ H Q := q
theorem k_dict1 (q : ∀ p H2, H p = none → Same H H2 → H2 p = some (.dK []) → Q (.ref p) H2) : rDictX H Q := fun p hp => q p _ hp (same_new hp) upd_same
end
/-! ### built-ins by name -/
section
variable {X : Cx}
def rLenU (K : PySem.W.Frag) : List V → Hp → VK → Prop := fun xs H Q => ∃ x n, xs = [x] ∧ LenV K x H n ∧ Q (.int n) H
theorem call_lenU : CallR X (.builtin "len") (rLenU X.K) := call_len
def rAbsU : List V → Hp → VK → Prop := fun xs H Q => ∃ i, xs = [.int i] ∧ Q (.int (if i < 0 then -i else i)) H
theorem call_absU : CallR X (.builtin "abs") rAbsU := call_abs
def rMaxU : List V → Hp → VK → Prop := fun xs H Q => ∃ i j, xs = [.int i, .int j] ∧ Q (.int (if j > i then j else i)) H
theorem call_maxU (hc : X.calm = true) : CallR X (.builtin "max") rMaxU := call_max2 hc
def rMinU : List V → Hp → VK → Prop := fun xs H Q => ∃ i j, xs = [.int i, .int j] ∧ Q (.int (if j < i then j else i)) H
theorem call_minU (hc : X.calm = true) : CallR X (.builtin "min") rMinU := call_min2 hc
def rIntU : List V → Hp → VK → Prop := fun xs H Q => (∃ i, xs = [.int i] ∧ Q (.int i) H) ∨ ∃ k, xs = [.bl k] ∧ Q (.int (if k then 1 else 0)) H
theorem call_intU : CallR X (.type "int") rIntU := call_int1
def rBoolU : List V → Hp → VK → Prop := fun xs H Q => (∃ i, xs = [.int i] ∧ Q (.bl (i != 0)) H) ∨ ∃ k, xs = [.bl k] ∧ Q (.bl k) H
theorem call_boolU : CallR X (.type "bool") rBoolU := call_bool1
def rStrU : List V → Hp → VK → Prop := fun xs H Q => ∃ i, xs = [.int i] ∧ i.natAbs.log2 < 1920 ∧ Q (.str (toString i)) H
theorem call_strU : CallR X (.type "str") rStrU := call_str_int
def rTupU (K : PySem.W.Frag) : List V → Hp → VK → Prop := fun xs H Q => ∃ p ys, xs = [.ref p] ∧ ((SqL K H p ys ∧ ∀ l, H l = none → Q (.ref l) (upd H l (.tup ys))) ∨ (SqT K H p ys ∧ Q (.ref p) H))
theorem call_tupU : CallR X (.type "tuple") (rTupU X.K) := call_tuple_of
def rLstU (K : PySem.W.Frag) : List V → Hp → VK → Prop := fun xs H Q => ∃ p ys, xs = [.ref p] ∧ (SqL K H p ys ∨ SqT K H p ys) ∧ ∀ l, H l = none → Q (.ref l) (upd H l (.lst ys))
theorem call_lstU : CallR X (.type "list") (rLstU X.K) := call_list_of
def rIsN : R2 := fun x y H Q => y = .non ∧ Q (.bl (decide (x = .non))) H
def rNotN : R2 := fun x y H Q => y = .non ∧ Q (.bl (!decide (x = .non))) H
theorem op_isNU : OpR X (compareOp .Is) rIsN := op_isN
theorem op_notNU : OpR X (compareOp .IsNot) rNotN := op_notN
end
section
variable {σ : L2.St} {H : Hp} {Q : VK} {K : PySem.W.Frag}
theorem k_lenL {p : Addr} {xs : List V} (q : Q (.int xs.length) H) (h : SqL K H p xs) : rLenU K [.ref p] H Q := ⟨.ref p, xs.length, rfl, .inl ⟨xs, h, rfl⟩, q⟩
theorem k_lenT {p : Addr} {xs : List V} (q : Q (.int xs.length) H) (h : SqT K H p xs) : rLenU K [.ref p] H Q := ⟨.ref p, xs.length, rfl, .inr ⟨xs, h, rfl⟩, q⟩
theorem k_lenS {x : Str} (q : Q (.int x.length) H) (h : x.length ≤ sizeLine) : rLenU K [.str x] H Q := ⟨.str x, x.length, rfl, ⟨h, rfl⟩, q⟩
theorem k_abs {a : Int} (q : Q (.int (a.natAbs : Int)) H) : rAbsU [.int a] H Q := ⟨a, rfl, by
  have e : (if a < 0 then -a else a) = (a.natAbs : Int) := by split <;> omega
  rw [e]
  exact q⟩
theorem k_max {a b : Int} (q : Q (.int (max a b)) H) : rMaxU [.int a, .int b] H Q := ⟨a, b, rfl, by
  have e : (if b > a then b else a) = max a b := by split <;> omega
  rw [e]
  exact q⟩
theorem k_min {a b : Int} (q : Q (.int (min a b)) H) : rMinU [.int a, .int b] H Q := ⟨a, b, rfl, by
  have e : (if b < a then b else a) = min a b := by split <;> omega
  rw [e]
  exact q⟩
theorem k_intI {a : Int} (q : Q (.int a) H) : rIntU [.int a] H Q := .inl ⟨a, rfl, q⟩
theorem k_intB {b : Bool} (q : Q (.int (if b then 1 else 0)) H) : rIntU [.bl b] H Q := .inr ⟨b, rfl, q⟩
theorem k_boolI {a : Int} (q : Q (.bl (a != 0)) H) : rBoolU [.int a] H Q := .inl ⟨a, rfl, q⟩
theorem k_boolB {b : Bool} (q : Q (.bl b) H) : rBoolU [.bl b] H Q := .inr ⟨b, rfl, q⟩
theorem k_strI {a : Int} (q : Q (.str (toString a)) H) (c : a.natAbs.log2 < 1920) : rStrU [.int a] H Q := ⟨a, rfl, c, q⟩
theorem k_lstL {p : Addr} {xs : List V} (h : SqL K H p xs) (q : ∀ l H', H l = none → Same H H' → H' l = some (.lst xs) → Q (.ref l) H') : rLstU K [.ref p] H Q := ⟨p, xs, rfl, .inl h, fun l hl => q l _ hl (same_new hl) upd_same⟩
theorem k_lstT {p : Addr} {xs : List V} (h : SqT K H p xs) (q : ∀ l H', H l = none → Same H H' → H' l = some (.lst xs) → Q (.ref l) H') : rLstU K [.ref p] H Q := ⟨p, xs, rfl, .inr h, fun l hl => q l _ hl (same_new hl) upd_same⟩
theorem k_isN {x : V} (q : Q (.bl (decide (x = .non))) H) : rIsN x .non H Q := ⟨rfl, q⟩
theorem k_notN {x : V} (q : Q (.bl (!decide (x = .non))) H) : rNotN x .non H Q := ⟨rfl, q⟩
theorem k_powc {a b c : Int} (e : a ^ b.toNat = c) (hc : CPow a b) (q : Q (.int c) H) : rI CPow (fun i j => .int (i ^ j.toNat)) (.int a) (.int b) H Q := ⟨a, b, rfl, rfl, hc, by show Q (.int (a ^ b.toNat)) H; rw [e]; exact q⟩
theorem cpow {a b : Int} (h : 0 ≤ b) (h1 : b ≤ 1000000) (h2 : a.natAbs < 2 ^ 64) : CPow a b := ⟨h, h1, h2⟩
theorem k_mod {a b : Int} (hb : 0 < b) (q : Q (.int (a % b)) H) : rI (fun _ j => j ≠ 0) (fun i j => .int (i.fmod j)) (.int a) (.int b) H Q := ⟨a, b, rfl, rfl, by omega, by show Q (.int (a.fmod b)) H; rw [Int.fmod_eq_emod_of_nonneg a (by omega)]; exact q⟩
theorem k_log {b : Int} (h : b.natAbs < 2 ^ 64) : b.natAbs.log2 < 9000 := Nat.lt_of_lt_of_le (PySem.Flt.log2_lt_of (by decide) h) (by decide)
theorem k_div {a b : Int} (hb : 0 < b) (hl : b.natAbs.log2 < 9000) (q : Q (.int (a / b)) H) : rI CDivG (fun i j => .int (i.fdiv j)) (.int a) (.int b) H Q := ⟨a, b, rfl, rfl, ⟨by omega, PyProof.noPylong_of_log2 hl⟩, by show Q (.int (a.fdiv b)) H; rw [Int.fdiv_eq_ediv_of_nonneg a (by omega)]; exact q⟩
theorem k_mulB {a b : Int} {m n : Nat} (ha : a.natAbs < 2 ^ m) (hb : b.natAbs < 2 ^ n) (h : m + n ≤ 134217728) (q : Q (.int (a * b)) H) : rMulU K (.int a) (.int b) H Q := k_mulI q (mulx_ok ha hb h)
theorem k_pop {l : Addr} {xs : List V} {y : V} (h : H l = some (.lst (xs ++ [y]))) (q : ∀ H', But l H H' → H' l = some (.lst xs) → Q y H') : tyV K "list" (.ref l) H ∧ rPop (.ref l) [] H Q :=
  ⟨.inl ⟨rfl, _, SqL.of h⟩, l, _, y, rfl, rfl, h, by simp, q _ But.upd (by rw [List.dropLast_concat]; exact upd_same)⟩
theorem k_bm0 {T : String} {r : V → List V → Hp → VK → Prop} {te : TE} (q : te σ H fun x H1 => tyV K T x H1 ∧ r x [] H1 Q) : tBM0 K T r te σ H Q := q
theorem k_bm {T : String} {r : V → List V → Hp → VK → Prop} {te : TE} {t : TA} (q : te σ H fun x H1 => tyV K T x H1 ∧ t σ H1 fun xs H2 => r x xs H2 Q) : tBM K T r te t σ H Q := q
theorem k_app0 {l : Addr} {xs : List V} (h : H l = some (.lst xs)) : tyV K "list" (.ref l) H := .inl ⟨rfl, _, SqL.of h⟩
theorem k_app1 {l : Addr} {xs : List V} {y : V} (h : H l = some (.lst xs)) (c : xs.length < sizeLine) (q : ∀ H', But l H H' → H' l = some (.lst (xs ++ [y])) → Q .non H') : rAppend (.ref l) [y] H Q := ⟨l, xs, y, rfl, rfl, h, c, q _ But.upd upd_same⟩
def rRevX (K : PySem.W.Frag) (x : V) (H : Hp) (Q : VK) : Prop := ∃ a xs, x = .ref a ∧ SqL K H a xs ∧ ∀ p, H p = none → Q (.ref p) (upd H p (.lst xs.reverse))
theorem k_rev {te : TE} (q : te σ H fun x H1 => rRevX K x H1 Q) : tRevL K te σ H Q := q
theorem k_rev1 {p : Addr} {xs : List V} (h : SqL K H p xs) (q : ∀ l H', H l = none → Same H H' → H' l = some (.lst xs.reverse) → Q (.ref l) H') : rRevX K (.ref p) H Q := ⟨p, xs, rfl, h, fun l hl => q l _ hl (same_new hl) upd_same⟩
/-- isinstance -/
theorem k_isi {x c : V} {t u : Value} {b : Bool} (hc : ClsV c u) (ht : TyX K H x t) (hk : PySem.W.kitOne K t u = some b) (q : Q (.bl b) H) : rIsi K [x, c] H Q := ⟨x, c, t, u, b, rfl, hc, ht, hk, q⟩
theorem k_cut {t u : TS} {D : Ends} (M : L2.St → Hp → Prop) (h : t { D with nx := M } σ H) (k : ∀ σ' H', M σ' H' → u D σ' H') : C8.tCut t u D σ H := ⟨M, h, k⟩
theorem k_cut0 {t u : TS} {D : Ends} (h : t { D with nx := u D } σ H) : C8.tCut t u D σ H := ⟨_, h, fun _ _ q => q⟩
/-! loops -/
variable {D : Ends} {g : TG} {tb : TS} {j : Nat} {wi : TI}
def LoopI (J : It) (g : TG) (tb : TS) (D : Ends) (σ : L2.St) (H : Hp) : Prop := ∃ W : Nat → Nat → L2.St → Hp → Prop, (∃ m, W 0 m σ H) ∧ ∀ i m σ H, W i m σ H →
  (J.stop i H ∧ D.nx σ H) ∨ (J.go i H ∧ ∃ N : L2.St → Hp → Prop, (∀ σ' H', N σ' H' → ∃ m', m' < m ∧ W (i + 1) m' σ' H') ∧ ∀ x H', J.yld i H x H' → g x σ H' fun σ2 H2 => tb { D with nx := N, ct := N, bk := D.nx } σ2 H2)
theorem k_for (q : wi σ H fun J H1 => LoopI J g tb D σ H1) : tFor wi g tb D σ H := q
def rRng1 (vs : List V) (H : Hp) (R : It → Hp → Prop) : Prop := ∃ j : Int, vs = [.int j] ∧ -(2 ^ 62) ≤ j ∧ j < 2 ^ 62 ∧ R (Itr 0 j.toNat) H
def rRng2 (vs : List V) (H : Hp) (R : It → Hp → Prop) : Prop := ∃ i j : Int, vs = [.int i, .int j] ∧ (-(2 ^ 62) ≤ i ∧ i < 2 ^ 62 ∧ -(2 ^ 62) ≤ j ∧ j < 2 ^ 62) ∧ R (Itr i (j - i).toNat) H
def rItL (K : PySem.W.Frag) (x : V) (H : Hp) (R : It → Hp → Prop) : Prop := ∃ a, x = .ref a ∧ (∃ xs, SqL K H a xs) ∧ R (Itl K a) H
def rItT (K : PySem.W.Frag) (x : V) (H : Hp) (R : It → Hp → Prop) : Prop := ∃ a, x = .ref a ∧ (∃ xs, SqT K H a xs) ∧ R (Itt K a) H
theorem k_iRng1 {ta : TA} {R : It → Hp → Prop} (q : ta σ H fun vs H1 => rRng1 vs H1 R) : iRng1 ta σ H R := q
theorem k_iRng2 {ta : TA} {R : It → Hp → Prop} (q : ta σ H fun vs H1 => rRng2 vs H1 R) : iRng2 ta σ H R := q
theorem k_iList {tl : TE} {R : It → Hp → Prop} (q : tl σ H fun x H1 => rItL K x H1 R) : iList K tl σ H R := q
theorem k_iSeqU {tl : TE} {R : It → Hp → Prop} (q : tl σ H fun x H1 => rItU K x H1 R) : iSeqU K tl σ H R := q
theorem k_itUL {a : Addr} {xs : List V} {R : It → Hp → Prop} (h : SqL K H a xs) (q : R (Itl K a) H) : rItU K (.ref a) H R := ⟨a, rfl, .inl ⟨⟨xs, h⟩, q⟩⟩
theorem k_itUT {a : Addr} {xs : List V} {R : It → Hp → Prop} (h : SqT K H a xs) (q : R (Itt K a) H) : rItU K (.ref a) H R := ⟨a, rfl, .inr ⟨⟨xs, h⟩, q⟩⟩
theorem k_iTup {tl : TE} {R : It → Hp → Prop} (q : tl σ H fun x H1 => rItT K x H1 R) : iTup K tl σ H R := q
theorem k_rng1 {n : Int} {R : It → Hp → Prop} (c : -(2 ^ 62) ≤ n ∧ n < 2 ^ 62) (q : R (Itr 0 n.toNat) H) : rRng1 [.int n] H R := ⟨n, rfl, c.1, c.2, q⟩
theorem k_rng2 {m n : Int} {R : It → Hp → Prop} (c : -(2 ^ 62) ≤ m ∧ m < 2 ^ 62 ∧ -(2 ^ 62) ≤ n ∧ n < 2 ^ 62) (q : R (Itr m (n - m).toNat) H) : rRng2 [.int m, .int n] H R := ⟨m, n, rfl, c, q⟩
theorem k_itL {a : Addr} {xs : List V} {R : It → Hp → Prop} (h : SqL K H a xs) (q : R (Itl K a) H) : rItL K (.ref a) H R := ⟨a, rfl, ⟨xs, h⟩, q⟩
theorem k_itT {a : Addr} {xs : List V} {R : It → Hp → Prop} (h : SqT K H a xs) (q : R (Itt K a) H) : rItT K (.ref a) H R := ⟨a, rfl, ⟨xs, h⟩, q⟩
/-- for x in range(..) -/
theorem k_loopR {n : Nat} (P : Nat → L2.St → Hp → Prop) (h0 : P 0 σ H) (hs : ∀ (i : Nat) σ H, i < n → P i σ H → tb { D with nx := P (i + 1), ct := P (i + 1), bk := D.nx } (σ.set j (some (.int (i : Int)))) H)
    (hd : ∀ σ H, P n σ H → D.nx σ H) : LoopI (Itr 0 n) (gName j) tb D σ H := for_range P h0 (fun i σ H hi p => by
      show tb _ (σ.set j (some (.int (0 + (i : Int))))) H
      rw [Int.zero_add]
      exact hs i σ H hi p) hd
theorem k_loopR2 {lo : Int} {n : Nat} (P : Nat → L2.St → Hp → Prop) (h0 : P 0 σ H) (hs : ∀ (i : Nat) σ H, i < n → P i σ H → tb { D with nx := P (i + 1), ct := P (i + 1), bk := D.nx } (σ.set j (some (.int (lo + (i : Int))))) H)
    (hd : ∀ σ H, P n σ H → D.nx σ H) : LoopI (Itr lo n) (gName j) tb D σ H := for_range P h0 hs hd
theorem k_loopL {a : Addr} {xs : List V} (P : Nat → L2.St → Hp → Prop) (h0 : P 0 σ H) (hl : ∀ i σ H, i ≤ xs.length → P i σ H → SqL K H a xs)
    (hs : ∀ (i : Nat) x σ H, xs[i]? = some x → P i σ H → g x σ H fun σ2 H2 => tb { D with nx := P (i + 1), ct := P (i + 1), bk := D.nx } σ2 H2) (hd : ∀ σ H, P xs.length σ H → D.nx σ H) : LoopI (Itl K a) g tb D σ H := for_list P h0 hl hs hd
theorem k_loopT {a : Addr} {xs : List V} (P : Nat → L2.St → Hp → Prop) (h0 : P 0 σ H) (hl : ∀ i σ H, i ≤ xs.length → P i σ H → SqT K H a xs)
    (hs : ∀ (i : Nat) x σ H, xs[i]? = some x → P i σ H → g x σ H fun σ2 H2 => tb { D with nx := P (i + 1), ct := P (i + 1), bk := D.nx } σ2 H2) (hd : ∀ σ H, P xs.length σ H → D.nx σ H) : LoopI (Itt K a) g tb D σ H := for_tup P h0 hl hs hd
theorem k_loopU {a : Addr} {xs : List V} (hS : SqL K H a xs ∨ SqT K H a xs) (P : Nat → L2.St → Hp → Prop) (h0 : P 0 σ H) (hl : ∀ i σ' H', P i σ' H' → Same H H')
    (hs : ∀ (i : Nat) x σ H, xs[i]? = some x → P i σ H → g x σ H fun σ2 H2 => tb { D with nx := P (i + 1), ct := P (i + 1), bk := D.nx } σ2 H2) (hd : ∀ σ H, P xs.length σ H → D.nx σ H) : rItU K (.ref a) H fun J H1 => LoopI J g tb D σ H1 := by
  rcases hS with hS | hS
  · exact k_itUL hS (k_loopL P h0 (fun i σ' H' _ p => seqL_same (hl i σ' H' p) hS) hs hd)
  · exact k_itUT hS (k_loopT P h0 (fun i σ' H' _ p => seqT_same (hl i σ' H' p) hS) hs hd)
/-- while: P with a number that falls -/
def Less (P : Nat → L2.St → Hp → Prop) (m : Nat) : L2.St → Hp → Prop := fun σ H => ∃ m', m' < m ∧ P m' σ H
theorem k_while {tc : TT} (P : Nat → L2.St → Hp → Prop) (m : Nat) (h0 : P m σ H)
    (hs : ∀ m σ H, P m σ H → tc σ H fun b H1 => if b = true then ∃ N : L2.St → Hp → Prop, (∀ σ' H', N σ' H' → ∃ m', m' < m ∧ P m' σ' H') ∧ tb { D with nx := N, ct := N, bk := D.nx } σ H1 else D.nx σ H1) : tWhile tc tb D σ H := ⟨P, ⟨m, h0⟩, hs⟩
theorem k_wN {P : Nat → L2.St → Hp → Prop} {m : Nat} (q : tb { D with nx := Less P m, ct := Less P m, bk := D.nx } σ H) : ∃ N : L2.St → Hp → Prop, (∀ σ' H', N σ' H' → ∃ m', m' < m ∧ P m' σ' H') ∧ tb { D with nx := N, ct := N, bk := D.nx } σ H := ⟨_, fun _ _ h => h, q⟩
end
/-! more steps -/
section
variable {σ : L2.St} {H : Hp} {Q : VK} {v : V} {te to ti : TE} {K : PySem.W.Frag} {D : Ends} {i : Nat}
theorem k_aug {ip : TIp} (h : σ[i]? = some (some v)) (q : te σ H fun y H1 => ip v y H1 fun z H2 => D.nx (σ.set i (some z)) H2) : tAug i te ip D σ H := ⟨v, h, q⟩
theorem k_ip {f : Int → Int → Int} {a b : Int} (q : Q (.int (f a b)) H) : ipI f (.int a) (.int b) H Q := ⟨a, b, rfl, rfl, q⟩
theorem k_gsub {t : TSet} {Q : L2.St → Hp → Prop} (q : to σ H fun o H1 => ti σ H1 fun i H2 => t o i v H2 fun H3 => Q σ H3) : gSub to ti t v σ H Q := q
theorem k_setL {p : Addr} {xs : List V} {k : Int} {j : Nat} {Q : Hp → Prop} (h : H p = some (.lst xs)) (hj : ixN xs.length k = some j) (q : ∀ H', But p H H' → H' p = some (.lst (xs.set j v)) → Q H') : rSetL (.ref p) (.int k) v H Q := ⟨p, xs, k, j, rfl, rfl, h, hj, q _ But.upd upd_same⟩
theorem ixN_nat {n j : Nat} (h : j < n) : ixN n (j : Int) = some j := by
  unfold ixN
  rw [if_pos (by omega), if_pos (by omega)]
  rfl
theorem k_m1 {r : V → List V → Hp → VK → Prop} (q : to σ H fun x H1 => (∃ a, x = .str a) ∧ te σ H1 fun y H2 => r x [y] H2 Q) : tM1 r to te σ H Q := q
theorem k_m0 {r : V → List V → Hp → VK → Prop} (q : to σ H fun x H1 => (∃ a, x = .str a) ∧ r x [] H1 Q) : tM0 r to σ H Q := q
theorem k_isS {a : Str} {B : Prop} (q : B) : (∃ b, V.str a = .str b) ∧ B := ⟨⟨a, rfl⟩, q⟩
def rJoinU (K : PySem.W.Frag) : V → List V → Hp → VK → Prop := fun x xs H Q => ∃ a p, ∃ ys : List Str, x = .str a ∧ xs = [.ref p] ∧ (SqL K H p (ys.map V.str) ∨ SqT K H p (ys.map V.str)) ∧ (ys.map (·.length)).sum + ys.length * a.length ≤ 16777216 ∧ Q (.str (Txt.join a ys)) H
theorem mt_joinK {X : Cx} (h : X.K = K) : MtR X "str.join" (rJoinU K) := h ▸ mt_join
theorem k_join {a : Str} {p : Addr} {ys : List Str} (h : SqL K H p (ys.map V.str) ∨ SqT K H p (ys.map V.str)) (c : (ys.map (·.length)).sum + ys.length * a.length ≤ 16777216) (q : Q (.str (Txt.join a ys)) H) : rJoinU K (.str a) [.ref p] H Q := ⟨a, p, ys, rfl, rfl, h, c, q⟩
theorem k_ixS {z : Str} {i : Int} {c : Nat} (hz : z.length ≤ sizeLine) (h : atI z.cps.toList i = some c) (q : Q (.str ⟨#[c]⟩) H) : rIx K (.str z) (.int i) H Q := .inr (.inr ⟨z, i, c, rfl, rfl, hz, h, q⟩)
theorem k_sum {a : Addr} {ns : List Int} (h : SqL K H a (ns.map V.int)) (q : Q (.int ns.sum) H) : rSum K [.ref a] H Q := ⟨a, ns, rfl, h, q⟩
end
/-- in, not in: of flat things, of data, of a text in a text -/
def rInU (K : PySem.W.Frag) : R2 := fun x y H Q => rIn K false x y H Q ∨ rInD K x y H Q ∨ (∃ i j, x = .str i ∧ y = .str j ∧ Q (.bl (!(Builtin.Str.occurrences j i 0 j.length 1).isEmpty)) H)
def rNiU (K : PySem.W.Frag) : R2 := fun x y H Q => rIn K true x y H Q ∨ rNotInD K x y H Q ∨ (∃ i j, x = .str i ∧ y = .str j ∧ Q (.bl (!(!(Builtin.Str.occurrences j i 0 j.length 1).isEmpty))) H)
theorem Room.un65 {k : Nat} {A : Around} (r : Room k A) : A.units + 65 < cLine := by have := r.un; omega
theorem op_inUK {X : Cx} {K : PySem.W.Frag} {k : Nat} (h : X.K = K) (hr : Room k X.A) : OpR X (compareOp .In) (rInU K) := h ▸ op_in_seq.or ((op_inD (Room.un65 hr)).or op_in_str)
theorem op_niUK {X : Cx} {K : PySem.W.Frag} {k : Nat} (h : X.K = K) (hr : Room k X.A) : OpR X (compareOp .NotIn) (rNiU K) := h ▸ op_notIn_seq.or ((op_notInD (Room.un65 hr)).or op_notIn_str)
section
variable {H : Hp} {Q : VK} {K : PySem.W.Frag}
theorem k_in {x : V} {p : Addr} {xs : List V} {b : Bool} (h : SqL K H p xs ∨ SqT K H p xs) (hx : flatV x = true) (ha : xs.all flatV = true) (e : inV x xs = b) (q : Q (.bl b) H) : rInU K x (.ref p) H Q := .inl (k_in0 h hx ha e q)
theorem k_ni {x : V} {p : Addr} {xs : List V} {b : Bool} (h : SqL K H p xs ∨ SqT K H p xs) (hx : flatV x = true) (ha : xs.all flatV = true) (e : inV x xs = b) (q : Q (.bl (!b)) H) : rNiU K x (.ref p) H Q := .inl (k_ni0 h hx ha e q)
theorem k_inD {x y : V} {d : PyData} {ds : List PyData} (hx : Dp K H x d) (hy : Dp K H y (.list ds)) (s1 : SeqAt.shaped d = true) (s2 : SeqAt.shaped (.list ds) = true) (q : Q (.bl (ds.any fun z => PyData.eqv z d)) H) : rInU K x y H Q := .inr (.inl ⟨d, ds, hx, hy, s1, s2, q⟩)
theorem k_niD {x y : V} {d : PyData} {ds : List PyData} (hx : Dp K H x d) (hy : Dp K H y (.list ds)) (s1 : SeqAt.shaped d = true) (s2 : SeqAt.shaped (.list ds) = true) (q : Q (.bl (!ds.any fun z => PyData.eqv z d)) H) : rNiU K x y H Q := .inr (.inl ⟨d, ds, hx, hy, s1, s2, q⟩)
theorem k_inS {x y : Str} (q : Q (.bl (!(Builtin.Str.occurrences y x 0 y.length 1).isEmpty)) H) : rInU K (.str x) (.str y) H Q := .inr (.inr ⟨x, y, rfl, rfl, q⟩)
theorem k_niS {x y : Str} (q : Q (.bl (!(!(Builtin.Str.occurrences y x 0 y.length 1).isEmpty))) H) : rNiU K (.str x) (.str y) H Q := .inr (.inr ⟨x, y, rfl, rfl, q⟩)
end
/-- a dict of one pair, its key a text -/
def rDisp1 (p : Addr) (x y : V) (H : Hp) (Q : VK) : Prop := H p = some (.dK []) ∧ ∃ kvs : List (Key × V), [(x, y)] = kvs.map (fun kv => (kV kv.1, kv.2)) ∧ kvs.length ≤ 15 ∧ Q (.ref p) (upd H p (.dK (mergeK [] kvs)))
theorem k_disp1 {σ : L2.St} {H : Hp} {Q : VK} {tk tv : TE} (q : ∀ p H1, H p = none → Same H H1 → H1 p = some (.dK []) → tk σ H1 fun x H2 => tv σ H2 fun y H3 => rDisp1 p x y H3 Q) : tDisp [(tk, tv)] σ H Q := fun p hp => q p _ hp (same_new hp) upd_same
theorem k_disp1x {p : Addr} {z : Str} {y : V} {H : Hp} {Q : VK} (h : H p = some (.dK [])) (q : ∀ H', But p H H' → H' p = some (.dK [(.inr z, y)]) → Q (.ref p) H') : rDisp1 p (.str z) y H Q := ⟨h, [(.inr z, y)], rfl, by simp, q _ But.upd upd_same⟩
theorem k_ev {te : TE} {g : TG} {D : Ends} {σ : L2.St} {H : Hp} (P : V → Hp → Prop) (h : ∀ Q : VK, (∀ v H', P v H' → Q v H') → te σ H Q) (q : ∀ v H', P v H' → g v σ H' D.nx) : tAsg te g D σ H := h _ q
theorem k_evT {tt : TT} {t u : TS} {D : Ends} {σ : L2.St} {H : Hp} (P : Bool → Hp → Prop) (h : ∀ Q : Bool → Hp → Prop, (∀ b H', P b H' → Q b H') → tt σ H Q) (q : ∀ b H', P b H' → if b = true then t D σ H' else u D σ H') : tIfS tt t u D σ H := h _ q
/-! ### list comprehensions -/
section
variable {σ : L2.St} {H : Hp} {Q : VK} {K : PySem.W.Frag} {g : TG} {tt : TT} {te : TE} {vs : List Nat} {wi : TI}
def LcB (D : Addr) (g : TG) (tt : TT) (te : TE) (vs : List Nat) (σ : L2.St) (x : V) (H : Hp) (N : Hp → Prop) : Prop := g x (wipe σ vs) H fun σ2 H2 => wipe σ2 vs = wipe σ vs ∧ tt σ2 H2 fun b H3 =>
  if b = true then te σ2 H3 fun y H4 => ∃ acc, H4 D = some (.lst acc) ∧ acc.length < sizeLine ∧ N (upd H4 D (.lst (acc ++ [y]))) else N H3
def LcX (J : It) (g : TG) (tt : TT) (te : TE) (vs : List Nat) (σ : L2.St) (H : Hp) (Q : VK) : Prop := ∀ D, H D = none → ∃ W : Nat → Nat → Hp → Prop, (∃ m, W 0 m (upd H D (.lst []))) ∧ ∀ i m H, W i m H →
  (J.stop i H ∧ Q (.ref D) H) ∨ (J.go i H ∧ ∃ Nx : Hp → Prop, (∀ H', Nx H' → ∃ m', m' < m ∧ W (i + 1) m' H') ∧ ∀ x H', J.yld i H x H' → LcB D g tt te vs σ x H' Nx)
theorem k_lc (q : wi σ H fun J H1 => LcX J g tt te vs σ H1 Q) : tLc wi g tt te vs σ H Q := q
/-- one turn: the element kept, or not -/
theorem k_lcY {y : V} {D : Addr} {acc : List V} {P : Hp → Prop} (h : H D = some (.lst acc)) (hz : acc.length < sizeLine) (q : ∀ H', But D H H' → H' D = some (.lst (acc ++ [y])) → P H') : ∃ acc, H D = some (.lst acc) ∧ acc.length < sizeLine ∧ P (upd H D (.lst (acc ++ [y]))) :=
  ⟨acc, h, hz, q _ But.upd upd_same⟩
theorem k_lcU {a : Addr} {xs : List V} (hS : SqL K H a xs ∨ SqT K H a xs) (P : Addr → Nat → List V → Hp → Prop) (h0 : ∀ D H', H D = none → Same H H' → H' D = some (.lst []) → P D 0 [] H') (hl : ∀ D i ys H', H D = none → P D i ys H' → Same H H')
    (hs : ∀ D (i : Nat) x ys H', H D = none → xs[i]? = some x → P D i ys H' → H' D = some (.lst ys) → LcB D g tt te vs σ x H' fun H'' => ∃ zs, P D (i + 1) zs H'' ∧ H'' D = some (.lst zs))
    (hd : ∀ D ys H', H D = none → P D xs.length ys H' → H' D = some (.lst ys) → Q (.ref D) H') : rItU K (.ref a) H fun J H1 => LcX J g tt te vs σ H1 Q := by
  rcases hS with hS | hS
  · exact k_itUL hS fun D hD => lc_list (fun i H' => ∃ ys, P D i ys H' ∧ H' D = some (.lst ys)) ⟨[], h0 D _ hD (same_new hD) upd_same, upd_same⟩ (fun i H' _ ⟨ys, p, _⟩ => seqL_same (hl D i ys H' hD p) hS)
      (fun i x H' hx ⟨ys, p, e⟩ => hs D i x ys H' hD hx p e) fun H' ⟨ys, p, e⟩ => hd D ys H' hD p e
  · exact k_itUT hS fun D hD => lc_tup (fun i H' => ∃ ys, P D i ys H' ∧ H' D = some (.lst ys)) ⟨[], h0 D _ hD (same_new hD) upd_same, upd_same⟩ (fun i H' _ ⟨ys, p, _⟩ => seqT_same (hl D i ys H' hD p) hS)
      (fun i x H' hx ⟨ys, p, e⟩ => hs D i x ys H' hD hx p e) fun H' ⟨ys, p, e⟩ => hd D ys H' hD p e
/-- a list walked while other things change -/
theorem k_lcLb {σ : L2.St} {H : Hp} {Q : VK} {K : PySem.W.Frag} {g : TG} {tt : TT} {te : TE} {vs : List Nat} {a : Addr} {xs : List V} {P : Addr → Nat → List V → Hp → Prop} (h0 : ∀ D H', H D = none → Same H H' → H' D = some (.lst []) → P D 0 [] H') (hl : ∀ D i ys H', H D = none → P D i ys H' → SqL K H' a xs)
    (hs : ∀ D (i : Nat) x ys H', H D = none → xs[i]? = some x → P D i ys H' → H' D = some (.lst ys) → LcB D g tt te vs σ x H' fun H'' => ∃ zs, P D (i + 1) zs H'' ∧ H'' D = some (.lst zs))
    (hd : ∀ D ys H', H D = none → P D xs.length ys H' → H' D = some (.lst ys) → Q (.ref D) H') : LcX (Itl K a) g tt te vs σ H Q := fun D hD =>
  lc_list (fun i H' => ∃ ys, P D i ys H' ∧ H' D = some (.lst ys)) ⟨[], h0 D _ hD (same_new hD) upd_same, upd_same⟩ (fun i H' _ ⟨ys, p, _⟩ => hl D i ys H' hD p)
    (fun i x H' hx ⟨ys, p, e⟩ => hs D i x ys H' hD hx p e) fun H' ⟨ys, p, e⟩ => hd D ys H' hD p e
theorem k_lcR {lo : Int} {n : Nat} (P : Addr → Nat → List V → Hp → Prop) (h0 : ∀ D H', H D = none → Same H H' → H' D = some (.lst []) → P D 0 [] H')
    (hs : ∀ D (i : Nat) ys H', H D = none → i < n → P D i ys H' → H' D = some (.lst ys) → LcB D g tt te vs σ (.int (lo + (i : Int))) H' fun H'' => ∃ zs, P D (i + 1) zs H'' ∧ H'' D = some (.lst zs))
    (hd : ∀ D ys H', H D = none → P D n ys H' → H' D = some (.lst ys) → Q (.ref D) H') : LcX (Itr lo n) g tt te vs σ H Q := fun D hD =>
  lc_range (fun i H' => ∃ ys, P D i ys H' ∧ H' D = some (.lst ys)) ⟨[], h0 D _ hD (same_new hD) upd_same, upd_same⟩ (fun i H' hi ⟨ys, p, e⟩ => hs D i ys H' hD hi p e) fun H' ⟨ys, p, e⟩ => hd D ys H' hD p e
/-- a turn begins: the target a name -/
theorem k_lcB {D : Addr} {j : Nat} {x : V} {N : Hp → Prop} (hw : wipe ((wipe σ vs).set j (some x)) vs = wipe σ vs) (q : tt ((wipe σ vs).set j (some x)) H fun b H3 => if b = true then te ((wipe σ vs).set j (some x)) H3 fun y H4 => ∃ acc, H4 D = some (.lst acc) ∧ acc.length < sizeLine ∧ N (upd H4 D (.lst (acc ++ [y]))) else N H3) :
    LcB D (gName j) tt te vs σ x H N := ⟨hw, q⟩
/-- a comprehension's turn, its target a tuple -/
theorem k_lcT {D : Addr} {x : V} {N : Hp → Prop} (q : g x (wipe σ vs) H fun σ2 H2 => wipe σ2 vs = wipe σ vs ∧ tt σ2 H2 fun b H3 =>
    if b = true then te σ2 H3 fun y H4 => ∃ acc, H4 D = some (.lst acc) ∧ acc.length < sizeLine ∧ N (upd H4 D (.lst (acc ++ [y]))) else N H3) : LcB D g tt te vs σ x H N := q
/-- no test -/
theorem k_yes {Q : Bool → Hp → Prop} (q : Q true H) : tYes σ H Q := q
def rRgX (a b : Int) (H : Hp) (Q : VK) : Prop := RgOk a b ∧ ∀ q, H q = none → Q (.ref q) (upd H q (.lst (rgV a b)))
theorem k_listRg {tr : L2.St → Hp → (Int → Int → Hp → Prop) → Prop} (q : tr σ H fun a b H1 => rRgX a b H1 Q) : tLstRg tr σ H Q := q
theorem k_rg1 {ta : TE} {R : Int → Int → Hp → Prop} (q : ta σ H fun x H1 => ∃ n, x = .int n ∧ R 0 n H1) : tRg1 ta σ H R := q
theorem k_rgX {a b : Int} (c : 0 ≤ a ∧ a ≤ 1000000 ∧ 0 ≤ b ∧ b ≤ 1000000) (q : ∀ l H', H l = none → Same H H' → H' l = some (.lst (rgV a b)) → Q (.ref l) H') : rRgX a b H Q := ⟨RgOk.of_le (by omega) (by omega) (by omega) (by omega), fun l hl => q l _ hl (same_new hl) upd_same⟩
end
def rIsBl : R2 := fun x y H Q => ∃ a b, x = .bl a ∧ y = .bl b ∧ Q (.bl (decide (a = b))) H
def rNotBl : R2 := fun x y H Q => ∃ a b, x = .bl a ∧ y = .bl b ∧ Q (.bl (!decide (a = b))) H
theorem op_isBlU {X : Cx} : OpR X (compareOp .Is) rIsBl := op_is_bl
theorem op_notBlU {X : Cx} : OpR X (compareOp .IsNot) rNotBl := op_isnot_bl
theorem k_isBl {a b : Bool} {H : Hp} {Q : VK} (q : Q (.bl (decide (a = b))) H) : rIsBl (.bl a) (.bl b) H Q := ⟨a, b, rfl, rfl, q⟩
theorem k_notBl {a b : Bool} {H : Hp} {Q : VK} (q : Q (.bl (!decide (a = b))) H) : rNotBl (.bl a) (.bl b) H Q := ⟨a, b, rfl, rfl, q⟩
theorem k_glst {K : PySem.W.Frag} {a : Addr} {xs : List V} {n : Nat} {t : TGs} {σ : L2.St} {H : Hp} {Q : L2.St → Hp → Prop} (h : SqL K H a xs) (hl : xs.length = n) (q : t xs σ H Q) : gLst K n t (.ref a) σ H Q := ⟨a, xs, rfl, h, hl, q⟩
theorem k_ext1 {l b : Addr} {xs zs : List V} {H : Hp} {Q : VK} (h : H l = some (.lst xs)) (g : H b = some (.lst zs)) (c : xs.length + zs.length ≤ sizeLine) (q : ∀ H', But l H H' → H' l = some (.lst (xs ++ zs)) → Q .non H') : rExtend (.ref l) [.ref b] H Q := ⟨l, b, xs, zs, rfl, rfl, h, g, c, q _ But.upd upd_same⟩
/-- a tuple and one more -/
theorem k_addT1 {K : PySem.W.Frag} {H : Hp} {Q : VK} {a b : Addr} {xs : List V} {y : V} (ha : SqT K H a xs) (hb : SqT K H b [y]) (c : xs.length + 1 ≤ sizeLine) (q : ∀ p H', Same H H' → SqT K H' p (xs ++ [y]) → Q (.ref p) H') : rAddU K (.ref a) (.ref b) H Q :=
  .inr (.inr (.inr ⟨a, b, xs, [y], rfl, rfl, ha, hb, c, fun e => by subst e; exact q b H (Same.refl H) hb, fun _ e => (by cases e), fun _ _ p hp => q p _ (same_new hp) (SqT.of upd_same)⟩))
/-! len(set(t)), t a tuple of ints, none twice -/
def tLenSetT (K : PySem.W.Frag) (ta : TE) : TE := fun σ H Q => ta σ H fun x H1 => ∃ (l : Addr) (ns : List Int), x = .ref l ∧ SqT K H1 l (ns.map V.int) ∧ ns.Nodup ∧ ns.length ≤ 4000 ∧ Q (.int (ns.length : Nat)) H1
theorem ints_vals : ∀ {ns : List Int} {us : List Value}, Vals (ns.map V.int) us → PyProof.Rows.IntsAre us ns
  | [], _, .nil => .nil
  | n :: ns, _, .cons r t => by
    obtain ⟨k, rfl⟩ := r
    exact .cons n k (ints_vals t)
theorem pe_lenSetT {X : Cx} {K : PySem.W.Frag} {a : Expr} {ta : TE} {p p2 q pos : Pos} (hK : X.K = K) (hg : Gl X "len") (hm : X.mg "len" = none) (hg2 : Gl X "set") (hm2 : X.mg "set" = none) (ha : PE X a ta) (hc : X.calm = true := by rfl)
    (na : starEach [a] X.env = (false, eval a X.env) :: starEach [] X.env := by rfl) : PE X (.Call (.Name "len" p) [.Call (.Name "set" p2) [a] [] q] [] pos) (tLenSetT K ta) := by
  subst hK
  refine ⟨fun pins s σ H Q I h => ?_⟩
  refine Call_ (ld_blt I hg hm boot_len ?_)
  refine PyProof.Rows.callWith_builtin1 (PyProof.Rows.args_cons ?_ rfl) rfl rfl
  refine Call_ (ld_blt I hg2 hm2 boot_set ?_)
  refine PyProof.Rows.callWith_type1 (PyProof.Rows.args_cons (thn (ha.run pins s σ H _ I h) fun v s1 ⟨x, H1, I1, r1, q1⟩ => PyProof.Rows.args_nil ?_) na) na rfl
  obtain ⟨l, ns, rfl, hq, hnd, hl, q1⟩ := q1
  cases r1
  obtain ⟨its, r, pt, hz⟩ := I1.tuple hq
  refine call_set_tupI ns (I1.ok.hd hc) pt (by simpa using ints_vals r) (by unfold scanBound; omega) fun h' tk c hS _ hk => ?_
  refine PyProof.Rows.args_nil ?_
  obtain ⟨o, es, ep, t, ho, hex, hd, g, nd, hm3, hb, hf, hn, _⟩ := hS
  have I2 : Inv X pins σ H1 { s1 with heap := h', toks := tk } := I1.kept hk
  have hp : (es.toList.map keyOf).Perm ns := (List.perm_ext_iff_of_nodup nd hnd).mpr fun k => by
    have := hm3 k
    rw [← this]
    simp
  have hlen : es.size = ns.length := by
    have := hp.length_eq
    rw [List.length_map, Array.length_toList] at this
    exact this
  exact call_len_set ho hex hd hf (by rw [hlen]; omega) ⟨.int ns.length, H1, I2.tok _, ⟨_, by rw [hlen]⟩, q1⟩
def rLenSetT (K : PySem.W.Frag) (x : V) (H1 : Hp) (Q : VK) : Prop := ∃ (l : Addr) (ns : List Int), x = .ref l ∧ SqT K H1 l (ns.map V.int) ∧ ns.Nodup ∧ ns.length ≤ 4000 ∧ Q (.int (ns.length : Nat)) H1
theorem k_lenSetT {K : PySem.W.Frag} {ta : TE} {σ : L2.St} {H : Hp} {Q : VK} (q : ta σ H fun x H1 => rLenSetT K x H1 Q) : tLenSetT K ta σ H Q := q
theorem k_lenSetTx {K : PySem.W.Frag} {H : Hp} {Q : VK} {l : Addr} {ns : List Int} (h : SqT K H l (ns.map V.int)) (nd : ns.Nodup) (c : ns.length ≤ 4000) (q : Q (.int (ns.length : Nat)) H) : rLenSetT K (.ref l) H Q := ⟨l, ns, rfl, h, nd, c, q⟩
/-! count of data -/
def rCntL (K : PySem.W.Frag) : V → List V → Hp → VK → Prop := fun x xs H Q => ∃ (p : Addr) (y : V) (d : PyData) (ds : List PyData), x = .ref p ∧ xs = [y] ∧ Dp K H (.ref p) (.list ds) ∧ Dp K H y d ∧ PyData.plainAll ds = true ∧ d.plain = true ∧ PyData.depthAll ds ≤ 32 ∧
  Q (.int ((ds.countP fun z => PyData.eqv z d : Nat) : Int)) H
theorem mt_cntL {X : Cx} {k : Nat} {K : PySem.W.Frag} (h : X.K = K) (hr : Room k X.A) : MtR X "list.count" (rCntL K) := by
  subst h
  intro pins s σ H x xs v us Q I rx rxs h
  obtain ⟨p, y, d, ds, rfl, rfl, hl, hy, pl, pd, dp, q⟩ := h
  cases rx
  cases rxs with
  | cons ry rt =>
    rename_i uy ut
    cases rt
    obtain ⟨bs, r1⟩ := Dp.reads I d y uy hy ry
    cases hl with
    | lst hs ha =>
      obtain ⟨its, rv, pl2, hlen⟩ := I.list hs
      obtain ⟨as, h4⟩ := Dp.readsAll I ds _ its ha rv
      refine PySem.SeqAt.count_list_data pl2.isList (show ReadsAll s.heap its.toArray.toList ds as from h4) r1 pl pd (by have := hr.units; omega) ⟨.int ((ds.countP fun z => PyData.eqv z d : Nat) : Int), H, I.tok _, ⟨_, rfl⟩, q⟩
theorem k_cntL {H : Hp} {Q : VK} {K : PySem.W.Frag} {p : Addr} {y : V} {d : PyData} {ds : List PyData} (hl : Dp K H (.ref p) (.list ds)) (hy : Dp K H y d) (pl : PyData.plainAll ds = true) (pd : d.plain = true) (dp : PyData.depthAll ds ≤ 32)
    (q : Q (.int ((ds.countP fun z => PyData.eqv z d : Nat) : Int)) H) : rCntL K (.ref p) [y] H Q := ⟨p, y, d, ds, rfl, rfl, hl, hy, pl, pd, dp, q⟩
/-- a list, repeated -/
theorem k_mulR {H : Hp} {Q : VK} {K : PySem.W.Frag} {l : Addr} {k : Int} {xs : List V} (h : H l = some (.lst xs)) (c : -(2 ^ 63) ≤ k ∧ k < 2 ^ 63 ∧ xs.length * k.toNat ≤ sizeLine) (q : ∀ p H', H p = none → Same H H' → H' p = some (.lst (List.replicate k.toNat xs).flatten) → Q (.ref p) H') : rMulU K (.ref l) (.int k) H Q :=
  .inr (.inl ⟨l, k, xs, rfl, rfl, h, c.1, c.2.1, c.2.2, fun p hp => q p _ hp (same_new hp) upd_same⟩)
/-! ### walks that lay a new pair at each turn: enumerate, zip -/
structure PairIt (J : It) (n : Nat) (u v : Nat → V) (Ok : Hp → Prop) : Prop where
  go : ∀ i H, Ok H → i < n → J.go i H
  stop : ∀ H, Ok H → J.stop n H
  yld : ∀ i H x H', Ok H → i < n → J.yld i H x H' → ∃ T, x = .ref T ∧ H T = none ∧ H' = upd H T (.tup [u i, v i])
section
variable {σ : L2.St} {H : Hp} {Q : VK} {K : PySem.W.Frag} {g : TG} {tt : TT} {te : TE} {vs : List Nat} {J : It} {n : Nat} {u v : Nat → V} {Ok : Hp → Prop} {D : Ends} {tb : TS} {ta : TA}
theorem k_loopP (pi : PairIt J n u v Ok) (P : Nat → L2.St → Hp → Prop) (h0 : P 0 σ H) (hl : ∀ i σ' H', P i σ' H' → Ok H')
    (hs : ∀ (i : Nat) T σ' H1 H2, i < n → P i σ' H1 → H1 T = none → Same H1 H2 → H2 T = some (.tup [u i, v i]) → g (.ref T) σ' H2 fun σ2 H2 => tb { D with nx := P (i + 1), ct := P (i + 1), bk := D.nx } σ2 H2) (hd : ∀ σ' H', P n σ' H' → D.nx σ' H') : LoopI J g tb D σ H := by
  refine ⟨fun i m σ' H' => m = n - i ∧ i ≤ n ∧ P i σ' H', ⟨n, by simp, Nat.zero_le _, h0⟩, ?_⟩
  rintro i m σ' H' ⟨rfl, hi, p⟩
  have ok := hl i σ' H' p
  by_cases c : i < n
  · refine .inr ⟨pi.go i H' ok c, P (i + 1), fun σ2 H2 q => ⟨n - (i + 1), by omega, rfl, c, q⟩, fun x H2 y => ?_⟩
    obtain ⟨T, rfl, hT, rfl⟩ := pi.yld i H' x H2 ok c y
    exact hs i T σ' H' _ c p hT (same_new hT) upd_same
  · have e : i = n := by omega
    subst e
    exact .inl ⟨pi.stop H' ok, hd σ' H' p⟩
theorem k_lcP (pi : PairIt J n u v Ok) (P : Addr → Nat → List V → Hp → Prop) (h0 : ∀ D H', H D = none → Same H H' → H' D = some (.lst []) → P D 0 [] H') (hl : ∀ D i ys H', H D = none → P D i ys H' → Ok H')
    (hs : ∀ D (i : Nat) T ys H1 H2, H D = none → i < n → P D i ys H1 → H1 T = none → Same H1 H2 → H2 T = some (.tup [u i, v i]) → H2 D = some (.lst ys) → LcB D g tt te vs σ (.ref T) H2 fun H'' => ∃ zs, P D (i + 1) zs H'' ∧ H'' D = some (.lst zs))
    (hd : ∀ D ys H', H D = none → P D n ys H' → H' D = some (.lst ys) → Q (.ref D) H') : LcX J g tt te vs σ H Q := fun D hD => by
  refine ⟨fun i m H' => m = n - i ∧ i ≤ n ∧ ∃ ys, P D i ys H' ∧ H' D = some (.lst ys), ⟨n, by simp, Nat.zero_le _, [], h0 D _ hD (same_new hD) upd_same, upd_same⟩, ?_⟩
  rintro i m H' ⟨rfl, hi, ys, p, e⟩
  have ok := hl D i ys H' hD p
  by_cases c : i < n
  · refine .inr ⟨pi.go i H' ok c, fun H'' => ∃ zs, P D (i + 1) zs H'' ∧ H'' D = some (.lst zs), fun H2 ⟨zs, q, e2⟩ => ⟨n - (i + 1), by omega, rfl, c, zs, q, e2⟩, fun x H2 y => ?_⟩
    obtain ⟨T, rfl, hT, rfl⟩ := pi.yld i H' x H2 ok c y
    exact hs D i T ys H' _ hD c p hT (same_new hT) upd_same (same_new hT _ _ e)
  · have ei : i = n := by omega
    subst ei
    exact .inl ⟨pi.stop H' ok, hd D ys H' hD p e⟩
theorem get_some {xs : List V} {i : Nat} (h : i < xs.length) : xs[i]? = some (xs.getD i .non) := by
  rw [List.getElem?_eq_getElem h]
  simp [h]
theorem enum_it {a : Addr} {xs : List V} : PairIt (Ite K a) xs.length (fun i => .int (i : Nat)) (fun i => xs.getD i .non) (fun H => SqL K H a xs) where
  go := fun i H h c => ⟨xs, _, h, get_some c⟩
  stop := fun H h => ⟨xs, h, Nat.le_refl _⟩
  yld := fun i H x H' h c ⟨T, y, e, hT, eH, hy⟩ => ⟨T, e, hT, by
    have := hy xs h
    rw [get_some c] at this
    rw [eH, Option.some.inj this]⟩
theorem zip_it {a b : Addr} {xs ys : List V} (hl : xs.length = ys.length) : PairIt (Itz K a b) xs.length (fun i => xs.getD i .non) (fun i => ys.getD i .non) (fun H => SqL K H a xs ∧ SqL K H b ys) where
  go := fun i H h c => ⟨xs, ys, _, _, h.1, h.2, get_some c, get_some (by omega)⟩
  stop := fun H h => ⟨xs, ys, h.1, h.2, .inl (Nat.le_refl _)⟩
  yld := fun i H x H' h c ⟨T, y, z, e, hT, eH, hy, hz⟩ => ⟨T, e, hT, by
    have e1 := hy xs h.1
    have e2 := hz ys h.2
    rw [get_some c] at e1
    rw [get_some (by omega)] at e2
    rw [eH, Option.some.inj e1, Option.some.inj e2]⟩
def rEnum (K : PySem.W.Frag) (vs : List V) (H1 : Hp) (R : It → Hp → Prop) : Prop := ∃ a xs, vs = [.ref a] ∧ SqL K H1 a xs ∧ R (Ite K a) H1
theorem k_iEnum {R : It → Hp → Prop} (q : ta σ H fun vs H1 => rEnum K vs H1 R) : iEnum K ta σ H R := q
theorem k_enumx {a : Addr} {xs : List V} {R : It → Hp → Prop} (h : SqL K H a xs) (q : R (Ite K a) H) : rEnum K [.ref a] H R := ⟨a, xs, rfl, h, q⟩
end
/-! the written part by its name, in comprehensions too -/
section
variable {X : Cx} {K : PySem.W.Frag}
theorem callK {f : Value} {r : PySem.W.Frag → List V → Hp → VK → Prop} (h : X.K = K) (c : CallR X f (r X.K)) : CallR X f (r K) := h ▸ c
theorem pe_fldK {e : Expr} {ta : TE} {f : Str} {pos : Pos} (h : X.K = K) (he : PE X e ta) (hb : attributeBase e f X.env (eval e X.env) = eval e X.env) : PE X (.Attribute e f pos) (tFld K ta f) := h ▸ pe_fld he hb
theorem pe_bm0K {T id : String} {name : Str} {o : Expr} {to : TE} {r : V → List V → Hp → VK → Prop} {apos cpos : Pos} (h : X.K = K) (pa : PlainAttrs T) (slot : Slot T name id) (hty : typeOf (.builtin id) = pure (.type "method_descriptor")) (hm : MtR X id r) (ho : PE X o to)
    (hbase : attributeBase o name X.env (eval o X.env) = eval o X.env := by rfl) (hline : (apos.endLine == cpos.line) = true := by rfl) : PE X (.Call (.Attribute o name apos) [] [] cpos) (tBM0 K T r to) := h ▸ pe_bm0 pa slot hty hm ho hbase hline
theorem pe_bmK {T id : String} {name : Str} {o e : Expr} {es : List Expr} {to : TE} {t : TA} {r : V → List V → Hp → VK → Prop} {apos cpos : Pos} (h : X.K = K) (pa : PlainAttrs T) (slot : Slot T name id) (hty : typeOf (.builtin id) = pure (.type "method_descriptor")) (hm : MtR X id r) (ho : PE X o to) (ha : PA X (e :: es) t)
    (hbase : attributeBase o name X.env (eval o X.env) = eval o X.env := by rfl)
    (hfew : ((backTo cpos (starEach (e :: es) X.env)).all (fun x => !x.1) && (backToKw cpos (keywordEach [] X.env)).all (fun x => x.1.isSome)
      && decide ((e :: es).length + ([] : List Keyword).length + (if ([] : List Keyword).isEmpty then 0 else 1) < 30)) = true := by rfl)
    (hline : (apos.endLine == cpos.line) = true := by rfl) (hs : starEach (e :: es) X.env = (false, eval e X.env) :: starEach es X.env := by rfl) (hplain : (backTo cpos (starEach es X.env)).any (·.1) = false := by rfl) :
    PE X (.Call (.Attribute o name apos) (e :: es) [] cpos) (tBM K T r to t) := h ▸ pe_bm pa slot hty hm ho ha hbase hfew hline hs hplain
end
/-! X(e).f, X an exception with a field -/
section
variable {X : Cx} {e : Expr} {t : L2.St → Hp → XK → Prop} {C : Addr} {f : Str} {pos : Pos}
def tMkF (C : Addr) (f : Str) (t : L2.St → Hp → XK → Prop) : TE := fun σ H Q => t σ H fun cls d H1 => ∃ (dd : Addr) (fs : List (Str × V)) (v : V), cls = .ref C ∧ d = some dd ∧ H1 dd = some (.xd fs) ∧ fs.lookup f = some v ∧ Q v H1
theorem pe_mkF (T : XfC X.K C) (hno : PySem.W.findIn X.K (.ref C) f = some none) (he : PMk X e t) (hb : attributeBase e f X.env (eval e X.env) = eval e X.env := by rfl) : PE X (.Attribute e f pos) (tMkF C f t) := by
  refine ⟨fun pins s σ H Q I h => ?_⟩
  refine attr_of hb (thn (he pins s σ H _ I h) fun u s1 hh => ?_)
  obtain ⟨a, oe, vs, sI, H1, cls, d, ex, J, k, hne, ha, hz, hd, h1, na, os, ag, r, dd, fs, v, ec, ed, ea, l, q⟩ := hh
  subst ex
  subst ec
  subst ed
  have J2 := J.kept (h' := s1.heap) (t' := s1.toks) k
  have I1 : Inv X pins σ H1 s1 := ⟨J2.ok, os.trans J2.os, ag, J2.base, J2.loc, J2.cell, J2.free, J2.freeC, J2.pin, J2.hok, J2.len⟩
  have hx : ObjOk X.prog X.w H1 s1.heap dd (.xd fs) := I1.hok dd _ ea
  obtain ⟨mA, hns, hr⟩ := hx
  obtain ⟨od, ho, hl⟩ := lookIn_ns hns
  obtain ⟨u, hu, ru⟩ := RelO.some_of (v := v) (o := mA f) (by rw [← l]; exact hr f)
  have J : PySem.W.InstAt s1.heap a oe C (some od) := ⟨ha, hz.1, by unfold PySem.W.notCls; rw [hd] <;> rfl, by rw [hz.2]; exact ho⟩
  exact HandSPX.exc_get I1.kIn J T.ga T.gg T.exC (PySem.W.findObj_own T.hdC hno rfl (by rw [hl, hu])) (handed_of ru) ⟨v, H1, I1.tok _, ru, q⟩
theorem k_mkF {sp : Sp} {ta : TA} {σ : L2.St} {H : Hp} {Q : VK} (q : ta σ H fun vs H1 => rMkO C sp vs H1 fun cls d H1 => ∃ (dd : Addr) (fs : List (Str × V)) (v : V), cls = .ref C ∧ d = some dd ∧ H1 dd = some (.xd fs) ∧ fs.lookup f = some v ∧ Q v H1) : tMkF C f (tMkO C sp [] ta) σ H Q := q
theorem k_mkFx {v : V} {H1 : Hp} {Q : VK} (k : ∀ H2, Same H1 H2 → Q v H2) : rMkO C (spXI C f) [v] H1 fun cls d H1 => ∃ (dd : Addr) (fs : List (Str × V)) (v : V), cls = .ref C ∧ d = some dd ∧ H1 dd = some (.xd fs) ∧ fs.lookup f = some v ∧ Q v H1 :=
  k_mkx fun d H2 _ s hd => ⟨d, _, v, rfl, rfl, hd, by simp [List.lookup], k H2 s⟩
/-- tuples of ints, < -/
theorem op_ltTK {K : PySem.W.Frag} {k : Nat} (h : X.K = K) (hr : Room k X.A) : OpR X (compareOp .Lt) (rLtT K) := h ▸ op_ltT (by have := hr.units; omega)
theorem k_ltT {K : PySem.W.Frag} {H : Hp} {Q : VK} {a b : Addr} {ns ms : List Int} (ha : SqT K H a (ns.map V.int)) (hb : SqT K H b (ms.map V.int)) (q : Q (.bl (HT.lexLt ns ms)) H) : rLtT K (.ref a) (.ref b) H Q := ⟨a, b, ns, ms, rfl, rfl, ha, hb, q⟩
theorem k_clear {H : Hp} {Q : VK} {l : Addr} {xs : List V} (h : H l = some (.lst xs)) (q : ∀ H', But l H H' → H' l = some (.lst []) → Q .non H') : rClear (.ref l) [] H Q := ⟨l, xs, rfl, rfl, h, q _ But.upd upd_same⟩
end
/-- while, its test by what it gives -/
theorem k_whileT {tc : TT} {tb : TS} {D : Ends} {σ : L2.St} {H : Hp} (P : Nat → L2.St → Hp → Prop) (R : Nat → L2.St → Bool → Hp → Prop) (m : Nat) (h0 : P m σ H) (ht : ∀ m σ H, P m σ H → ∀ Q : Bool → Hp → Prop, (∀ b H', R m σ b H' → Q b H') → tc σ H Q)
    (hb : ∀ m σ H, R m σ true H → tb { D with nx := Less P m, ct := Less P m, bk := D.nx } σ H) (hd : ∀ m σ H, R m σ false H → D.nx σ H) : tWhile tc tb D σ H := k_while P m h0 fun m σ H p => ht m σ H p _ fun b H' r => by
  cases b with
  | true => exact k_ifT (k_wN (hb m σ H' r))
  | false => exact k_ifF (hd m σ H' r)
/-! a tuple and a list walked side by side -/
def Itm (K : PySem.W.Frag) (a b : Addr) : It where
  go i H := ∃ xs ys x y, SqT K H a xs ∧ SqL K H b ys ∧ xs[i]? = some x ∧ ys[i]? = some y
  yld i H v H' := ∃ T x y, v = .ref T ∧ H T = none ∧ H' = upd H T (.tup [x, y]) ∧ (∀ xs, SqT K H a xs → xs[i]? = some x) ∧ ∀ ys, SqL K H b ys → ys[i]? = some y
  stop i H := ∃ xs ys, SqT K H a xs ∧ SqL K H b ys ∧ xs.length = i ∧ ys.length = i
def ZmSt (z TI TO i1 i2 a b : Addr) (i : Nat) (h : Heap) : Prop := IsZip h z TI TO .none ∧ IsTupOf2 h TI (.ref i1) (.ref i2) ∧ (∃ x y, IsTupOf2 h TO x y) ∧ h.IsTupleIter i1 a i ∧ h.IsListIter i2 b i
theorem zm_obj {z TI TO i1 i2 a b : Addr} {i : Nat} {h : Heap} (st : ZmSt z TI TO i1 i2 a b i h) {c : Addr} (hc : c ∈ [z, TI, TO, i1, i2]) : ∃ o, h.get? c = some o ∧ ∀ v, o.data ≠ .cell v := by
  obtain ⟨s1, s2, ⟨_, _, s3⟩, ⟨o4, e4, _, d4⟩, ⟨o5, e5, _, d5⟩⟩ := st
  simp only [List.mem_cons, List.not_mem_nil, or_false] at hc
  rcases hc with rfl | rfl | rfl | rfl | rfl
  · exact ⟨_, s1, fun _ => nofun⟩
  · exact ⟨_, s2, fun _ => nofun⟩
  · exact ⟨_, s3, fun _ => nofun⟩
  · exact ⟨o4, e4, fun _ z => by rw [d4] at z; cases z⟩
  · exact ⟨o5, e5, fun _ z => by rw [d5] at z; cases z⟩
theorem turn_zipM {P : Program} {w : World} {K : PySem.W.Frag} {elts : List Expr} {kk : Nat} {tpos : Pos} {a b z TI TO i1 i2 : Addr} (S : ZipSep2 z TI TO i1 i2 [i1, a] [i2, b]) (ha : a ≠ i1) (hb : b ≠ i2) :
    Turn P w K (.Tuple elts kk tpos) (Itm K a b) [z, TI, TO, i1, i2] z (ZmSt z TI TO i1 i2 a b) where
  mem := by simp
  obj := fun i h st c hc => zm_obj st hc
  keep := fun i h h' st k => ⟨k z (by simp) _ st.1, k TI (by simp) _ st.2.1, (let ⟨x, y, e⟩ := st.2.2.1; ⟨x, y, k TO (by simp) _ e⟩), st.2.2.2.1.at fun o q => k i1 (by simp) o q, st.2.2.2.2.at fun o q => k i2 (by simp) o q⟩
  item := by
    intro X hP hw hK hc i pins s σ H E I hf st hg
    subst hP hw hK
    obtain ⟨xs, ys, x, y, qx, qy, ex, ey⟩ := hg
    obtain ⟨us, ru, pu, _⟩ := I.tuple qx
    obtain ⟨vs, rv, pv, _⟩ := I.list qy
    have hh : X.A.in1.handled = none := I.ok.hd hc
    have lu : i < us.length := by rw [← ru.length]; exact (List.getElem?_eq_some_iff.mp ex).1
    have lv : i < vs.length := by rw [← rv.length]; exact (List.getElem?_eq_some_iff.mp ey).1
    have W := WalksT.zipD2 (prog := X.prog) (w := X.w) (A := X.A) S (Draws.tuple hh i1 a ha us.toArray) (Draws.list hh i2 b hb vs.toArray)
    refine W.item i s _ E (by simp; omega) ⟨st.1, st.2.1, st.2.2.1, ⟨st.2.2.2.1, pu⟩, ⟨st.2.2.2.2, pv.isList⟩⟩ fun T vals h' tk hP hT ht hm hk => ?_
    obtain ⟨u, v, hu, hv, rfl⟩ := hP
    obtain ⟨u', hu', r1⟩ := ru.get ex
    obtain ⟨v', hv', r2⟩ := rv.get ey
    obtain rfl : u' = u := Option.some.inj (hu'.symm.trans (by simpa using hu))
    obtain rfl : v' = v := Option.some.inj (hv'.symm.trans (by simpa using hv))
    refine ⟨.ref T, rfl, W.go elts kk tpos i T { s with heap := h', toks := tk } _ E hm fun h2 st2 hk2 => ?_⟩
    have new : ObjOk X.prog X.w (upd H T (.tup [x, y])) h2 T (.tup [x, y]) := ⟨by show 2 ≤ sizeLine; decide, [u', v'], .cons r1 (.cons r2 .nil), ht.at fun o e => hk2 T o (W.apart i T h' hm) e⟩
    have I1 := I.turnedNew (t' := tk) (ch := [z, TI, TO, i1, i2]) (fun c o n e => hk2 c o (fun q => n (by simp at q ⊢; rcases q with h | h | h | h <;> simp [h])) (hk c o (fun q => n (by simp at q ⊢; rcases q with h | h | h | h <;> simp [h])) e)) hf hT new
    refine ⟨.ref T, _, I1, rfl, ⟨T, x, y, rfl, I.hok.fresh hT, rfl, fun l hl => by rw [I.tuple_inj hl qx]; exact ex, fun l hl => by rw [I.list_inj hl qy]; exact ey⟩, ⟨st2.1, st2.2.1, st2.2.2.1, st2.2.2.2.1.1, st2.2.2.2.2.1⟩, fun c hcm => ?_⟩
    obtain ⟨o, e, _⟩ := zm_obj st hcm
    rw [upd_ne (Nat.ne_of_lt (Nat.lt_of_lt_of_le (Heap.lt_size e) hT))]
    exact (hf c hcm).1
  done := by
    intro X hP hw hK hc i pins s σ H E I hf st hg
    subst hP hw hK
    obtain ⟨xs, ys, qx, qy, ex, ey⟩ := hg
    obtain ⟨us, ru, pu, _⟩ := I.tuple qx
    obtain ⟨vs, rv, pv, _⟩ := I.list qy
    have hh : X.A.in1.handled = none := I.ok.hd hc
    have lu : us.length = i := by rw [← ru.length]; exact ex
    have lv : vs.length = i := by rw [← rv.length]; exact ey
    have W := WalksT.zipD2 (prog := X.prog) (w := X.w) (A := X.A) S (Draws.tuple hh i1 a ha us.toArray) (Draws.list hh i2 b hb vs.toArray)
    rw [show min us.toArray.size vs.toArray.size = i by simp; omega] at W
    exact W.done s _ E ⟨st.1, st.2.1, st.2.2.1, ⟨st.2.2.2.1, pu⟩, ⟨st.2.2.2.2, pv.isList⟩⟩ fun h' tk hk => ⟨rfl, I.turnedL (t' := tk) (ch := [z, TI, TO, i1, i2]) (fun c o n e => hk c o (fun q => n (by simp at q ⊢; rcases q with h | h | h | h <;> simp [h])) e) hf⟩
  self := fun A i s Q E st h => wpAny_pyIter_zip st.1 h
def rZipM (K : PySem.W.Frag) (vs : List V) (H1 : Hp) (R : It → Hp → Prop) : Prop := ∃ a b xs ys, vs = [.ref a, .ref b] ∧ SqT K H1 a xs ∧ SqL K H1 b ys ∧ R (Itm K a b) H1
def iZipM (K : PySem.W.Frag) (ta : TA) : TI := fun σ H R => ta σ H fun vs H1 => rZipM K vs H1 R
theorem pi_zipM {X : Cx} {K : PySem.W.Frag} {e e2 : Expr} {ta : TA} {p pos tpos : Pos} {elts : List Expr} {kk : Nat} (h : X.K = K) (hg : Gl X "zip") (hm : X.mg "zip" = none) (ha : PA X [e, e2] ta)
    (hs : starEach [e, e2] X.env = (false, eval e X.env) :: starEach [e2] X.env := by rfl) (hpl : (backTo pos (starEach [e2] X.env)).any (·.1) = false := by rfl) :
    PI X (.Tuple elts kk tpos) (.Call (.Name "zip" p) [e, e2] [] pos) (iZipM K ta) := by
  subst h
  refine ⟨fun pins s σ H R I h => Call_ (ld_blt I hg hm PyProof.Rows.boot_zip (PyProof.Rows.callWith_type1 (thn (ha.run pos pins s σ H _ I h) fun us s1 z => ?_) hs hpl))⟩
  obtain ⟨vs, H1, I1, r1, a, b, xs, ys, rfl, qx, qy, q⟩ := z
  cases r1 with
  | cons ra rr =>
    obtain ⟨ub, rfl, rb⟩ := vals1 rr
    cases ra
    cases rb
    obtain ⟨us, ru, pu, _⟩ := I1.tuple qx
    obtain ⟨vs, rv, pv, _⟩ := I1.list qy
    have la : a < s1.heap.objs.size := by obtain ⟨_, e, _⟩ := id pu; exact Heap.lt_size e
    refine zip_begins2 (begins_tuple a us.toArray) (begins_list b vs.toArray) pu pv.isList fun h' hz hTI hTO g1 g2 hsz hk => wpAny_pyIter_zip hz ?_
    have S := zip_sep2 (N := s1.heap.objs.size) (fp1 := [a]) (fp2 := [b]) (fun c hc => by rw [List.mem_singleton.mp hc]; exact la) (fun c hc => by rw [List.mem_singleton.mp hc]; exact pv.lt)
    refine ⟨_, _, _, _, H1, rfl, I1.kept (t' := s1.toks) hk, turn_zipM S (Nat.ne_of_lt la) (Nat.ne_of_lt (Nat.lt_succ_of_lt pv.lt)), ⟨hz, hTI, ⟨_, _, hTO⟩, ⟨_, g1, rfl, rfl⟩, ⟨_, g2, rfl, rfl⟩⟩, fun c hc => ?_, q⟩
    have hle : s1.heap.objs.size ≤ c := by
      simp only [List.mem_cons, List.not_mem_nil, or_false] at hc
      rcases hc with rfl | rfl | rfl | rfl | rfl
      · exact Nat.le_add_right _ 4
      · exact Nat.le_add_right _ 2
      · exact Nat.le_add_right _ 3
      · exact Nat.le_refl _
      · exact Nat.le_add_right _ 1
    exact I1.fpOk hle (I1.hok.fresh hle)
theorem k_iZipM {K : PySem.W.Frag} {ta : TA} {σ : L2.St} {H : Hp} {R : It → Hp → Prop} (q : ta σ H fun vs H1 => rZipM K vs H1 R) : iZipM K ta σ H R := q
theorem k_zipMx {K : PySem.W.Frag} {H : Hp} {R : It → Hp → Prop} {a b : Addr} {xs ys : List V} (hx : SqT K H a xs) (hy : SqL K H b ys) (q : R (Itm K a b) H) : rZipM K [.ref a, .ref b] H R := ⟨a, b, xs, ys, rfl, hx, hy, q⟩
theorem zipM_it {K : PySem.W.Frag} {a b : Addr} {xs ys : List V} (hl : xs.length = ys.length) : PairIt (Itm K a b) xs.length (fun i => xs.getD i .non) (fun i => ys.getD i .non) (fun H => SqT K H a xs ∧ SqL K H b ys) where
  go := fun i H h c => ⟨xs, ys, _, _, h.1, h.2, get_some c, get_some (by omega)⟩
  stop := fun H h => ⟨xs, ys, h.1, h.2, rfl, hl.symm⟩
  yld := fun i H x H' h c ⟨T, y, z, e, hT, eH, hy, hz⟩ => ⟨T, e, hT, by
    have e1 := hy xs h.1
    have e2 := hz ys h.2
    rw [get_some c] at e1
    rw [get_some (by omega)] at e2
    rw [eH, Option.some.inj e1, Option.some.inj e2]⟩
/-! a tuple made of a list, known to be bare; its count -/
def SqF (H : Hp) (a : Addr) (xs : List V) : Prop := ∃ o, H a = some (.frz o (.tup xs)) ∧ o.dict = none
theorem SqF.sq {K : PySem.W.Frag} {H : Hp} {a : Addr} {xs : List V} (h : SqF H a xs) : SqT K H a xs := let ⟨o, e, _⟩ := h; .inl (.inr ⟨o, e⟩)
theorem SqF.same {H H' : Hp} (e : Same H H') {a : Addr} {xs : List V} (h : SqF H a xs) : SqF H' a xs := let ⟨o, g, d⟩ := h; ⟨o, e _ _ g, d⟩
theorem SqF.but {H H' : Hp} {l : Addr} {ys : List V} (e : But l H H') (hl : H l = some (.lst ys)) {a : Addr} {xs : List V} (h : SqF H a xs) : SqF H' a xs := let ⟨o, g, d⟩ := h; ⟨o, e _ _ (ne_of g hl (by intro z; cases z)) g, d⟩
def rTupF (K : PySem.W.Frag) : List V → Hp → VK → Prop := fun xs H Q => ∃ p ys, xs = [.ref p] ∧ SqL K H p ys ∧ ∀ l o, H l = none → o.dict = none → Q (.ref l) (upd H l (.frz o (.tup ys)))
theorem call_tupF {X : Cx} : CallR X (.type "tuple") (rTupF X.K) := by
  rintro pins s σ H xs us Q I r ⟨p, ys, rfl, hq, q⟩
  obtain ⟨u, rfl, rx⟩ := vals1 r
  cases rx
  obtain ⟨its, ri, pl, hz⟩ := I.list hq
  have hlen := ri.length
  refine call_tuple_list pl.isList (fun h' kp => ?_) (by simp only [List.size_toArray]; omega)
  have I1 := I.kept (t' := s.toks) kp
  have e := Heap.get?_push_size h' (o := { cls := .type "tuple", data := .seq its.toArray }) rfl
  exact ⟨.ref h'.objs.size, _, I1.laid (t' := s.toks) (fun b o e => Heap.get?_push_of_some _ e) (Nat.le_refl _) (show ObjOk X.prog X.w _ _ _ (.frz _ (.tup ys)) from ⟨e, hz, its, ri, IsTup.new _ _⟩), rfl, q _ _ (I1.hok.fresh (Nat.le_refl _)) rfl⟩
def rTupV (K : PySem.W.Frag) : List V → Hp → VK → Prop := fun xs H Q => rTupU K xs H Q ∨ rTupF K xs H Q
theorem call_tupV {X : Cx} : CallR X (.type "tuple") (rTupV X.K) := fun pins s σ H xs us Q I r h => h.elim (call_tupU pins s σ H xs us Q I r) (call_tupF pins s σ H xs us Q I r)
theorem k_tupF {K : PySem.W.Frag} {H : Hp} {Q : VK} {p : Addr} {xs : List V} (h : SqL K H p xs) (q : ∀ l H', H l = none → Same H H' → SqF H' l xs → Q (.ref l) H') : rTupV K [.ref p] H Q := .inr ⟨p, xs, rfl, h, fun l o hl d => q l _ hl (same_new hl) ⟨o, upd_same, d⟩⟩
theorem k_tupL {K : PySem.W.Frag} {H : Hp} {Q : VK} {p : Addr} {xs : List V} (h : SqL K H p xs) (q : ∀ l H', H l = none → Same H H' → H' l = some (.tup xs) → Q (.ref l) H') : rTupV K [.ref p] H Q := .inl ⟨p, xs, rfl, .inl ⟨h, fun l hl => q l _ hl (same_new hl) upd_same⟩⟩
theorem k_tupT {K : PySem.W.Frag} {H : Hp} {Q : VK} {p : Addr} {xs : List V} (h : SqT K H p xs) (q : Q (.ref p) H) : rTupV K [.ref p] H Q := .inl ⟨p, xs, rfl, .inr ⟨h, q⟩⟩
def rCntT (K : PySem.W.Frag) (x y : V) (H : Hp) (Q : VK) : Prop := ∃ p xs d ds, x = .ref p ∧ SqT K H p xs ∧ DpAll K H xs ds ∧ Dp K H y d ∧ PyData.plainAll ds = true ∧ d.plain = true ∧ PyData.depthAll ds ≤ 32 ∧ Q (.int ((ds.countP fun z => PyData.eqv z d : Nat) : Int)) H
def rBare (x : V) (H : Hp) (P : Prop) : Prop := (∃ p xs, x = .ref p ∧ SqF H p xs) ∧ P
def tCntT (K : PySem.W.Frag) (to te : TE) : TE := fun σ H Q => to σ H fun x H1 => rBare x H1 (te σ H1 fun y H2 => rCntT K x y H2 Q)
theorem pe_cntT {X : Cx} {K : PySem.W.Frag} {k : Nat} {o e : Expr} {to te : TE} {apos cpos : Pos} (h : X.K = K) (hr : Room k X.A) (ho : PE X o to) (he : PE X e te)
    (hb : attributeBase o "count" X.env (eval o X.env) = eval o X.env := by rfl)
    (hw : ((backTo cpos (starEach [e] X.env)).all (fun x => !x.1) && (backToKw cpos (keywordEach [] X.env)).all (fun x => x.1.isSome) && decide ([e].length + ([] : List Keyword).length + (if ([] : List Keyword).isEmpty then 0 else 1) < 30)) = true := by rfl)
    (hn : (apos.endLine == cpos.line) = true := by rfl) (hs : starEach [e] X.env = (false, eval e X.env) :: starEach [] X.env := by rfl) :
    PE X (.Call (.Attribute o "count" apos) [e] [] cpos) (tCntT K to te) := by
  subst h
  refine ⟨fun pins s σ H Q I h => wpAny_Call_method_late hb hw hn rfl (thn (ho.run pins s σ H _ I h) fun v s1 z => ?_)⟩
  obtain ⟨x, H1, I1, r1, ⟨p, xs, rfl, ob, ep, dn⟩, q⟩ := z
  cases r1
  obtain ⟨hp, _, its, _, o2, e2, c2, _⟩ := I1.hok p _ ep
  obtain rfl : ob = o2 := Option.some.inj (hp.symm.trans e2)
  refine ⟨"tuple", "tuple.count", PySem.F.plainAttrs_tuple, PySem.F.slot_tuple_count, PySem.F.type_tuple_count, ⟨_, hp, c2⟩, fun a ea => ?_, ?_⟩
  · cases ea
    exact ⟨_, hp, dn⟩
  rw [hs]
  refine Calls.callWith_builtin rfl (Calls.evalArgs_plain (Calls.spliced_cons (thn (he.run pins s1 σ H1 _ I1 q) fun u s2 z => Calls.spliced_nil ?_)))
  obtain ⟨y, H2, I2, r2, p2, ys, d, ds, ex, hq, da, dy, pl, pd, dp, q2⟩ := z
  cases ex
  obtain ⟨vs, rv, pt, _⟩ := I2.tuple hq
  obtain ⟨as, h4⟩ := Dp.readsAll I2 ds _ vs da rv
  obtain ⟨bs, h5⟩ := Dp.reads I2 d y u dy r2
  exact PySem.SeqAt.count_tuple_data pt (show ReadsAll s2.heap vs.toArray.toList ds as from h4) h5 pl pd (by have := hr.units; omega) ⟨.int ((ds.countP fun z => PyData.eqv z d : Nat) : Int), H2, I2.tok _, ⟨_, rfl⟩, q2⟩
theorem k_cntT {K : PySem.W.Frag} {to te : TE} {σ : L2.St} {H : Hp} {Q : VK} (q : to σ H fun x H1 => rBare x H1 (te σ H1 fun y H2 => rCntT K x y H2 Q)) : tCntT K to te σ H Q := q
theorem k_bare {p : Addr} {xs : List V} {H : Hp} {P : Prop} (h : SqF H p xs) (q : P) : rBare (.ref p) H P := ⟨⟨p, xs, rfl, h⟩, q⟩
theorem k_cntTx {K : PySem.W.Frag} {H : Hp} {Q : VK} {p : Addr} {xs : List V} {y : V} {d : PyData} {ds : List PyData} (hq : SqT K H p xs) (da : DpAll K H xs ds) (dy : Dp K H y d) (pl : PyData.plainAll ds = true) (pd : d.plain = true) (dp : PyData.depthAll ds ≤ 32)
    (q : Q (.int ((ds.countP fun z => PyData.eqv z d : Nat) : Int)) H) : rCntT K (.ref p) y H Q := ⟨p, xs, d, ds, rfl, hq, da, dy, pl, pd, dp, q⟩
/-! sorted, insert -/
def rSortU (K : PySem.W.Frag) : List V → Hp → VK → Prop := rSorted K
theorem k_sorted {K : PySem.W.Frag} {H : Hp} {Q : VK} {a : Addr} {ns : List Int} (h : SqL K H a (ns.map V.int)) (c : ns.length < 64) (q : ∀ (ms : List Int) p H', H p = none → Same H H' → ms.Perm ns → ms.Pairwise (· ≤ ·) → H' p = some (.lst (ms.map V.int)) → Q (.ref p) H') : rSorted K [.ref a] H Q :=
  ⟨a, ns, rfl, h, c, fun ms p pm pw hp => q ms p _ hp (same_new hp) pm pw upd_same⟩
def rIns : V → List V → Hp → VK → Prop := fun x vs H Q => ∃ (l : Addr) (xs : List V) (i : Int) (y : V), x = .ref l ∧ vs = [.int i, y] ∧ H l = some (.lst xs) ∧ xs.length < sizeLine ∧ 0 ≤ i ∧ i < 2 ^ 63 ∧ Q .non (upd H l (.lst (xs.take i.toNat ++ [y] ++ xs.drop i.toNat)))
theorem mt_insU {X : Cx} : MtR X "list.insert" rIns := mt_insert
theorem k_ins {l : Addr} {xs : List V} {i : Int} {y : V} {H : Hp} {Q : VK} (h : H l = some (.lst xs)) (c : xs.length < sizeLine) (i0 : 0 ≤ i) (i1 : i < 2 ^ 63) (q : ∀ H', But l H H' → H' l = some (.lst (xs.take i.toNat ++ [y] ++ xs.drop i.toNat)) → Q .non H') : rIns (.ref l) [.int i, y] H Q := ⟨l, xs, i, y, rfl, rfl, h, c, i0, i1, q _ But.upd upd_same⟩
theorem pmkOK {X : Cx} {K : PySem.W.Frag} {e : Expr} {es : List Expr} {ta : TA} {p pos : Pos} {x : Str} {ps : List Str} {sp : Sp} {j k : Nat} (hK : X.K = K) (c : XCl X.prog X.w K X.mg X.base k x ps sp) (hr : Room j X.A) (hk : k + 1 ≤ j) (ha : PA X (e :: es) ta) (hg : Gl X x := by rfl)
    (hdb : (x == ("__debug__" : Str)) = false := by decide) (hs : starEach (e :: es) X.env = (false, eval e X.env) :: starEach es X.env := by rfl) (hpl : (backTo pos (starEach es X.env)).any (·.1) = false := by rfl) :
    PMk X (.Call (.Name x p) (e :: es) [] pos) (tMkO (He.ga K x) sp [] ta) := by
  subst hK
  exact pmkO c hr hk ha hg hdb hs hpl
/-! the head's hook: what the names reach, the interpreter's statics (a class's own attributes are read by them), and a word more -/
def reachS (g : Addr → Option Obj) (n : Nat) : List Addr := He.asD g n ++ [PySem.cStatics]
def obsS (n : Nat) (fa : List He.Fa) (fn : List He.DefD) (ex : PySem.W.Frag → Bool) (g : Addr → Option Obj) : He.AlD × Bool := (He.obsD fa fn (He.frT g (reachS g n)), ex (He.frT g (reachS g n)))
def hookS (n : Nat) (fa : List He.Fa) (fn : List He.DefD) (ex : PySem.W.Frag → Bool) : PySem.W.Hook where
  α := He.AlD × Bool
  obs s := obsS n fa fn ex s.heap.get?
  val _ := (He.valD fn, true)
  says _ h := ∃ K : PySem.W.Frag, K.In h ∧ He.SaysD fa fn K ∧ ex K = true
  of _ _ e := ⟨_, He.frT_in, congrArg (fun z : He.AlD × Bool => z.1) e, congrArg (fun z : He.AlD × Bool => z.2) e⟩
  keeps := fun _ _ _ ⟨K, hK, c⟩ k => ⟨K, PySem.W.Frag.In.keeps hK k, c⟩
theorem obsS_eq {n : Nat} {fa : List He.Fa} {fn : List He.DefD} {ex : PySem.W.Frag → Bool} {g : Addr → Option Obj} {s : Shared} (h : ∀ a, g a = s.heap.get? a) : obsS n fa fn ex g = (hookS n fa fn ex).obs s := by
  obtain rfl : g = s.heap.get? := funext h
  rfl
end Gx
open PySem PySem.Spec PyProof.Rows L2 Gx
local macro_rules | `(tactic| walk_at "s1") => `(tactic| first
  | refine k_var rfl ?_ | refine k_c ?_ | refine k_op ?_ | refine k_seq ?_ | refine k_asg ?_ | refine k_gn ?_ | refine k_gcons ?_ | refine k_gnil ?_ | refine k_ifs ?_ | refine k_tst ?_ | refine k_B ?_ | refine k_bl ?_
  | refine k_ret ?_ | refine k_drop ?_ | refine k_next ?_ | refine k_par ?_ | refine k_two ?_ | refine k_for ?_ | refine k_iRng1 ?_ | refine k_iRng2 ?_ | refine k_iList ?_ | refine k_iTup ?_ | refine k_iSeqU ?_
  | refine k_cb ?_ | refine k_cons ?_ | refine k_nil ?_ | refine k_callS ?_ | refine k_call ?_ | refine k_tup0 ?_ | refine k_lst0 ?_ | refine k_bm0 ?_ | refine k_bm ?_
  | refine k_and ?_ | refine k_or ?_ | refine k_not ?_ | refine k_andV ?_ | refine k_orV ?_ | refine k_notV ?_ | refine k_ife ?_ | refine k_chain ?_ | refine k_un ?_ | refine k_rev ?_
  | refine k_I0 ?_ | refine k_addI ?_ | refine k_eqI ?_ | refine k_neI ?_ | refine k_eqT ?_ | refine k_neT ?_ | refine k_eqB ?_ | refine k_neB ?_ | refine k_neg ?_
  | refine k_fld ?_ | refine k_sfld ?_ | refine k_meth ?_ | refine k_make ?_ | refine k_makeB ?_ | refine k_iEnum ?_ | refine k_isBl ?_ | refine k_notBl ?_ | refine k_lenSetT ?_ | refine k_mk0 ?_ | refine k_mkF ?_ | refine k_iZipM ?_ | refine k_cntT ?_ | refine k_veI ?_ | refine k_ost ?_ | refine k_xf ?_ | refine k_aug rfl ?_ | refine k_ip ?_ | refine k_gsub ?_ | refine k_m1 ?_ | refine k_m0 ?_ | refine k_isS ?_ | refine k_abs ?_ | refine k_max ?_ | refine k_min ?_ | refine k_intI ?_ | refine k_intB ?_ | refine k_lc ?_ | refine k_yes ?_ | refine k_listRg ?_ | refine k_rg1 ?_ | refine k_sl ?_ | refine k_part ?_ | refine k_noPart ?_ | refine k_int ?_ | refine k_dict0 ?_ | refine k_isN ?_ | refine k_notN ?_
  | refine k_ifT ?_ | refine k_ifF ?_ | refine k_ifnT ?_ | refine k_ifnF ?_)
local macro_rules | `(tactic| walk_at "s2") => `(tactic| first
  | refine k_powc (a := 10) (b := 61) (c := 10000000000000000000000000000000000000000000000000000000000000) (by decide +kernel) (cpow (by decide) (by decide) (by decide)) ?_
  | refine k_powc (a := 10) (b := 60) (c := 1000000000000000000000000000000000000000000000000000000000000) (by decide +kernel) (cpow (by decide) (by decide) (by decide)) ?_
  | refine k_powc (a := 10) (b := 12) (c := 1000000000000) (by decide +kernel) (cpow (by decide) (by decide) (by decide)) ?_
  | refine k_powc (a := 10) (b := 5) (c := 100000) (by decide +kernel) (cpow (by decide) (by decide) (by decide)) ?_
  | refine k_powc (a := 10) (b := 6) (c := 1000000) (by decide +kernel) (cpow (by decide) (by decide) (by decide)) ?_
  | refine k_powc (a := 10) (b := 9) (c := 1000000000) (by decide +kernel) (cpow (by decide) (by decide) (by decide)) ?_
  | refine k_powc (a := 10) (b := 20) (c := 100000000000000000000) (by decide +kernel) (cpow (by decide) (by decide) (by decide)) ?_
  | refine k_powc (a := 10) (b := 50) (c := 100000000000000000000000000000000000000000000000000) (by decide +kernel) (cpow (by decide) (by decide) (by decide)) ?_
  | refine k_powc (a := 10) (b := 58) (c := 10000000000000000000000000000000000000000000000000000000000) (by decide +kernel) (cpow (by decide) (by decide) (by decide)) ?_
  | refine k_mod (by first | decide | omega) ?_
  | refine k_div (by first | decide | omega) (by first | decide +kernel | exact k_log (by omega)) ?_)
local macro_rules | `(tactic| walk_at "go") => `(tactic| repeat (first | with_reducible walk_at "s1" | with_reducible walk_at "s2"))
local macro_rules | `(tactic| walk_at "up") => `(tactic| first | assumption | (refine up_same (by assumption) ?_; walk_at "up") | (refine up_but (by assumption) (by first | assumption | (apply Ne.symm; assumption)) ?_; walk_at "up"))
local macro_rules | `(tactic| walk_at "ut") => `(tactic| first | assumption | exact SqT.of (by assumption) | (refine seqT_same (by assumption) ?_; walk_at "ut"))
local macro_rules | `(tactic| walk_at "ul") => `(tactic| first | assumption | exact SqL.of (by assumption) | (refine seqL_same (by assumption) ?_; walk_at "ul"))
local macro_rules | `(tactic| walk_at "n") => `(tactic| first | with_reducible walk_at "s1" | with_reducible walk_at "s2")
local macro_rules | `(tactic| walk_at "lk") => `(tactic| first | exact lk1 | (apply lkn; (decide +kernel); walk_at "lk"))
local macro_rules | `(tactic| walk_at "lz") => `(tactic| first | exact lk0 | (apply lkz; (decide +kernel); walk_at "lz"))
local macro_rules | `(tactic| walk_at "pf") => `(tactic| first | rfl | (rw [pfn]; (walk_at "pf"); (decide +kernel)) | (rw [pf1]; walk_at "pf") | (rw [pf0]; walk_at "pf"))
local macro_rules | `(tactic| walk_at "pl") => `(tactic| first | exact Nat.lt_of_lt_of_le pfl0 (by decide) | exact Nat.lt_of_lt_of_le (pfl pfl0) (by decide) | exact Nat.lt_of_lt_of_le (pfl (pfl pfl0)) (by decide) | exact Nat.lt_of_lt_of_le (pfl (pfl (pfl pfl0))) (by decide) | exact Nat.lt_of_lt_of_le (pfl (pfl (pfl (pfl pfl0)))) (by decide) | exact Nat.lt_of_lt_of_le (pfl (pfl (pfl (pfl (pfl pfl0))))) (by decide) | exact Nat.lt_of_lt_of_le (pfl (pfl (pfl (pfl (pfl (pfl pfl0)))))) (by decide) | exact Nat.lt_of_lt_of_le (pfl (pfl (pfl (pfl (pfl (pfl (pfl pfl0))))))) (by decide) | exact Nat.lt_of_lt_of_le (pfl (pfl (pfl (pfl (pfl (pfl (pfl (pfl pfl0)))))))) (by decide) | exact Nat.lt_of_lt_of_le (pfl (pfl (pfl (pfl (pfl (pfl (pfl (pfl (pfl pfl0))))))))) (by decide) | (simp; done))
namespace Dk
open PySem PySem.Spec PyProof.Rows L2
theorem at_map {ns : List Int} {i : Int} (h0 : 0 ≤ i) (h1 : i < ns.length) : ∃ z : Int, atI (ns.map V.int) i = some (.int z) := by
  obtain ⟨n, rfl⟩ : ∃ n : Nat, i = (n : Int) := ⟨i.toNat, by omega⟩
  have hl : n < ns.length := by omega
  exact ⟨ns[n], atI_nat (by simp [hl])⟩
theorem dp_all {K : PySem.W.Frag} {H : Hp} : ∀ ns : List Int, DpAll K H (ns.map V.int) (ns.map PyData.int)
  | [] => .nil
  | n :: r => .cons (.int n) (dp_all r)
theorem dp_ints {K : PySem.W.Frag} {H : Hp} {a : Addr} {ns : List Int} (h : SqL K H a (ns.map V.int)) : Dp K H (.ref a) (.list (ns.map PyData.int)) := .lst h (dp_all ns)
theorem shaped_ints (ns : List Int) : SeqAt.shaped (.list (ns.map PyData.int)) = true := by
  have h : ∀ l : List Int, PyData.canLayAll0 (l.map PyData.int) = true ∧ PyData.depthAll (l.map PyData.int) = 0 := fun l => by
    induction l with
    | nil => exact ⟨by simp [PyData.canLayAll0], by simp [PyData.depthAll]⟩
    | cons n r ih => exact ⟨by simp [PyData.canLayAll0, PyData.canLay0, ih.1], by simp [PyData.depthAll, PyData.depth, ih.2]⟩
  obtain ⟨h1, h2⟩ := h ns
  simp [SeqAt.shaped, PyData.canLay0, PyData.depth, h1, h2]
theorem eqv_nil (ns : List Int) : (!PyData.eqv (.list (ns.map PyData.int)) (.list [])) = !ns.isEmpty := by
  cases ns <;> simp [PyData.eqv, PyData.eqvAll]
theorem last (ds : List Int) (h : 0 < ds.length) : ∃ es e, ds = es ++ [e] := ⟨ds.dropLast, ds.getLast (by intro z; rw [z] at h; exact absurd h (by decide)), (List.dropLast_concat_getLast _).symm⟩
theorem last2 (ds : List Int) (h : 1 < ds.length) : ∃ es e2 e1, ds = es ++ [e2, e1] := by
  obtain ⟨fs, e1, rfl⟩ := last ds (by omega)
  obtain ⟨es, e2, rfl⟩ := last fs (by simp at h; omega)
  exact ⟨es, e2, e1, by simp⟩
theorem last3 (ds : List Int) (h : 2 < ds.length) : ∃ es e3 e2 e1, ds = es ++ [e3, e2, e1] := by
  obtain ⟨fs, e1, rfl⟩ := last ds (by omega)
  obtain ⟨es, e3, e2, rfl⟩ := last2 fs (by simp at h; omega)
  exact ⟨es, e3, e2, e1, by simp⟩
theorem sub {P : Int → Prop} {es r : List Int} (h : ∀ d ∈ es ++ r, P d) : ∀ d ∈ es, P d := fun d hd => h d (List.mem_append_left _ hd)
theorem shaped_tints (ns : List Int) : SeqAt.shaped (.tuple (ns.map PyData.int)) = true := by
  have h : ∀ l : List Int, PyData.canLayAll0 (l.map PyData.int) = true ∧ PyData.depthAll (l.map PyData.int) = 0 := fun l => by
    induction l with
    | nil => exact ⟨by simp [PyData.canLayAll0], by simp [PyData.depthAll]⟩
    | cons n r ih => exact ⟨by simp [PyData.canLayAll0, PyData.canLay0, ih.1], by simp [PyData.depthAll, PyData.depth, ih.2]⟩
  obtain ⟨h1, h2⟩ := h ns
  simp [SeqAt.shaped, PyData.canLay0, PyData.depth, h1, h2]
theorem emod_le {a b : Int} (h : 0 ≤ a) (hb : 0 < b) : a % b ≤ a := by
  have e := Int.emod_add_mul_ediv a b
  have z := Int.mul_nonneg (Int.le_of_lt hb) (Int.ediv_nonneg h (Int.le_of_lt hb))
  omega
end Dk
namespace Lw
open PySem PySem.Spec PyProof.Rows L2 Gx
/-- a deck: a new list of so many numbers, each from 0 on, of at most 61 figures -/
def Deck (ds : List Int) : Prop := ∀ d ∈ ds, 0 ≤ d ∧ d < 10000000000000000000000000000000000000000000000000000000000000
theorem Deck.last {es : List Int} {e : Int} (h : Deck (es ++ [e])) : Deck es ∧ 0 ≤ e ∧ e < 10000000000000000000000000000000000000000000000000000000000000 := ⟨fun d hd => h d (List.mem_append_left _ hd), h e (by simp)⟩
end Lw
namespace Dw
open PySem PySem.Spec PyProof.Rows L2
/-- draws through those that are left -/
def dr (again : Bool) : List Int → List Int → List Int → Option (List Int)
  | _, [], found => some found
  | left, n :: r, found => if 0 ≤ n ∧ n < (left.length : Int) then dr again (if again then left else left.eraseIdx n.toNat) r (found ++ [left.getD n.toNat 0]) else none
/-- 0, 1, .. -/
def rg (m : Nat) : List Int := (List.range m).map fun (i : Nat) => (i : Int)
theorem rg_len (m : Nat) : (rg m).length = m := by simp [rg]
theorem rgV_eq (m : Nat) : rgV 0 (m : Int) = (rg m).map V.int := by
  unfold rgV rg
  rw [List.map_map, show ((m : Int) - 0).toNat = m by omega]
  congr 1
  funext i
  show V.int (0 + (i : Int)) = V.int (i : Int)
  rw [Int.zero_add]
theorem dr_app {again : Bool} : ∀ {ns ms left found : List Int}, dr again left (ns ++ ms) found = match dr again left ns found with
    | none => none
    | some f => dr again ((fun (z : List Int) => z) (ns.foldl (fun (l : List Int) n => if again then l else l.eraseIdx n.toNat) left)) ms f
  | [], ms, left, found => rfl
  | n :: r, ms, left, found => by
    show (if 0 ≤ n ∧ n < (left.length : Int) then dr again (if again then left else left.eraseIdx n.toNat) (r ++ ms) (found ++ [left.getD n.toNat 0]) else none) = match (if 0 ≤ n ∧ n < (left.length : Int) then dr again (if again then left else left.eraseIdx n.toNat) r (found ++ [left.getD n.toNat 0]) else none) with
      | none => none
      | some f => dr again ((n :: r).foldl (fun (l : List Int) n => if again then l else l.eraseIdx n.toNat) left) ms f
    by_cases c : 0 ≤ n ∧ n < (left.length : Int)
    · rw [if_pos c, if_pos c]
      exact dr_app
    · rw [if_neg c, if_neg c]
/-- how many are left -/
def lf (again : Bool) (m k : Nat) : Int := (m : Int) - (k : Int) * (if again then 0 else 1)
theorem fold_len {again : Bool} : ∀ {ns left : List Int}, (∀ (k : Nat) (n : Int), ns[k]? = some n → 0 ≤ n ∧ n < (left.length : Int) - (k : Int) * (if again then 0 else 1)) →
    ((ns.foldl (fun (l : List Int) n => if again then l else l.eraseIdx n.toNat) left).length : Int) = (left.length : Int) - (ns.length : Int) * (if again then 0 else 1)
  | [], left, _ => by simp
  | n :: r, left, h => by
    have h0 := h 0 n rfl
    have l1 : (((if again then left else left.eraseIdx n.toNat) : List Int).length : Int) = (left.length : Int) - (if again then 0 else 1) := by
      cases again
      · show ((left.eraseIdx n.toNat).length : Int) = _
        rw [List.length_eraseIdx]
        simp at h0
        rw [if_pos (by omega)]
        simp
        omega
      · simp
    have ih := fold_len (again := again) (ns := r) (left := if again then left else left.eraseIdx n.toNat) fun k x hx => by
      have := h (k + 1) x hx
      rw [l1]
      cases again <;> simp at this ⊢ <;> omega
    show ((r.foldl _ (if again then left else left.eraseIdx n.toNat)).length : Int) = _
    rw [ih, l1]
    cases again <;> simp
    omega
theorem dr_ok {again : Bool} : ∀ {ns left found : List Int}, (∀ (k : Nat) (n : Int), ns[k]? = some n → 0 ≤ n ∧ n < (left.length : Int) - (k : Int) * (if again then 0 else 1)) → ∃ out, dr again left ns found = some out
  | [], left, found, _ => ⟨found, rfl⟩
  | n :: r, left, found, h => by
    have h0 := h 0 n rfl
    have h0' : 0 ≤ n ∧ n < (left.length : Int) := by simpa using h0
    show ∃ out, (if 0 ≤ n ∧ n < (left.length : Int) then _ else none) = some out
    rw [if_pos h0']
    refine dr_ok fun k x hx => ?_
    have := h (k + 1) x hx
    cases again
    · show 0 ≤ x ∧ x < ((left.eraseIdx n.toNat).length : Int) - _
      rw [List.length_eraseIdx, if_pos (by omega)]
      simp at this ⊢
      omega
    · simpa using this
/-- a bad number behind good ones -/
theorem dr_bad {again : Bool} {ns ms left found : List Int} {x : Int} (h : ∀ (k : Nat) (n : Int), ns[k]? = some n → 0 ≤ n ∧ n < (left.length : Int) - (k : Int) * (if again then 0 else 1)) (hx : x < 0 ∨ (left.length : Int) - (ns.length : Int) * (if again then 0 else 1) ≤ x) :
    dr again left (ns ++ x :: ms) found = none := by
  rw [dr_app]
  obtain ⟨out, e⟩ := dr_ok (found := found) h
  rw [e]
  show (if 0 ≤ x ∧ x < ((ns.foldl (fun (l : List Int) n => if again then l else l.eraseIdx n.toNat) left).length : Int) then _ else none) = none
  rw [fold_len h, if_neg (by omega)]
theorem seqIx {n : Int} {k : Nat} (h0 : 0 ≤ n) (h1 : n < (k : Int)) : seqIndex? n k = some n.toNat := by
  unfold seqIndex?
  show (if (decide (0 ≤ (if n < 0 then n + (k : Int) else n)) && decide ((if n < 0 then n + (k : Int) else n) < (k : Int))) = true then some (if n < 0 then n + (k : Int) else n).toNat else none) = _
  rw [if_neg (show ¬ n < 0 by omega), decide_eq_true h0, decide_eq_true h1]
  rfl
theorem erase_map {α β : Type} (f : α → β) : ∀ (l : List α) (k : Nat), (l.map f).eraseIdx k = (l.eraseIdx k).map f
  | [], _ => rfl
  | _ :: _, 0 => rfl
  | a :: l, k + 1 => congrArg (fun z => f a :: z) (erase_map f l k)
end Dw
namespace D24
open PySem PySem.Spec PyProof.Rows L2 Dw
/-- those of a list that aren't gone -/
def ng (g l : List Int) : List Int := l.filter fun x => !g.contains x
theorem rg_succ (n : Nat) : rg (n + 1) = rg n ++ [(n : Int)] := by simp [rg, List.range_succ]
theorem mem_rg {n : Nat} {x : Int} : x ∈ rg n ↔ 0 ≤ x ∧ x < (n : Int) := by
  simp [rg]
  constructor
  · rintro ⟨k, h, rfl⟩; omega
  · rintro ⟨h0, h1⟩; exact ⟨x.toNat, by omega, by omega⟩
theorem cnt_in {g : List Int} {b : Nat} (h : (b : Int) ∈ g) : ng g (rg (b + 1)) = ng g (rg b) := by
  unfold ng
  rw [rg_succ, List.filter_append]
  simp [h]
theorem cnt_out {g : List Int} {b : Nat} (h : (b : Int) ∉ g) : ng g (rg (b + 1)) = ng g (rg b) ++ [(b : Int)] := by
  unfold ng
  rw [rg_succ, List.filter_append]
  simp [h]
/-- the numbers from b on -/
def up (b : Nat) : Nat → List Int
  | 0 => []
  | k + 1 => (b : Int) :: up (b + 1) k
theorem rg_up : ∀ (k b : Nat), rg (b + k) = rg b ++ up b k
  | 0, b => by simp [up]
  | k + 1, b => by
    rw [show b + (k + 1) = (b + 1) + k by omega, rg_up k (b + 1), rg_succ]
    simp [up]
theorem mem_up : ∀ {k b : Nat} {x : Int}, x ∈ up b k → (b : Int) ≤ x
  | k + 1, b, x, h => by
    rcases List.mem_cons.mp h with e | h
    · omega
    · have := mem_up h; omega
theorem rg_split {b m : Nat} (h : b < m) : rg m = rg b ++ (b : Int) :: up (b + 1) (m - b - 1) := by
  have e := rg_up (m - b) b
  rw [show b + (m - b) = m by omega] at e
  rw [e]
  congr 1
  rw [show m - b = (m - b - 1) + 1 by omega]
  rfl
theorem ng_split {g : List Int} {b m : Nat} (h : b < m) (hg : (b : Int) ∉ g) : ng g (rg m) = ng g (rg b) ++ (b : Int) :: ng g (up (b + 1) (m - b - 1)) := by
  unfold ng
  rw [rg_split h, List.filter_append, List.filter_cons]
  simp [hg]
theorem ng_le {g : List Int} {b m : Nat} (h : b ≤ m) : (ng g (rg b)).length ≤ (ng g (rg m)).length := by
  have e := rg_up (m - b) b
  rw [show b + (m - b) = m by omega] at e
  unfold ng
  rw [e, List.filter_append, List.length_append]
  omega
theorem at_ {g : List Int} {b m n : Nat} (h : b < m) (hg : (b : Int) ∉ g) (e : (ng g (rg b)).length = n) : (ng g (rg m)).getD n 0 = (b : Int) := by
  rw [ng_split h hg, ← e]
  simp
theorem erase_ {g : List Int} {b m n : Nat} (h : b < m) (hg : (b : Int) ∉ g) (e : (ng g (rg b)).length = n) : (ng g (rg m)).eraseIdx n = ng (g ++ [(b : Int)]) (rg m) := by
  have h1 : ng (g ++ [(b : Int)]) (rg b) = ng g (rg b) := by
    unfold ng
    refine List.filter_congr fun x hx => ?_
    have := mem_rg.mp hx
    have hne : ¬ x = (b : Int) := by omega
    simp [hne]
  have h2 : ng (g ++ [(b : Int)]) (up (b + 1) (m - b - 1)) = ng g (up (b + 1) (m - b - 1)) := by
    unfold ng
    refine List.filter_congr fun x hx => ?_
    have := mem_up hx
    have hne : ¬ x = (b : Int) := by omega
    simp [hne]
  have e2 : ng (g ++ [(b : Int)]) (rg m) = ng (g ++ [(b : Int)]) (rg b) ++ ng (g ++ [(b : Int)]) (up (b + 1) (m - b - 1)) := by
    unfold ng
    rw [rg_split h, List.filter_append, List.filter_cons]
    simp
  rw [e2, h1, h2, ng_split h hg, ← e, List.eraseIdx_append_of_length_le (Nat.le_refl _)]
  simp
theorem in_ints {x : Int} {g : List Int} : inV (.int x) (g.map V.int) = g.contains x := by
  unfold inV
  induction g with
  | nil => rfl
  | cons a r ih =>
    rw [List.map_cons, List.any_cons, ih, List.contains_cons]
    congr 1
    show (a == x) = (x == a)
    by_cases h : a = x
    · simp [h]
    · have h2 : ¬ x = a := fun z => h z.symm
      rw [beq_eq_false_iff_ne.mpr h, beq_eq_false_iff_ne.mpr h2]
theorem flat_ints (g : List Int) : (g.map V.int).all flatV = true := by
  induction g with
  | nil => rfl
  | cons a r ih => rw [List.map_cons, List.all_cons, ih]; rfl
end D24
namespace Ct
open PySem PySem.Spec PyProof.Rows L2
theorem to {xs : List V} {k : Nat} (h : k ≤ xs.length) : cutV xs none (some (k : Int)) = xs.take k := by
  unfold cutV
  rw [HT.sIx_none, HT.sIx_nat, Nat.min_eq_left h]
  simp
theorem from_ {xs : List V} {k : Nat} (h : k ≤ xs.length) : cutV xs (some (k : Int)) none = xs.drop k := by
  unfold cutV
  rw [HT.sIx_none, HT.sIx_nat, Nat.min_eq_left h]
  rw [List.take_of_length_le]
  simp
end Ct
namespace Dt
open PySem PySem.Spec PyProof.Rows L2 Gx
/-! shape, with its depth -/
def Sh (k : Nat) (d : PyData) : Prop := d.canLay0 = true ∧ d.depth ≤ k
theorem sh_int {k : Nat} (i : Int) : Sh k (.int i) := ⟨by simp [PyData.canLay0], by simp [PyData.depth]⟩
theorem sh_bl {k : Nat} (b : Bool) : Sh k (.bool b) := ⟨by simp [PyData.canLay0], by simp [PyData.depth]⟩
theorem sh_non {k : Nat} : Sh k .none := ⟨by simp [PyData.canLay0], by simp [PyData.depth]⟩
theorem sh_str {k : Nat} {x : Str} (h : PyData.strOk x = true) : Sh k (.str x) := ⟨by simpa [PyData.canLay0] using h, by simp [PyData.depth]⟩
theorem shAll {k : Nat} : ∀ {ds : List PyData}, (∀ d ∈ ds, Sh k d) → PyData.canLayAll0 ds = true ∧ PyData.depthAll ds ≤ k
  | [], _ => ⟨by simp [PyData.canLayAll0], by simp [PyData.depthAll]⟩
  | d :: ds, h => by
    obtain ⟨h1, h2⟩ := shAll fun x hx => h x (List.mem_cons_of_mem d hx)
    obtain ⟨g1, g2⟩ := h d (List.mem_cons_self ..)
    exact ⟨by simp [PyData.canLayAll0, g1, h1], by simp [PyData.depthAll]; omega⟩
theorem sh_tup {k : Nat} {ds : List PyData} (h : ∀ d ∈ ds, Sh k d) : Sh (k + 1) (.tuple ds) := by
  obtain ⟨h1, h2⟩ := shAll h
  exact ⟨by simpa [PyData.canLay0] using h1, by simp [PyData.depth]; omega⟩
theorem sh_lst {k : Nat} {ds : List PyData} (h : ∀ d ∈ ds, Sh k d) : Sh (k + 1) (.list ds) := by
  obtain ⟨h1, h2⟩ := shAll h
  exact ⟨by simpa [PyData.canLay0] using h1, by simp [PyData.depth]; omega⟩
theorem Sh.mono {k n : Nat} {d : PyData} (h : Sh k d) (e : k ≤ n) : Sh n d := ⟨h.1, Nat.le_trans h.2 e⟩
theorem Sh.ok {k : Nat} {d : PyData} (h : Sh k d) (e : k ≤ 64 := by decide) : SeqAt.shaped d = true := by
  unfold SeqAt.shaped
  rw [h.1, decide_eq_true (Nat.le_trans h.2 e)]
  rfl
theorem refl {k : Nat} {d : PyData} (h : Sh k d) : PyData.eqv d d = true := SeqAt.eqv_refl _ h.1
/-! data taken apart -/
variable {K : PySem.W.Frag} {H : Hp}
theorem tup {v : V} {ds : List PyData} (h : Dp K H v (.tuple ds)) : ∃ p xs, v = .ref p ∧ SqT K H p xs ∧ DpAll K H xs ds := by
  cases h with
  | tup a b => exact ⟨_, _, rfl, a, b⟩
theorem lst {v : V} {ds : List PyData} (h : Dp K H v (.list ds)) : ∃ p xs, v = .ref p ∧ SqL K H p xs ∧ DpAll K H xs ds := by
  cases h with
  | lst a b => exact ⟨_, _, rfl, a, b⟩
theorem int {v : V} {i : Int} (h : Dp K H v (.int i)) : v = .int i := by cases h; rfl
theorem str {v : V} {x : Str} (h : Dp K H v (.str x)) : v = .str x := by cases h; rfl
theorem bl {v : V} {b : Bool} (h : Dp K H v (.bool b)) : v = .bl b := by cases h; rfl
theorem non {v : V} (h : Dp K H v .none) : v = .non := by cases h; rfl
theorem len : ∀ {xs : List V} {ds : List PyData}, DpAll K H xs ds → xs.length = ds.length
  | _, _, .nil => rfl
  | _, _, .cons _ r => congrArg (· + 1) (len r)
theorem at_ : ∀ {xs : List V} {ds : List PyData} {i : Nat} {x : V}, DpAll K H xs ds → xs[i]? = some x → ∃ d, ds[i]? = some d ∧ Dp K H x d
  | _, _, 0, x, .cons (d := d) a r, e => ⟨d, rfl, (Option.some.inj e) ▸ a⟩
  | _, _, i + 1, x, .cons a r, e => at_ (i := i) r e
theorem at2 : ∀ {xs : List V} {ds : List PyData} {i : Nat} {d : PyData}, DpAll K H xs ds → ds[i]? = some d → ∃ x, xs[i]? = some x ∧ Dp K H x d
  | _, _, 0, d, .cons (v := v) a r, e => ⟨v, rfl, (Option.some.inj e) ▸ a⟩
  | _, _, i + 1, d, .cons a r, e => at2 (i := i) r e
theorem cons {x : V} {xs : List V} {d : PyData} {ds : List PyData} (h : DpAll K H (x :: xs) (d :: ds)) : Dp K H x d ∧ DpAll K H xs ds := by
  cases h with
  | cons a b => exact ⟨a, b⟩
theorem pair {v : V} {a b : PyData} (h : Dp K H v (.tuple [a, b])) : ∃ p x y, v = .ref p ∧ SqT K H p [x, y] ∧ Dp K H x a ∧ Dp K H y b := by
  obtain ⟨p, xs, rfl, s, g⟩ := tup h
  cases g with
  | cons h1 g =>
    cases g with
    | cons h2 g =>
      cases g
      exact ⟨p, _, _, rfl, s, h1, h2⟩
theorem app : ∀ {xs : List V} {ds : List PyData} {ys : List V} {es : List PyData}, DpAll K H xs ds → DpAll K H ys es → DpAll K H (xs ++ ys) (ds ++ es)
  | _, _, _, _, .nil, g => g
  | _, _, _, _, .cons a r, g => .cons a (app r g)
theorem take : ∀ {xs : List V} {ds : List PyData} (n : Nat), DpAll K H xs ds → DpAll K H (xs.take n) (ds.take n)
  | _, _, 0, _ => .nil
  | _, _, n + 1, .nil => .nil
  | _, _, n + 1, .cons a r => .cons a (take n r)
theorem drop : ∀ {xs : List V} {ds : List PyData} (n : Nat), DpAll K H xs ds → DpAll K H (xs.drop n) (ds.drop n)
  | _, _, 0, h => h
  | _, _, n + 1, .nil => .nil
  | _, _, n + 1, .cons a r => drop n r
theorem set : ∀ {xs : List V} {ds : List PyData} (n : Nat) {x : V} {d : PyData}, DpAll K H xs ds → Dp K H x d → DpAll K H (xs.set n x) (ds.set n d)
  | _, _, _, _, _, .nil, _ => .nil
  | _, _, 0, _, _, .cons a r, h => .cons h r
  | _, _, n + 1, _, _, .cons a r, h => .cons a (set n r h)
theorem two {x y : V} {a b : PyData} (h1 : Dp K H x a) (h2 : Dp K H y b) : DpAll K H [x, y] [a, b] := .cons h1 (.cons h2 .nil)
theorem intz (ns : List Int) : DpAll K H (ns.map V.int) (ns.map PyData.int) := Dk.dp_all ns
theorem strz : ∀ ns : List Str, DpAll K H (ns.map V.str) (ns.map PyData.str)
  | [] => .nil
  | n :: r => .cons (.str n) (strz r)
theorem of_strs : ∀ {xs : List V} {ns : List Str}, DpAll K H xs (ns.map PyData.str) → xs = ns.map V.str
  | _, [], .nil => rfl
  | _, n :: r, .cons a g => by rw [str a, of_strs g]; rfl
theorem of_ints : ∀ {xs : List V} {ns : List Int}, DpAll K H xs (ns.map PyData.int) → xs = ns.map V.int
  | _, [], .nil => rfl
  | _, n :: r, .cons a g => by rw [int a, of_ints g]; rfl
/-- the list's own data, once more where others are appended -/
theorem snoc {xs : List V} {ds : List PyData} {x : V} {d : PyData} (h : DpAll K H xs ds) (g : Dp K H x d) : DpAll K H (xs ++ [x]) (ds ++ [d]) := app h (.cons g .nil)
theorem noLs_of : ∀ {ds : List PyData}, (∀ d ∈ ds, noL d = true) → noLs ds = true
  | [], _ => by simp [noLs]
  | d :: ds, h => by simp [noLs, h d (List.mem_cons_self ..), noLs_of fun x hx => h x (List.mem_cons_of_mem d hx)]
theorem noL_tup {ds : List PyData} (h : ∀ d ∈ ds, noL d = true) : noL (.tuple ds) = true := by simpa [noL] using noLs_of h
/-! == of data, told -/
theorem eqv_int (a b : Int) : PyData.eqv (.int a) (.int b) = decide (a = b) := by simp [PyData.eqv]; by_cases h : a = b <;> simp [h]
theorem eqv_bl (a b : Bool) : PyData.eqv (.bool a) (.bool b) = decide (a = b) := by cases a <;> cases b <;> simp [PyData.eqv]
end Dt
namespace Cn
def fac (m : Int) (b : Bool) (i : Nat) : Int := if b then m else max 0 (m - (i : Int))
/-- so many draws -/
def cnt (m : Int) (b : Bool) : Nat → Int
  | 0 => 1
  | n + 1 => cnt m b n * fac m b n
theorem fac_small {m : Int} (h : m.natAbs < 2 ^ 20) (b : Bool) (i : Nat) : (fac m b i).natAbs < 2 ^ 20 := by
  unfold fac
  cases b
  · show (max 0 (m - (i : Int))).natAbs < 2 ^ 20
    omega
  · exact h
theorem cnt_small {m : Int} (h : m.natAbs < 2 ^ 20) (b : Bool) : ∀ i, (cnt m b i).natAbs < 2 ^ (20 * i + 1)
  | 0 => by show (1 : Int).natAbs < 2 ^ 1; decide
  | i + 1 => by
    show (cnt m b i * fac m b i).natAbs < _
    rw [Int.natAbs_mul, show 20 * (i + 1) + 1 = (20 * i + 1) + 20 by omega, Nat.pow_add]
    exact Nat.mul_lt_mul'' (cnt_small h b i) (fac_small h b i)
/-- the first factor taken out -/
theorem cnt_front (m : Int) (b : Bool) : ∀ n, cnt m b (n + 1) = fac m b 0 * cnt (m - (if b then 0 else 1)) b n
  | 0 => by
    show 1 * fac m b 0 = fac m b 0 * 1
    omega
  | n + 1 => by
    show cnt m b (n + 1) * fac m b (n + 1) = fac m b 0 * (cnt (m - (if b then 0 else 1)) b n * fac (m - (if b then 0 else 1)) b n)
    rw [cnt_front m b n, Int.mul_assoc]
    congr 2
    unfold fac
    cases b
    · show max 0 (m - ((n + 1 : Nat) : Int)) = max 0 (m - 1 - (n : Int))
      omega
    · show m = m - 0
      omega
theorem cnt_none {m : Int} (h0 : 0 ≤ m) : ∀ {n : Nat}, m < (n : Int) → cnt m false n = 0
  | 0, h => by omega
  | n + 1, h => by
    show cnt m false n * max 0 (m - (n : Int)) = 0
    by_cases c : m < (n : Int)
    · rw [cnt_none h0 c, Int.zero_mul]
    · rw [show max 0 (m - (n : Int)) = 0 by omega, Int.mul_zero]
end Cn
namespace Fr
open PySem PySem.Spec PyProof.Rows L2
/-- a fraction's two parts -/
abbrev fq (q : Rat) : List V := [.int q.num, .int (q.den : Int)]
def fqd (q : Rat) : PyData := .tuple [.int q.num, .int (q.den : Int)]
theorem dp_fq {K : PySem.W.Frag} {H : Hp} {p : Addr} {q : Rat} (h : SqT K H p (fq q)) : Dp K H (.ref p) (fqd q) := .tup h (.cons (.int _) (.cons (.int _) .nil))
theorem shaped_fq (q : Rat) : SeqAt.shaped (fqd q) = true := by simp [SeqAt.shaped, fqd, PyData.canLay0, PyData.canLayAll0, PyData.depth, PyData.depthAll]
theorem eqv_fq (x y : Rat) : PyData.eqv (fqd x) (fqd y) = decide (x = y) := by
  have e : PyData.eqv (fqd x) (fqd y) = (decide (x.num = y.num) && decide (x.den = y.den)) := by
    simp [fqd, PyData.eqv, PyData.eqvAll]
    by_cases h1 : x.num = y.num <;> by_cases h2 : x.den = y.den <;> simp [h1, h2] <;> omega
  rw [e]
  by_cases h : x = y
  · simp [h]
  · have : ¬ (x.num = y.num ∧ x.den = y.den) := fun z => h (Rat.ext z.1 z.2)
    simp [h]
    exact fun z w => this ⟨z, w⟩
/-! ### the greatest divisor -/
theorem gcd_fmod (a b : Int) : Int.gcd b (a.fmod b) = Int.gcd a b := by
  rw [Int.fmod_def, Int.gcd_sub_mul_left_right, Int.gcd_comm]
theorem fmod_nn (a : Int) {b : Int} (h : 0 < b) : 0 ≤ a.fmod b := by
  rw [Int.fmod_eq_emod_of_nonneg a (by omega)]
  exact Int.emod_nonneg _ (by omega)
theorem fmod_less {a b : Int} (h : b ≠ 0) : (a.fmod b).natAbs < b.natAbs := by
  rcases Int.lt_or_lt_of_ne h with c | c
  · have e : a.fmod b = -((-a).fmod (-b)) := by
      rw [Int.fmod_def, Int.fmod_def, Int.neg_fdiv_neg]
      have := Int.neg_mul b (a.fdiv b)
      omega
    have h1 := fmod_nn (-a) (show 0 < -b by omega)
    have h2 := Int.fmod_lt_of_pos (-a) (show 0 < -b by omega)
    omega
  · have h1 := fmod_nn a c
    have h2 := Int.fmod_lt_of_pos a c
    omega
/-- what lowest makes -/
theorem low_num {a b d : Int} (hb : b ≠ 0) (hd : d = if b < 0 then 0 - (Int.gcd a b : Int) else (Int.gcd a b : Int)) : a.fdiv d = (Rat.divInt a b).num := by
  have g0 : (0 : Int) < Int.gcd a b := by have := Int.gcd_pos_of_ne_zero_right a hb; omega
  obtain ⟨k, hk⟩ := Int.gcd_dvd_left a b
  rw [Rat.num_divInt, Int.gcd_comm b a]
  rcases Int.lt_or_lt_of_ne hb with c | c
  · rw [if_pos c] at hd
    rw [Int.sign_eq_neg_one_of_neg c]
    have e1 : a.fdiv d = -k := by
      have : a = d * (-k) := by rw [hd, Int.zero_sub, Int.neg_mul_neg]; exact hk
      rw [this]
      exact Int.mul_fdiv_cancel_left _ (by omega)
    have e2 : -1 * a / (Int.gcd a b : Int) = -k := by
      have : -1 * a = (Int.gcd a b : Int) * (-k) := by rw [Int.mul_neg, ← hk]; omega
      rw [this]
      exact Int.mul_ediv_cancel_left _ (by omega)
    rw [e1, e2]
  · rw [if_neg (by omega)] at hd
    rw [Int.sign_eq_one_of_pos c, Int.one_mul, hd, Int.fdiv_eq_ediv_of_nonneg a (by omega)]
theorem low_den {a b d : Int} (hb : b ≠ 0) (hd : d = if b < 0 then 0 - (Int.gcd a b : Int) else (Int.gcd a b : Int)) : b.fdiv d = ((Rat.divInt a b).den : Int) := by
  have g0 : (0 : Int) < Int.gcd a b := by have := Int.gcd_pos_of_ne_zero_right a hb; omega
  obtain ⟨k, hk⟩ := Int.gcd_dvd_right a b
  have e3 : ((Rat.divInt a b).den : Int) = (b.natAbs : Int) / (Int.gcd a b : Int) := by
    rw [Rat.den_divInt, if_neg hb, Int.gcd_comm b a]
    rfl
  rw [e3]
  rcases Int.lt_or_lt_of_ne hb with c | c
  · rw [if_pos c] at hd
    have e1 : b.fdiv d = -k := by
      have : b = d * (-k) := by rw [hd, Int.zero_sub, Int.neg_mul_neg]; exact hk
      rw [this]
      exact Int.mul_fdiv_cancel_left _ (by omega)
    have e2 : (b.natAbs : Int) / (Int.gcd a b : Int) = -k := by
      have : (b.natAbs : Int) = (Int.gcd a b : Int) * (-k) := by rw [Int.mul_neg, ← hk]; omega
      rw [this]
      exact Int.mul_ediv_cancel_left _ (by omega)
    rw [e1, e2]
  · rw [if_neg (by omega)] at hd
    rw [hd, Int.fdiv_eq_ediv_of_nonneg b (by omega)]
    congr 1
    omega
/-! ### sizes -/
def Sz (n : Nat) (q : Rat) : Prop := q.num.natAbs < 2 ^ n ∧ q.den < 2 ^ n
theorem pw {a b : Nat} (h : a ≤ b) : 2 ^ a ≤ 2 ^ b := Nat.pow_le_pow_right (by decide) h
theorem Sz.mono {m n : Nat} {q : Rat} (h : Sz m q) (l : m ≤ n) : Sz n q := ⟨Nat.lt_of_lt_of_le h.1 (pw l), Nat.lt_of_lt_of_le h.2 (pw l)⟩
theorem divInt_num_le {a b : Int} (hb : b ≠ 0) : (Rat.divInt a b).num.natAbs ≤ a.natAbs := by
  rw [Rat.num_divInt]
  have h : (b.sign * a / (Int.gcd b a : Int)).natAbs ≤ (b.sign * a).natAbs := Int.natAbs_ediv_le_natAbs _ _
  have e : (b.sign * a).natAbs = a.natAbs := by
    rw [Int.natAbs_mul, Int.natAbs_sign_of_ne_zero hb, Nat.one_mul]
  omega
theorem divInt_den_le {a b : Int} (hb : b ≠ 0) : (Rat.divInt a b).den ≤ b.natAbs := by
  rw [Rat.den_divInt, if_neg hb]
  exact Nat.div_le_self _ _
theorem sz_divInt {a b : Int} {n : Nat} (hb : b ≠ 0) (h1 : a.natAbs < 2 ^ n) (h2 : b.natAbs < 2 ^ n) : Sz n (Rat.divInt a b) := ⟨Nat.lt_of_le_of_lt (divInt_num_le hb) h1, Nat.lt_of_le_of_lt (divInt_den_le hb) h2⟩
theorem mul_lt {a b : Int} {m n : Nat} (ha : a.natAbs < 2 ^ m) (hb : b.natAbs < 2 ^ n) : (a * b).natAbs < 2 ^ (m + n) := by
  rw [Int.natAbs_mul, Nat.pow_add]
  exact Nat.mul_lt_mul'' ha hb
theorem add_lt {a b : Int} {m : Nat} (ha : a.natAbs < 2 ^ m) (hb : b.natAbs < 2 ^ m) : (a + b).natAbs < 2 ^ (m + 1) := by
  rw [Nat.pow_succ]
  omega
theorem sub_lt {a b : Int} {m : Nat} (ha : a.natAbs < 2 ^ m) (hb : b.natAbs < 2 ^ m) : (a - b).natAbs < 2 ^ (m + 1) := by
  rw [Nat.pow_succ]
  omega
theorem den_ne (q : Rat) : (q.den : Int) ≠ 0 := by have := q.den_nz; omega
theorem den_pos (q : Rat) : (0 : Int) < (q.den : Int) := by have := q.den_nz; omega
theorem add_eq (x y : Rat) : Rat.divInt (x.num * y.den + y.num * x.den) (x.den * y.den) = x + y := by
  rw [Rat.add_def']
  exact Rat.divInt_ofNat _ (x.den * y.den)
theorem sub_eq (x y : Rat) : Rat.divInt (x.num * y.den - y.num * x.den) (x.den * y.den) = x - y := by
  rw [Rat.sub_def']
  exact Rat.divInt_ofNat _ (x.den * y.den)
theorem mul_eq (x y : Rat) : Rat.divInt (x.num * y.num) (x.den * y.den) = x * y := by
  rw [Rat.mul_def']
  exact Rat.divInt_ofNat _ (x.den * y.den)
theorem div_eq (x y : Rat) : Rat.divInt (x.num * y.den) (x.den * y.num) = x / y := by
  rw [Rat.div_def, Rat.inv_def, ← Rat.divInt_mul_divInt, Rat.num_divInt_den]
theorem Sz.den {n : Nat} {q : Rat} (h : Sz n q) : ((q.den : Int)).natAbs < 2 ^ n := h.2
theorem dd_lt {x y : Rat} {m n : Nat} (hx : Sz m x) (hy : Sz n y) : ((x.den : Int) * (y.den : Int)).natAbs < 2 ^ (m + n) := mul_lt hx.den hy.den
theorem up1 {a : Int} {n : Nat} (h : a.natAbs < 2 ^ n) : a.natAbs < 2 ^ (n + 1) := Nat.lt_of_lt_of_le h (pw (by omega))
theorem nn_lt {x y : Rat} {m n : Nat} (hx : Sz m x) (hy : Sz n y) : (x.num * (y.den : Int) + y.num * (x.den : Int)).natAbs < 2 ^ (m + n + 1) := by
  have h1 := mul_lt hx.1 hy.den
  have h2 := mul_lt hy.1 hx.den
  rw [Nat.add_comm n m] at h2
  exact add_lt h1 h2
theorem ns_lt {x y : Rat} {m n : Nat} (hx : Sz m x) (hy : Sz n y) : (x.num * (y.den : Int) - y.num * (x.den : Int)).natAbs < 2 ^ (m + n + 1) := by
  have h1 := mul_lt hx.1 hy.den
  have h2 := mul_lt hy.1 hx.den
  rw [Nat.add_comm n m] at h2
  exact sub_lt h1 h2
theorem Sz.add {x y : Rat} {m n : Nat} (hx : Sz m x) (hy : Sz n y) : Sz (m + n + 1) (x + y) := by
  rw [← add_eq]
  exact sz_divInt (Int.mul_ne_zero (den_ne x) (den_ne y)) (nn_lt hx hy) (up1 (dd_lt hx hy))
theorem Sz.sub {x y : Rat} {m n : Nat} (hx : Sz m x) (hy : Sz n y) : Sz (m + n + 1) (x - y) := by
  rw [← sub_eq]
  exact sz_divInt (Int.mul_ne_zero (den_ne x) (den_ne y)) (ns_lt hx hy) (up1 (dd_lt hx hy))
theorem Sz.mul {x y : Rat} {m n : Nat} (hx : Sz m x) (hy : Sz n y) : Sz (m + n) (x * y) := by
  rw [← mul_eq]
  exact sz_divInt (Int.mul_ne_zero (den_ne x) (den_ne y)) (mul_lt hx.1 hy.1) (dd_lt hx hy)
theorem num_ne {y : Rat} (h : y ≠ 0) : y.num ≠ 0 := fun z => h (Rat.num_eq_zero.mp z)
theorem Sz.div {x y : Rat} {m n : Nat} (hx : Sz m x) (hy : Sz n y) : Sz (m + n) (x / y) := by
  by_cases h : y = 0
  · rw [h, Rat.div_def, Rat.inv_zero, Rat.mul_zero]
    have h3 : 1 < 2 ^ m := by have := hx.2; have := x.den_nz; omega
    exact ⟨Nat.lt_of_lt_of_le (by decide) (Nat.one_le_two_pow (n := m + n)), Nat.lt_of_lt_of_le h3 (pw (by omega))⟩
  · rw [← div_eq]
    exact sz_divInt (Int.mul_ne_zero (den_ne x) (num_ne h)) (mul_lt hx.1 hy.den) (mul_lt hx.den hy.1)
theorem gcd_small {a b : Int} {n : Nat} (hb : b ≠ 0) (h : b.natAbs < 2 ^ n) : Int.gcd a b < 2 ^ n := Nat.lt_of_le_of_lt (Int.gcd_le_natAbs_right a hb) h
end Fr
namespace Lw
open PySem PySem.Spec PyProof.Rows L2 Gx
/-- a divisor that the division may have -/
def Okd (a b : Int) : Prop := (a.natAbs < 2 ^ 13500 ∧ b.natAbs < 2 ^ 13500) ∨ Int.gcd a b < 2 ^ 9000
theorem Okd.div {a b d : Int} (h : Okd a b) (e : d.natAbs = Int.gcd a b) : Builtin.divisionGoesByPylong a d = false ∧ Builtin.divisionGoesByPylong b d = false := by
  rcases h with ⟨h1, h2⟩ | h
  · exact ⟨noPy_mid h1, noPy_mid h2⟩
  · exact ⟨noPy_low (by rw [e]; exact h), noPy_low (by rw [e]; exact h)⟩
theorem okd_den {a b : Int} {n : Nat} (hb : b ≠ 0) (h : b.natAbs < 2 ^ n) (hn : n ≤ 9000) : Okd a b := .inr (Nat.lt_of_lt_of_le (Fr.gcd_small hb h) (Fr.pw hn))
end Lw
namespace Lw
open PySem PySem.Spec PyProof.Rows L2 Gx
/-- whether a value is a whole number, by its type -/
def Whole (K : PySem.W.Frag) (H : Hp) (x : V) (b : Bool) : Prop := ∃ (t : Value) (b1 b2 : Bool), TyX K H x t ∧ PySem.W.kitOne K t (.type "int") = some b1 ∧ PySem.W.kitOne K t (.type "bool") = some b2 ∧ b = (b1 && !b2)
theorem Whole.int {K : PySem.W.Frag} {H : Hp} (i : Int) : Whole K H (.int i) true := ⟨.type "int", true, false, .base (.int i), kit_ty (by decide +kernel), kit_ty (by decide +kernel), rfl⟩
theorem Whole.bl {K : PySem.W.Frag} {H : Hp} (b : Bool) : Whole K H (.bl b) false := ⟨.type "bool", true, true, .base (.bl b), kit_ty (by decide +kernel), kit_ty (by decide +kernel), rfl⟩
theorem Whole.str {K : PySem.W.Frag} {H : Hp} (x : Str) : Whole K H (.str x) false := ⟨.type "str", false, false, .base (.str x), kit_ty (by decide +kernel), kit_ty (by decide +kernel), rfl⟩
theorem Whole.non {K : PySem.W.Frag} {H : Hp} : Whole K H .non false := ⟨.type "NoneType", false, false, .base .non, kit_ty (by decide +kernel), kit_ty (by decide +kernel), rfl⟩
theorem Whole.same {K : PySem.W.Frag} {H H' : Hp} (e : Same H H') {x : V} {b : Bool} (h : Whole K H x b) : Whole K H' x b := by
  obtain ⟨t, b1, b2, ht, h⟩ := h
  exact ⟨t, b1, b2, tyx_same e ht, h⟩
theorem Whole.tup {K : PySem.W.Frag} {H : Hp} {p : Addr} {xs : List V} (h : SqT K H p xs) : Whole K H (.ref p) false := ⟨.type "tuple", false, false, ty_tup h, kit_ty (by decide +kernel), kit_ty (by decide +kernel), rfl⟩
theorem Whole.lst {K : PySem.W.Frag} {H : Hp} {p : Addr} {xs : List V} (h : SqL K H p xs) : Whole K H (.ref p) false := ⟨.type "list", false, false, ty_lst h, kit_ty (by decide +kernel), kit_ty (by decide +kernel), rfl⟩
theorem Whole.dict {K : PySem.W.Frag} {H : Hp} {p : Addr} {kvs : List (Key × V)} (h : H p = some (.dK kvs)) : Whole K H (.ref p) false := ⟨.type "dict", false, false, .base (.dK h), kit_ty (by decide +kernel), kit_ty (by decide +kernel), rfl⟩
/-- whether a thing is a fraction -/
inductive IsF (K : PySem.W.Frag) (H : Hp) : V → Bool → Prop
  | kind {x : V} {t : Value} (ht : TyX K H x t) (hk : PySem.W.kitOne K t (.type "tuple") = some false) : IsF K H x false
  | len {p : Addr} {xs : List V} (h : SqT K H p xs) (hl : xs.length ≠ 2) : IsF K H (.ref p) false
  | parts {p : Addr} {u v : V} {bu bv : Bool} (h : SqT K H p [u, v]) (hu : Whole K H u bu) (hv : Whole K H v bv) (hb : (bu && bv) = false) : IsF K H (.ref p) false
  | whole {p : Addr} {c d : Int} (h : SqT K H p [.int c, .int d]) : IsF K H (.ref p) (decide (0 < d) && decide (Int.gcd c d = 1))
theorem IsF.int {K : PySem.W.Frag} {H : Hp} (i : Int) : IsF K H (.int i) false := .kind (.base (.int i)) (kit_ty (by decide +kernel))
theorem IsF.bl {K : PySem.W.Frag} {H : Hp} (b : Bool) : IsF K H (.bl b) false := .kind (.base (.bl b)) (kit_ty (by decide +kernel))
theorem IsF.str {K : PySem.W.Frag} {H : Hp} (x : Str) : IsF K H (.str x) false := .kind (.base (.str x)) (kit_ty (by decide +kernel))
theorem IsF.non {K : PySem.W.Frag} {H : Hp} : IsF K H .non false := .kind (.base .non) (kit_ty (by decide +kernel))
theorem IsF.lst {K : PySem.W.Frag} {H : Hp} {p : Addr} {xs : List V} (h : SqL K H p xs) : IsF K H (.ref p) false := .kind (ty_lst h) (kit_ty (by decide +kernel))
theorem IsF.dict {K : PySem.W.Frag} {H : Hp} {p : Addr} {kvs : List (Key × V)} (h : H p = some (.dK kvs)) : IsF K H (.ref p) false := .kind (.base (.dK h)) (kit_ty (by decide +kernel))
theorem IsF.yes {K : PySem.W.Frag} {H : Hp} {p : Addr} {q : Rat} (h : SqT K H p (Fr.fq q)) : IsF K H (.ref p) true := by
  have e2 : Int.gcd q.num (q.den : Int) = 1 := q.reduced
  have z := IsF.whole h
  rw [decide_eq_true (Fr.den_pos q), decide_eq_true e2] at z
  exact z
theorem all_cons {α : Type} {P : α → Prop} {a : α} {l : List α} (h : P a) (r : ∀ x ∈ l, P x) : ∀ x ∈ a :: l, P x := fun x hx => by
  rcases List.mem_cons.mp hx with e | e
  · rw [e]; exact h
  · exact r x e
theorem at_mem {xs : List V} {i : Int} (h0 : 0 ≤ i) (h1 : i < xs.length) : ∃ v, v ∈ xs ∧ atI xs i = some v := by
  obtain ⟨n, rfl⟩ : ∃ n : Nat, i = (n : Int) := ⟨i.toNat, by omega⟩
  exact ⟨xs[n]'(by omega), List.getElem_mem _, atI_nat (by simp)⟩
end Lw
namespace Lw
open PySem PySem.Spec PyProof.Rows L2 Gx
/-- fractions at some addresses -/
def Fqs (K : PySem.W.Frag) (H : Hp) (vs : List V) (qs : List Rat) : Prop := Paired (fun v q => ∃ p, v = V.ref p ∧ SqT K H p (Fr.fq q)) vs qs
theorem Fqs.same {K : PySem.W.Frag} {H H' : Hp} (e : Same H H') : ∀ {vs : List V} {qs : List Rat}, Fqs K H vs qs → Fqs K H' vs qs
  | _, _, .nil => .nil
  | _, _, .cons ⟨p, h1, h2⟩ r => .cons ⟨p, h1, seqT_same e h2⟩ (Fqs.same e r)
theorem Fqs.get {K : PySem.W.Frag} {H : Hp} : ∀ {vs : List V} {qs : List Rat} {i : Nat} {v : V}, Fqs K H vs qs → vs[i]? = some v → ∃ p q, v = .ref p ∧ qs[i]? = some q ∧ SqT K H p (Fr.fq q)
  | _, _, 0, v, .cons (b := q) ⟨p, h1, h2⟩ r, e => ⟨p, q, (Option.some.inj e).symm.trans h1, rfl, h2⟩
  | _, _, i + 1, v, .cons ⟨p, h1, h2⟩ r, e => Fqs.get (i := i) r e
theorem Fqs.len {K : PySem.W.Frag} {H : Hp} {vs : List V} {qs : List Rat} (h : Fqs K H vs qs) : vs.length = qs.length := Paired.length h
def sum (qs : List Rat) : Rat := qs.foldl (· + ·) 0
def szs (ns : List Nat) : Nat := ns.foldl (fun a n => a + n + 1) 1
theorem szs_snoc (l : List Nat) (n : Nat) : szs (l ++ [n]) = szs l + n + 1 := by simp [szs]
theorem sum_snoc (l : List Rat) (q : Rat) : sum (l ++ [q]) = sum l + q := by simp [sum]
theorem szs_take (l : List Nat) (i : Nat) : szs (l.take i) ≤ szs l := by
  have h : ∀ (m : List Nat) (a b : Nat), a ≤ b → a ≤ m.foldl (fun a n => a + n + 1) b := fun m => by
    induction m with
    | nil => intro a b h; exact h
    | cons x r ih => intro a b h; exact ih a _ (show a ≤ b + x + 1 by omega)
  have e : szs l = (l.drop i).foldl (fun a n => a + n + 1) (szs (l.take i)) := by
    unfold szs
    rw [← List.foldl_append, List.take_append_drop]
  rw [e]
  exact h _ _ _ (Nat.le_refl _)
theorem take_snoc {α : Type} {l : List α} {i : Nat} {x : α} (h : l[i]? = some x) : l.take (i + 1) = l.take i ++ [x] := by
  rw [List.take_add_one, h]
  rfl
theorem Paired.get {α β : Type} {F : α → β → Prop} : ∀ {as : List α} {bs : List β} {i : Nat} {a : α}, Paired F as bs → as[i]? = some a → ∃ b, bs[i]? = some b ∧ F a b
  | _, _, 0, a, .cons (b := b) h r, e => ⟨b, rfl, (Option.some.inj e) ▸ h⟩
  | _, _, i + 1, a, .cons h r, e => Paired.get (i := i) r e
theorem Fqs.snoc {K : PySem.W.Frag} {H : Hp} {p : Addr} {q : Rat} (h : SqT K H p (Fr.fq q)) : ∀ {vs : List V} {qs : List Rat}, Fqs K H vs qs → Fqs K H (vs ++ [.ref p]) (qs ++ [q])
  | _, _, .nil => .cons ⟨p, rfl, h⟩ .nil
  | _, _, .cons a r => .cons a (Fqs.snoc h r)
theorem Fqs.put {K : PySem.W.Frag} {H : Hp} {p : Addr} {q : Rat} (h : SqT K H p (Fr.fq q)) : ∀ (k : Nat) {vs : List V} {qs : List Rat}, Fqs K H vs qs → Fqs K H (vs.take k ++ [.ref p] ++ vs.drop k) (qs.take k ++ [q] ++ qs.drop k)
  | 0, _, _, r => .cons ⟨p, rfl, h⟩ r
  | _ + 1, _, _, .nil => .cons ⟨p, rfl, h⟩ .nil
  | k + 1, _, _, .cons a r => .cons a (Fqs.put h k r)
theorem foldl_add (l : List Rat) (a : Rat) : l.foldl (· + ·) a = a + sum l := by
  induction l generalizing a with
  | nil => show a = a + 0; rw [Rat.add_zero]
  | cons x r ih =>
    show r.foldl (· + ·) (a + x) = a + r.foldl (· + ·) (0 + x)
    rw [ih, ih, Rat.zero_add, Rat.add_assoc]
theorem sum_app (l m : List Rat) : sum (l ++ m) = sum l + sum m := by
  show (l ++ m).foldl (· + ·) 0 = _
  rw [List.foldl_append]
  exact foldl_add m _
theorem sum_put (l : List Rat) (k : Nat) (q : Rat) : sum (l.take k ++ [q] ++ l.drop k) = sum l + q := by
  have e : sum l = sum (l.take k) + sum (l.drop k) := by rw [← sum_app, List.take_append_drop]
  rw [sum_app, sum_app, e, show sum [q] = q from Rat.zero_add q, Rat.add_assoc, Rat.add_assoc, Rat.add_comm q]
theorem Fqs.dp {K : PySem.W.Frag} {H : Hp} : ∀ {vs : List V} {qs : List Rat}, Fqs K H vs qs → DpAll K H vs (qs.map Fr.fqd)
  | _, _, .nil => .nil
  | _, _, .cons ⟨p, e, h⟩ r => by
    subst e
    exact .cons (Fr.dp_fq h) (Fqs.dp r)
theorem shaped_fqs (qs : List Rat) : SeqAt.shaped (.list (qs.map Fr.fqd)) = true := by
  have h : ∀ l : List Rat, PyData.canLayAll0 (l.map Fr.fqd) = true ∧ PyData.depthAll (l.map Fr.fqd) ≤ 1 := fun l => by
    induction l with
    | nil => exact ⟨by simp [PyData.canLayAll0], by simp [PyData.depthAll]⟩
    | cons n r ih => exact ⟨by simp [PyData.canLayAll0, PyData.canLay0, Fr.fqd, ih.1], by simp [PyData.depthAll, PyData.depth, Fr.fqd]; have := ih.2; omega⟩
  obtain ⟨h1, h2⟩ := h qs
  have h3 : PyData.depthAll (qs.map Fr.fqd) + 1 ≤ 64 := by omega
  simp [SeqAt.shaped, PyData.canLay0, PyData.depth, h1, h3]
theorem szs_rep (n : Nat) : szs (List.replicate n 200) = 1 + 201 * n := by
  induction n with
  | zero => rfl
  | succ n ih => rw [List.replicate_succ', szs_snoc, ih]; omega
def All200 (qs : List Rat) : Prop := ∀ q ∈ qs, Fr.Sz 200 q
theorem All200.paired : ∀ {qs : List Rat}, All200 qs → Paired (fun q n => Fr.Sz n q) qs (List.replicate qs.length 200)
  | [], _ => .nil
  | q :: r, h => .cons (h q (List.mem_cons_self ..)) (All200.paired fun x hx => h x (List.mem_cons_of_mem _ hx))
end Lw
namespace Al
open PySem PySem.Spec PyProof.Rows L2 Gx
/-- every draw, in order -/
def nx (m : Nat) (b : Bool) (s : List Int) : List (List Int) := ((Dw.rg m).filter fun x => b || !s.contains x).map fun x => s ++ [x]
def al (m : Nat) (b : Bool) : Nat → List (List Int)
  | 0 => [[]]
  | n + 1 => (al m b n).flatMap (nx m b)
def Ok (m : Nat) (b : Bool) (s : List Int) : Prop := (∀ x ∈ s, 0 ≤ x ∧ x < (m : Int)) ∧ (b = false → s.Nodup)
theorem mem_nx {m : Nat} {b : Bool} {s t : List Int} (h : t ∈ nx m b s) : ∃ x, t = s ++ [x] ∧ 0 ≤ x ∧ x < (m : Int) ∧ (b = false → x ∉ s) := by
  unfold nx at h
  obtain ⟨x, hx, rfl⟩ := List.mem_map.mp h
  obtain ⟨h1, h2⟩ := List.mem_filter.mp hx
  obtain ⟨h3, h4⟩ := D24.mem_rg.mp h1
  refine ⟨x, rfl, h3, h4, fun hb => ?_⟩
  subst hb
  simpa using h2
theorem al_ok {m : Nat} {b : Bool} : ∀ {n : Nat} {s : List Int}, s ∈ al m b n → Ok m b s ∧ s.length = n
  | 0, s, h => by
    rw [List.mem_singleton.mp h]
    exact ⟨⟨fun _ h => (nomatch h), fun _ => List.nodup_nil⟩, rfl⟩
  | n + 1, s, h => by
    obtain ⟨t, ht, hs⟩ := List.mem_flatMap.mp h
    obtain ⟨⟨h1, h2⟩, h3⟩ := al_ok ht
    obtain ⟨x, rfl, x0, x1, hx⟩ := mem_nx hs
    refine ⟨⟨fun y hy => ?_, fun hb => ?_⟩, by simp [h3]⟩
    · rcases List.mem_append.mp hy with e | e
      · exact h1 y e
      · rw [List.mem_singleton.mp e]; exact ⟨x0, x1⟩
    · refine List.nodup_append.mpr ⟨h2 hb, by simp, fun a ha c hc e => ?_⟩
      rw [List.mem_singleton.mp hc] at e
      exact hx hb (e ▸ ha)
theorem fil_true {α : Type} (l : List α) : (l.filter fun _ => true) = l := List.filter_eq_self.mpr fun _ _ => rfl
theorem ng_len {m : Nat} : ∀ {k : Nat} {s : List Int}, s.length = k → (∀ x ∈ s, 0 ≤ x ∧ x < (m : Int)) → s.Nodup → (D24.ng s (Dw.rg m)).length + s.length = m
  | 0, s, hk, _, _ => by
    rw [List.length_eq_zero_iff.mp hk]
    simp [D24.ng, fil_true, Dw.rg_len]
  | k + 1, s, hk, h, nd => by
    obtain ⟨t, x, rfl⟩ := Dk.last s (by omega)
    have hx := h x (by simp)
    obtain ⟨b, rfl⟩ := Int.eq_ofNat_of_zero_le hx.1
    have nd2 := List.nodup_append.mp nd
    have hb : (b : Int) ∉ t := fun z => nd2.2.2 _ z _ (by simp) rfl
    have ih := ng_len (k := k) (s := t) (by simpa using hk) (fun y hy => h y (List.mem_append_left _ hy)) nd2.1
    have he := D24.erase_ (g := t) (b := b) (m := m) (n := (D24.ng t (Dw.rg b)).length) (by omega) hb rfl
    have hlt : (D24.ng t (Dw.rg b)).length < (D24.ng t (Dw.rg m)).length := by
      rw [D24.ng_split (show b < m by omega) hb]
      simp
    rw [← he, List.length_eraseIdx, if_pos hlt]
    simp
    omega
theorem nx_len {m : Nat} {b : Bool} {s : List Int} (h : Ok m b s) : ((nx m b s).length : Int) = Cn.fac (m : Int) b s.length := by
  unfold nx Cn.fac
  rw [List.length_map]
  cases b with
  | true => simp [fil_true, Dw.rg_len]
  | false =>
    have := ng_len rfl h.1 (h.2 rfl)
    have e : ((Dw.rg m).filter fun x => false || !s.contains x) = D24.ng s (Dw.rg m) := by simp [D24.ng]
    rw [e]
    simp
    omega
theorem flat_len {f : List Int → List (List Int)} {c : Int} : ∀ {l : List (List Int)}, (∀ s ∈ l, ((f s).length : Int) = c) → ((l.flatMap f).length : Int) = (l.length : Int) * c
  | [], _ => by simp
  | s :: r, h => by
    have ih := flat_len (l := r) fun x hx => h x (List.mem_cons_of_mem s hx)
    have h1 := h s (List.mem_cons_self ..)
    rw [List.flatMap_cons, List.length_append, List.length_cons]
    simp only [Int.natCast_add, ih, h1]
    rw [Int.add_mul]
    omega
theorem al_len {m : Nat} {b : Bool} : ∀ n : Nat, ((al m b n).length : Int) = Cn.cnt (m : Int) b n
  | 0 => rfl
  | n + 1 => by
    show (((al m b n).flatMap (nx m b)).length : Int) = Cn.cnt (m : Int) b n * Cn.fac (m : Int) b n
    rw [flat_len (c := Cn.fac (m : Int) b n) fun s hs => by
      obtain ⟨h1, h2⟩ := al_ok hs
      rw [nx_len h1, h2], al_len n]
def tu (s : List Int) : PyData := .tuple (s.map .int)
theorem fac_pos {m : Nat} {b : Bool} {n : Nat} : 0 ≤ Cn.fac (m : Int) b n := by
  unfold Cn.fac
  cases b
  · simp; omega
  · simp
theorem cnt_nn {m : Nat} {b : Bool} (n : Nat) : 0 ≤ Cn.cnt (m : Int) b n := by rw [← al_len]; omega
theorem cnt_step {m : Nat} {b : Bool} {n : Nat} (h : Cn.cnt (m : Int) b (n + 1) ≠ 0) : Cn.cnt (m : Int) b n ≠ 0 ∧ Cn.cnt (m : Int) b n ≤ Cn.cnt (m : Int) b (n + 1) := by
  have e : Cn.cnt (m : Int) b (n + 1) = Cn.cnt (m : Int) b n * Cn.fac (m : Int) b n := rfl
  have h1 : Cn.cnt (m : Int) b n ≠ 0 := fun z => h (by rw [e, z, Int.zero_mul])
  have h2 : Cn.fac (m : Int) b n ≠ 0 := fun z => h (by rw [e, z, Int.mul_zero])
  have f := fac_pos (m := m) (b := b) (n := n)
  refine ⟨h1, ?_⟩
  rw [e]
  have := Int.mul_le_mul_of_nonneg_left (show (1 : Int) ≤ Cn.fac (m : Int) b n by omega) (cnt_nn (m := m) (b := b) n)
  rw [Int.mul_one] at this
  exact this
theorem cnt_mono {m : Nat} {b : Bool} : ∀ {n i : Nat}, i ≤ n → Cn.cnt (m : Int) b n ≠ 0 → Cn.cnt (m : Int) b i ≤ Cn.cnt (m : Int) b n
  | 0, i, hi, _ => by rw [Nat.le_zero.mp hi]; exact Int.le_refl _
  | n + 1, i, hi, h => by
    by_cases e : i = n + 1
    · rw [e]; exact Int.le_refl _
    · obtain ⟨h1, h2⟩ := cnt_step h
      exact Int.le_trans (cnt_mono (by omega) h1) h2
/-! the numbers that give a draw -/
def numsOf (b : Bool) : List Int → List Int → List Int
  | _, [] => []
  | g, x :: r => (x - ((g.filter fun y => decide (y < x)).length : Int) * (if b then 0 else 1)) :: numsOf b (g ++ [x]) r
theorem nums_snoc {b : Bool} : ∀ {t g : List Int} {x : Int}, numsOf b g (t ++ [x]) = numsOf b g t ++ [x - (((g ++ t).filter fun y => decide (y < x)).length : Int) * (if b then 0 else 1)]
  | [], g, x => by simp [numsOf]
  | y :: r, g, x => by
    have ih := nums_snoc (t := r) (g := g ++ [y]) (x := x) (b := b)
    show _ :: numsOf b (g ++ [y]) (r ++ [x]) = _
    rw [ih]
    simp [numsOf]
theorem nums_len {b : Bool} : ∀ (t g : List Int), (numsOf b g t).length = t.length
  | [], _ => rfl
  | _ :: r, g => congrArg (· + 1) (nums_len r _)
theorem ng_low {g : List Int} {b : Nat} (h : ∀ x ∈ g, 0 ≤ x) (nd : g.Nodup) : (D24.ng g (Dw.rg b)).length + (g.filter fun y => decide (y < (b : Int))).length = b := by
  have e : D24.ng g (Dw.rg b) = D24.ng (g.filter fun y => decide (y < (b : Int))) (Dw.rg b) := by
    unfold D24.ng
    refine List.filter_congr fun x hx => ?_
    have := D24.mem_rg.mp hx
    congr 1
    rw [Bool.eq_iff_iff]
    simp only [List.contains_iff_mem, List.mem_filter, decide_eq_true_eq]
    exact ⟨fun z => ⟨z, this.2⟩, fun z => z.1⟩
  rw [e]
  refine ng_len rfl (fun x hx => ?_) (nd.filter _)
  obtain ⟨h1, h2⟩ := List.mem_filter.mp hx
  exact ⟨h x h1, by simpa using h2⟩
theorem dr_nums {m : Nat} {b : Bool} : ∀ {t g found : List Int}, Ok m b (g ++ t) → Dw.dr b (if b then Dw.rg m else D24.ng g (Dw.rg m)) (numsOf b g t) found = some (found ++ t)
  | [], g, found, _ => by simp [numsOf, Dw.dr]
  | x :: r, g, found, h => by
    have hx := h.1 x (by simp)
    obtain ⟨k, rfl⟩ := Int.eq_ofNat_of_zero_le hx.1
    have h2 : Ok m b ((g ++ [(k : Int)]) ++ r) := by simpa using h
    have ih := dr_nums (t := r) (g := g ++ [(k : Int)]) (found := found ++ [(k : Int)]) h2
    cases b with
    | true =>
      show (if 0 ≤ (k : Int) - _ * 0 ∧ (k : Int) - _ * 0 < ((Dw.rg m).length : Int) then Dw.dr true (Dw.rg m) (numsOf true (g ++ [(k : Int)]) r) (found ++ [(Dw.rg m).getD ((k : Int) - _ * 0).toNat 0]) else none) = _
      have hk : k < m := by omega
      have e : (Dw.rg m).getD k 0 = (k : Int) := by simp [Dw.rg, hk]
      simp only [Int.mul_zero, Int.sub_zero, Int.toNat_natCast]
      rw [if_pos ⟨by omega, by rw [Dw.rg_len]; omega⟩, e]
      have ih' : Dw.dr true (Dw.rg m) (numsOf true (g ++ [(k : Int)]) r) (found ++ [(k : Int)]) = some (found ++ [(k : Int)] ++ r) := ih
      rw [ih']
      simp
    | false =>
      have nd := h.2 rfl
      have nd2 := List.nodup_append.mp nd
      have hk : (k : Int) ∉ g := fun z => nd2.2.2 _ z _ (by simp) rfl
      have low := ng_low (b := k) (fun y hy => (h.1 y (List.mem_append_left _ hy)).1) nd2.1
      have hlt : (D24.ng g (Dw.rg k)).length < (D24.ng g (Dw.rg m)).length := by
        rw [D24.ng_split (show k < m by omega) hk]
        simp
      have en : (k : Int) - ((g.filter fun y => decide (y < (k : Int))).length : Int) * 1 = ((D24.ng g (Dw.rg k)).length : Int) := by omega
      have hat := D24.at_ (m := m) (by omega) hk rfl
      have her := D24.erase_ (m := m) (by omega) hk rfl
      show (if 0 ≤ (k : Int) - ((g.filter fun y => decide (y < (k : Int))).length : Int) * 1 ∧ (k : Int) - ((g.filter fun y => decide (y < (k : Int))).length : Int) * 1 < ((D24.ng g (Dw.rg m)).length : Int) then Dw.dr false ((D24.ng g (Dw.rg m)).eraseIdx ((k : Int) - ((g.filter fun y => decide (y < (k : Int))).length : Int) * 1).toNat) (numsOf false (g ++ [(k : Int)]) r) (found ++ [(D24.ng g (Dw.rg m)).getD ((k : Int) - ((g.filter fun y => decide (y < (k : Int))).length : Int) * 1).toNat 0]) else none) = _
      rw [en, if_pos ⟨by omega, by omega⟩, Int.toNat_natCast, hat, her]
      have ih' : Dw.dr false (D24.ng (g ++ [(k : Int)]) (Dw.rg m)) (numsOf false (g ++ [(k : Int)]) r) (found ++ [(k : Int)]) = some (found ++ [(k : Int)] ++ r) := ih
      rw [ih']
      simp
theorem dr_back {m : Nat} {b : Bool} {s : List Int} (h : Ok m b s) : Dw.dr b (Dw.rg m) (numsOf b [] s) [] = some s := by
  have := dr_nums (g := []) (t := s) (found := []) (m := m) (b := b) (by simpa using h)
  have e : (if b then Dw.rg m else D24.ng [] (Dw.rg m)) = Dw.rg m := by
    cases b
    · simp [D24.ng, fil_true]
    · rfl
  rw [e] at this
  simpa using this
/-! in order -/
theorem lex_app : ∀ {s t u v : List Int}, HT.lexLt s t = true → s.length = t.length → HT.lexLt (s ++ u) (t ++ v) = true
  | [], [], _, _, h, _ => by cases h
  | [], _ :: _, _, _, _, e => by simp at e
  | _ :: _, [], _, _, _, e => by simp at e
  | x :: s, y :: t, u, v, h, e => by
    rw [HT.lexLt_cons] at h
    show HT.lexLt (x :: (s ++ u)) (y :: (t ++ v)) = true
    rw [HT.lexLt_cons]
    by_cases c : x = y
    · rw [if_pos c] at h ⊢
      exact lex_app h (by simpa using e)
    · rw [if_neg c] at h ⊢
      exact h
theorem lex_same {x y : Int} (h : x < y) : ∀ s : List Int, HT.lexLt (s ++ [x]) (s ++ [y]) = true
  | [] => by
    show HT.lexLt [x] [y] = true
    rw [HT.lexLt_cons, if_neg (by omega), decide_eq_true h]
  | z :: s => by
    show HT.lexLt (z :: (s ++ [x])) (z :: (s ++ [y])) = true
    rw [HT.lexLt_cons, if_pos rfl]
    exact lex_same h s
theorem rg_sorted (m : Nat) : (Dw.rg m).Pairwise (· < ·) := by
  unfold Dw.rg
  exact List.pairwise_map.mpr (List.Pairwise.imp (fun h => by exact_mod_cast h) List.pairwise_lt_range)
theorem al_sorted {m : Nat} {b : Bool} : ∀ n : Nat, (al m b n).Pairwise fun s t => HT.lexLt s t = true
  | 0 => List.pairwise_singleton ..
  | n + 1 => by
    refine List.pairwise_flatMap.mpr ⟨fun s _ => ?_, ?_⟩
    · refine List.pairwise_map.mpr (((rg_sorted m).filter _).imp fun h => lex_same h s)
    · refine List.Pairwise.imp_of_mem (fun {s t} hs ht h x hx y hy => ?_) (al_sorted n)
      obtain ⟨u, rfl, _⟩ := mem_nx hx
      obtain ⟨v, rfl, _⟩ := mem_nx hy
      exact lex_app h (by rw [(al_ok hs).2, (al_ok ht).2])
theorem al_lt {m n : Nat} {b : Bool} {k : Nat} {s t : List Int} (hs : (al m b n)[k]? = some s) (ht : (al m b n)[k + 1]? = some t) : HT.lexLt s t = true := by
  obtain ⟨h1, e1⟩ := List.getElem?_eq_some_iff.mp hs
  obtain ⟨h2, e2⟩ := List.getElem?_eq_some_iff.mp ht
  rw [← e1, ← e2]
  exact List.pairwise_iff_getElem.mp (al_sorted n) k (k + 1) h1 h2 (Nat.lt_succ_self k)
theorem sh_tu (s : List Int) : Dt.Sh 1 (tu s) := Dt.sh_tup fun x hx => by
  obtain ⟨z, _, rfl⟩ := List.mem_map.mp hx
  exact Dt.sh_int _
end Al
namespace Lw
open PySem PySem.Spec PyProof.Rows L2 Gx
def top (i : Nat) : Stmt := PySem.Challenge.pw_surecount_k26_all_draws.main.body.getD i (.Pass ⟨0, 0, 0, 0⟩)
abbrev s_TooMany___init__ : Stmt := inClass (top 4) 0
theorem sc_TooMany___init__ : FnScope ["self", "number"] ["self", "number"] (defScope s_TooMany___init__) := ⟨rfl, rfl, rfl, by decide +kernel, rfl, by decide +kernel, by decide +kernel⟩
abbrev s_drawn : Stmt := top 7
theorem sc_drawn : FnScope ["many", "numbers", "again", "left", "found", "number"] ["many", "numbers", "again"] (defScope s_drawn) := ⟨rfl, rfl, rfl, by decide +kernel, rfl, by decide +kernel, by decide +kernel⟩
abbrev s_draws_counted : Stmt := top 8
theorem sc_draws_counted : FnScope ["many", "size", "again", "count", "turn"] ["many", "size", "again"] (defScope s_draws_counted) := ⟨rfl, rfl, rfl, by decide +kernel, rfl, by decide +kernel, by decide +kernel⟩
abbrev s_all_draws : Stmt := top 9
theorem sc_all_draws : FnScope ["many", "size", "again", "count", "found", "turn", "longer", "start", "ballot"] ["many", "size", "again"] (defScope s_all_draws) := ⟨rfl, rfl, rfl, by decide +kernel, rfl, by decide +kernel, by decide +kernel⟩
abbrev s__law_whole : Stmt := top 11
theorem sc__law_whole : FnScope ["_law_found"] ["_law_found"] (defScope s__law_whole) := ⟨rfl, rfl, rfl, by decide +kernel, rfl, by decide +kernel, by decide +kernel⟩
abbrev s__law_digits : Stmt := top 12
theorem sc__law_digits : FnScope ["_law_script", "_law_k", "_law_cell", "_law_turn"] ["_law_script", "_law_k"] (defScope s__law_digits) := ⟨rfl, rfl, rfl, by decide +kernel, rfl, by decide +kernel, by decide +kernel⟩
abbrev s__law_deck : Stmt := top 13
theorem sc__law_deck : FnScope ["_law_script", "_law_most", "_law_deck_here", "_law_last", "_law_k", "_law_number"] ["_law_script", "_law_most"] (defScope s__law_deck) := ⟨rfl, rfl, rfl, by decide +kernel, rfl, by decide +kernel, by decide +kernel⟩
abbrev s__law_counted : Stmt := top 14
theorem sc__law_counted : FnScope ["_law_many", "_law_size", "_law_again", "_law_count", "_law_turn"] ["_law_many", "_law_size", "_law_again"] (defScope s__law_counted) := ⟨rfl, rfl, rfl, by decide +kernel, rfl, by decide +kernel, by decide +kernel⟩
abbrev s__law_refused : Stmt := top 15
theorem sc__law_refused : FnScope ["_law_many", "_law_size", "_law_again", "_law_number", "e", "_law_others"] ["_law_many", "_law_size", "_law_again"] (defScope s__law_refused) := ⟨rfl, rfl, rfl, by decide +kernel, rfl, by decide +kernel, by decide +kernel⟩
abbrev s__law_numbers : Stmt := top 16
theorem sc__law_numbers : FnScope ["_law_draw", "_law_again", "_law_numbers_here", "_law_k", "_law_less", "_law_ballot"] ["_law_draw", "_law_again"] (defScope s__law_numbers) := ⟨rfl, rfl, rfl, by decide +kernel, rfl, by decide +kernel, by decide +kernel⟩
abbrev s__law_is_draw : Stmt := top 17
theorem sc__law_is_draw : FnScope ["_law_draw", "_law_many", "_law_size", "_law_again", "_law_ballot"] ["_law_draw", "_law_many", "_law_size", "_law_again"] (defScope s__law_is_draw) := ⟨rfl, rfl, rfl, by decide +kernel, rfl, by decide +kernel, by decide +kernel⟩
abbrev s_law : Stmt := top 18
theorem sc_law : FnScope ["_law_script", "_law_deck_here", "_law_cell", "_law_many", "_law_again", "_law_size", "_law_count", "_law_number", "_law_found", "_law_k", "_law_draw", "_law_kept"] ["_law_script"] (defScope s_law) := ⟨rfl, rfl, rfl, by decide +kernel, rfl, by decide +kernel, by decide +kernel⟩
abbrev FnP (K : PySem.W.Frag) (x q : Str) (st : Stmt) (f : Addr) (fd : FuncData) : Prop := FunD K x q (defArgs st) (defBody st) (defScope st) [] [] f fd
structure Txt (K : PySem.W.Frag) (mg : Str → Option Value) : Prop where
  n_ValueError : mg "ValueError" = none
  n_bool : mg "bool" = none
  n_int : mg "int" = none
  n_isinstance : mg "isinstance" = none
  n_len : mg "len" = none
  n_list : mg "list" = none
  n_max : mg "max" = none
  n_min : mg "min" = none
  n_range : mg "range" = none
  n_set : mg "set" = none
  n_tuple : mg "tuple" = none
  c_Ended : ∃ u, mg "Ended" = some u ∧ RelV (.ref (He.ga K "Ended")) u
  c_MOST : ∃ u, mg "MOST" = some u ∧ RelV (.int 3000) u
  c_NoNumber : ∃ u, mg "NoNumber" = some u ∧ RelV (.ref (He.ga K "NoNumber")) u
  c_TooMany : ∃ u, mg "TooMany" = some u ∧ RelV (.ref (He.ga K "TooMany")) u
  g_NoNumber : mg "NoNumber" = some (.ref (He.ga K "NoNumber"))
  g_SureError : mg "SureError" = some (.ref (He.ga K "SureError"))
  g_TooMany : mg "TooMany" = some (.ref (He.ga K "TooMany"))
  o_TooMany : OexC K (He.ga K "TooMany")
  oi_TooMany : PySem.W.findIn K (.ref (He.ga K "TooMany")) "__init__" = some (some (.ref (He.ma K (He.ga K "TooMany") "__init__"))) ∧ PySem.W.typeIn K (.ref (He.ma K (He.ga K "TooMany") "__init__")) = some (.type "function")
  f_TooMany_number : PySem.W.findIn K (.ref (He.ga K "TooMany")) "number" = some none
  s_SureError : SupC K (He.ga K "SureError")
  xf_TooMany : XfC K (He.ga K "TooMany")
  e_TooMany : ExcC K (He.ga K "TooMany")
  i_TooMany_Ended : PySem.W.kitOne K (.ref (He.ga K "TooMany")) (.ref (He.ga K "Ended")) = some false
  i_TooMany_NoNumber : PySem.W.kitOne K (.ref (He.ga K "TooMany")) (.ref (He.ga K "NoNumber")) = some false
  i_TooMany_TooMany : PySem.W.kitOne K (.ref (He.ga K "TooMany")) (.ref (He.ga K "TooMany")) = some true
  i_TooMany_ValueError : PySem.W.kitOne K (.ref (He.ga K "TooMany")) (.type "ValueError") = some true
  m_TooMany_SureError : PySem.W.exmOne K (.ref (He.ga K "TooMany")) (.ref (He.ga K "SureError")) = some true
  x_NoNumber : PySem.W.excIn K (He.ga K "NoNumber") He.veBase "ValueError.__new__" = true ∧ PySem.W.keepIn K (.ref (He.ga K "NoNumber")) = true ∧ PySem.W.subIn K (.ref (He.ga K "NoNumber")) (.type "BaseException") = some true ∧ PySem.W.typeIn K (.ref (He.ga K "NoNumber")) = some (.type "type")
end Lw
namespace Lw
open PySem PySem.Spec PyProof.Rows L2 Gx
abbrev sp_TooMany___init__ (K : PySem.W.Frag) : Sp := spXI (He.ga K "TooMany") "number"
def sp_drawn (K : PySem.W.Frag) : Sp := fun vs H Q E => ∃ (m : Nat) (p : Addr) (ns : List Int) (b : Bool), vs = [.int (m : Int), .ref p, .bl b] ∧ SqT K H p (ns.map V.int) ∧ m ≤ 1000 ∧ ns.length ≤ 1000 ∧
  (Dw.dr b (Dw.rg m) ns [] = none → ∀ H', Same H H' → E (.ref (He.ga K "NoNumber")) none H') ∧ (∀ out, Dw.dr b (Dw.rg m) ns [] = some out → ∀ q H', Same H H' → SqT K H' q (out.map V.int) → Q (.ref q) H')
def sp_draws_counted (K : PySem.W.Frag) : Sp := fun vs H Q _ => ∃ (m : Int) (n : Nat) (b : Bool), vs = [.int m, .int (n : Int), .bl b] ∧ m.natAbs < 2 ^ 20 ∧ n ≤ 1000 ∧ Q (.int (Cn.cnt m b n)) H
def sp_all_draws (K : PySem.W.Frag) : Sp := fun vs H Q E => ∃ (m n : Nat) (b : Bool), vs = [.int (m : Int), .int (n : Int), .bl b] ∧ m ≤ 1000 ∧ n ≤ 1000 ∧
  (3000 < Cn.cnt (m : Int) b n → ∀ d H', Same H H' → H' d = some (.xd [("number", .int (Cn.cnt (m : Int) b n))]) → E (.ref (He.ga K "TooMany")) (some d) H') ∧
  (Cn.cnt (m : Int) b n ≤ 3000 → ∀ (q : Addr) (xs : List V) H', Same H H' → H q = none → H' q = some (.lst xs) → DpAll K H' xs ((Al.al m b n).map Al.tu) → Q (.ref q) H')
def sp__law_whole (K : PySem.W.Frag) : Sp := fun vs H Q _ => ∃ (x : V) (t : Value) (b1 b2 : Bool), vs = [x] ∧ TyX K H x t ∧ PySem.W.kitOne K t (.type "int") = some b1 ∧ PySem.W.kitOne K t (.type "bool") = some b2 ∧ Q (.bl (b1 && !b2)) H
theorem whole_int {K : PySem.W.Frag} {H : Hp} {Q : VK} {E : XK} {i : Int} (q : Q (.bl true) H) : sp__law_whole K [.int i] H Q E := ⟨_, .type "int", true, false, rfl, .base (.int i), kit_ty (by decide +kernel), kit_ty (by decide +kernel), q⟩
theorem whole_w {K : PySem.W.Frag} {H : Hp} {Q : VK} {E : XK} {x : V} {b : Bool} (h : Whole K H x b) (q : Q (.bl b) H) : sp__law_whole K [x] H Q E := by
  obtain ⟨t, b1, b2, ht, h1, h2, rfl⟩ := h
  exact ⟨x, t, b1, b2, rfl, ht, h1, h2, q⟩
def sp__law_digits (K : PySem.W.Frag) : Sp := fun vs H Q _ => ∃ (a : Addr) (ns : List Int) (k : Int), vs = [.ref a, .int k] ∧ SqL K H a (ns.map V.int) ∧ ns.length ≤ 63 ∧ 0 ≤ k ∧ k ≤ 100000 ∧ ∀ (r : Int) H', Same H H' → 0 ≤ r → r < 10000000000000000000000000000000000000000000000000000000000000 → Q (.int r) H'
def sp__law_deck (K : PySem.W.Frag) : Sp := fun vs H Q _ => ∃ (a : Addr) (ns : List Int) (m : Nat), vs = [.ref a, .int (m : Int)] ∧ SqL K H a (ns.map V.int) ∧ ns.length ≤ 63 ∧ m ≤ 100000 ∧
  ∀ (l : Addr) (ds : List Int) H', Same H H' → H l = none → H' l = some (.lst (ds.map V.int)) → ds.length = m → Deck ds → Q (.ref l) H'
def sp__law_counted (K : PySem.W.Frag) : Sp := fun vs H Q _ => ∃ (m : Int) (n : Nat) (b : Bool), vs = [.int m, .int (n : Int), .bl b] ∧ 0 ≤ m ∧ m < 2 ^ 20 ∧ n ≤ 1000 ∧ Q (.int (Cn.cnt m b n)) H
def sp__law_refused (K : PySem.W.Frag) : Sp := fun vs H Q _ => ∃ (m n : Nat) (b : Bool), vs = [.int (m : Int), .int (n : Int), .bl b] ∧ m ≤ 1000 ∧ n ≤ 1000 ∧ 3000 < Cn.cnt (m : Int) b n ∧ ∀ H', Same H H' → Q (.int (Cn.cnt (m : Int) b n)) H'
theorem fil_take {α : Type} {P : α → Bool} {ms : List α} {i : Nat} {m : α} (h : ms[i]? = some m) : ((ms.take (i + 1)).filter P) = (ms.take i).filter P ++ (if P m = true then [m] else []) := by
  rw [take_snoc h, List.filter_append]
  congr 1
  cases e : P m <;> simp [List.filter, e]
theorem int_at {ns : List Int} {i : Nat} {x : V} (h : (ns.map V.int)[i]? = some x) : ∃ n, ns[i]? = some n ∧ x = V.int n := by
  rw [List.getElem?_map] at h
  cases q : ns[i]? with
  | none => rw [q] at h; cases h
  | some n => rw [q] at h; exact ⟨n, rfl, (Option.some.inj h).symm⟩
theorem notb (b : Bool) : (if (!b) = true then (1 : Int) else 0) = if b then 0 else 1 := by cases b <;> rfl
def sp__law_numbers (K : PySem.W.Frag) : Sp := fun vs H Q _ => ∃ (p : Addr) (s : List Int) (b : Bool), vs = [.ref p, .bl b] ∧ SqT K H p (s.map V.int) ∧ s.length ≤ 1000 ∧ (∀ x ∈ s, x.natAbs < 2 ^ 40) ∧ ∀ q H', Same H H' → SqT K H' q ((Al.numsOf b [] s).map V.int) → Q (.ref q) H'
def sp__law_is_draw (K : PySem.W.Frag) : Sp := fun vs H Q _ => ∃ (m n : Nat) (b : Bool) (p : Addr) (s : List Int), vs = [.ref p, .int (m : Int), .int (n : Int), .bl b] ∧ SqT K H p (s.map V.int) ∧ Al.Ok m b s ∧ s.length = n ∧ m ≤ 1000 ∧ n ≤ 1000 ∧ ∀ H', Same H H' → Q (.bl true) H'
theorem cut_mem {xs : List V} {lo hi : Option Int} {x : V} (h : x ∈ cutV xs lo hi) : x ∈ xs := List.mem_of_mem_drop (List.mem_of_mem_take h)
theorem cut_len {xs : List V} {lo hi : Option Int} : (cutV xs lo hi).length ≤ xs.length := cutV_length xs lo hi
def sp_law (K : PySem.W.Frag) : Sp := fun vs H Q _ => ∃ (a : Addr) (ns : List Int), vs = [.ref a] ∧ SqL K H a (ns.map V.int) ∧ ns.length ≤ 63 ∧ ∀ H', Q (.bl true) H'
end Lw
namespace Lw
open PySem PySem.Spec PyProof.Rows L2 Gx
section
variable {P : Program} {w : World} {K : PySem.W.Frag} {mg : Str → Option Value} {base : Heap} {f : Addr} {fd : FuncData}
theorem ok_TooMany___init__ (F : FnP K "__init__" "TooMany.__init__" s_TooMany___init__ f fd) (T : Txt K mg) : FnOk P w K mg base (L2.CX P w) 1 f fd ["self", "number"] (sp_TooMany___init__ K) := by
  refine F.ok sc_TooMany___init__ (fun vs H Q E h => ?_) (fun cdv A outer s H vs Q E hr h => ?_)
  · obtain ⟨a, v, rfl, _⟩ := h; rfl
  · refine ⟨_, (pss_cons (ps_expr (pe_svinit T.s_SureError rfl T.g_SureError (pa_cons (pv 0) (pa_cons pe_str pa_nil)))) (pss_one (ps_ost (pv 0) (pv 1)))), ?_⟩
    obtain ⟨a, v, rfl, h1, k⟩ := h
    walk_at "go"
    refine k_veIx T.o_TooMany h1 ?_ (by simp)
    walk_at "go"
    refine k_ostx T.o_TooMany T.f_TooMany_number h1 (fun d hd hda => ?_)
    exact k d hd hda
end
end Lw
namespace Lw
open PySem PySem.Spec PyProof.Rows L2 Gx
section
variable {P : Program} {w : World} {K : PySem.W.Frag} {mg : Str → Option Value} {base : Heap} {f : Addr} {fd : FuncData}
theorem ok_drawn (F : FnP K "drawn" "drawn" s_drawn f fd) (T : Txt K mg) : FnOk P w K mg base (L2.CX P w) 1 f fd ["many", "numbers", "again"] (sp_drawn K) := by
  refine F.ok sc_drawn (fun vs H Q E h => ?_) (fun cdv A outer s H vs Q E hr h => ?_)
  · obtain ⟨m, p, ns, b, rfl, _⟩ := h; rfl
  · refine ⟨_, (pss_cons (ps_set (i := 3) sc_drawn.nd rfl (Or.inl rfl) (pe_listRg rfl (by rfl) T.n_list (prg_1 (by rfl) T.n_range (pv 0)))) (pss_cons (ps_set (i := 4) sc_drawn.nd rfl (Or.inl rfl) (pe_lst pa_nil)) (pss_cons (ps_for (passes_of rfl) rfl (pi_seqU (pv 1)) (pg_name (i := 5) sc_drawn.nd rfl (Or.inl rfl)) (pss_cons (ps_if (pt_not (pt_chain op_le op_lt pe_int (pv 5) (pe_callB (callK (K := K) (r := rLenU) rfl call_lenU) (by rfl) T.n_len (by decide +kernel) (pa_cons (pv 3) pa_nil)))) (pss_one (ps_raise rfl (takes_of rfl rfl rfl rfl) (pmk_own PySem.F.excBase_ValueError T.x_NoNumber.1 T.g_NoNumber T.x_NoNumber.2.1 (raises_own T.x_NoNumber.2.2.1 T.x_NoNumber.2.2.2) rfl))) pss_nil) (pss_cons (ps_expr (pe_bmK (K := K) rfl PySem.F.plainAttrs_list PySem.F.slot_list_append PySem.F.type_list_append mt_append (pv 4) (pa_cons (pe_ix (ix_K (K := K) rfl) (pv 3) (pv 5) (fun _ _ => rfl)) pa_nil))) (pss_one (ps_if (pt_not (pt_val (pv 2))) (pss_one (ps_expr (pe_bmK (K := K) rfl PySem.F.plainAttrs_list PySem.F.slot_list_pop PySem.F.type_list_pop mt_popAt (pv 3) (pa_cons (pv 5) pa_nil)))) pss_nil))))) (pss_one (ps_ret (pe_callTy (callK (K := K) (r := rTupV) rfl call_tupV) (by rfl) T.n_tuple (by decide +kernel) (pa_cons (pv 4) pa_nil))))))), ?_⟩
    obtain ⟨m, p, ns, b, rfl, hp, hm, hn, k0, k1⟩ := h
    walk_at "go"
    refine k_rgX (by omega) (fun l H1 nl s1 hl1 => ?_)
    rw [Dw.rgV_eq] at hl1
    walk_at "go"
    refine k_lstx (fun f H2 nf s2 hf2 => ?_) (by simp)
    walk_at "go"
    have nlf : l ≠ f := ne_of_none hl1 nf
    have hp2 := seqT_same s2 (seqT_same s1 hp)
    refine k_itUT hp2 ?_
    refine k_loopT (fun i σ H' => ∃ (t : Option V) (left found : List Int), σ = [some (.int (m : Int)), some (.ref p), some (.bl b), some (.ref l), some (.ref f), t] ∧ Same H H' ∧ SqT K H' p (ns.map V.int) ∧ H' l = some (.lst (left.map V.int)) ∧ H' f = some (.lst (found.map V.int)) ∧
        left.length ≤ m ∧ found.length = i ∧ Dw.dr b (Dw.rg m) ns [] = Dw.dr b left (ns.drop i) found)
      ⟨none, Dw.rg m, [], rfl, s1.trans s2, hp2, s2 _ _ hl1, hf2, by rw [Dw.rg_len]; exact Nat.le_refl m, rfl, rfl⟩ (fun i σ H' _ h => by obtain ⟨_, _, _, _, _, h, _⟩ := h; exact h) ?_ ?_
    · rintro i x σ H3 hx ⟨t, left, found, rfl, s3, hp3, hl3, hf3, hz, hfl, e⟩
      obtain ⟨n, hni, rfl⟩ : ∃ n, ns[i]? = some n ∧ x = V.int n := by
        rw [List.getElem?_map] at hx
        cases q : ns[i]? with
        | none => rw [q] at hx; cases hx
        | some n => rw [q] at hx; exact ⟨n, rfl, (Option.some.inj hx).symm⟩
      have hi : i < ns.length := (List.getElem?_eq_some_iff.mp hni).1
      have hdrop : ns.drop i = n :: ns.drop (i + 1) := by
        rw [List.drop_eq_getElem_cons hi]
        congr 1
        exact (List.getElem?_eq_some_iff.mp hni).2
      rw [hdrop] at e
      have lm : (left.map V.int).length = left.length := List.length_map ..
      walk_at "go"
      refine k_if (fun c => ?_) (fun c => ?_)
      · walk_at "go"
        refine k_lenL ?_ (SqL.of hl3)
        walk_at "go"
        refine k_ifnd (fun c2 => ?_) (fun c2 => ?_)
        · walk_at "go"
          refine k0 ?_ H3 s3
          rw [e]
          show (if _ then _ else _) = none
          rw [if_neg (by omega)]
        · walk_at "go"
          obtain ⟨z, hz2⟩ := Dk.at_map (ns := left) c (by omega)
          refine ⟨k_app0 hf3, ?_⟩
          walk_at "go"
          have hz3 : atI (left.map V.int) n = some (.int (left.getD n.toNat 0)) := by
            obtain ⟨k, rfl⟩ : ∃ k : Nat, n = (k : Int) := ⟨n.toNat, by omega⟩
            refine atI_nat ?_
            have hk : k < left.length := by omega
            simp [hk]
          refine k_ixL (SqL.of hl3) hz3 ?_
          walk_at "go"
          refine k_app1 hf3 (by rw [List.length_map, sizeLine_eq]; omega) (fun H4 b4 hf4 => ?_)
          have hl4 := b4 _ _ nlf hl3
          have hp4 := seqT_but b4 hf3 hp3
          have nf0 : H f = none := Same.free (s1) nf
          have nl0 : H l = none := nl
          have s4 : Same H H4 := But.same nf0 s3 b4
          have e2 : Dw.dr b (Dw.rg m) ns [] = Dw.dr b (if b then left else left.eraseIdx n.toNat) (ns.drop (i + 1)) (found ++ [left.getD n.toNat 0]) := by
            rw [e]
            show (if _ then _ else _) = _
            rw [if_pos ⟨c, by omega⟩]
          have hf4' : H4 f = some (.lst ((found ++ [left.getD n.toNat 0]).map V.int)) := by rw [hf4]; simp
          cases b with
          | true =>
            walk_at "go"
            exact ⟨_, left, _, rfl, s4, hp4, hl4, hf4', hz, by simp [hfl], e2⟩
          | false =>
            walk_at "go"
            refine ⟨k_app0 hl4, ?_⟩
            walk_at "go"
            have hk : n.toNat < left.length := by omega
            refine ⟨l, _, n, n.toNat, .int (left[n.toNat]'hk), rfl, rfl, hl4, by omega, by omega, ?_, ?_, ?_⟩
            · rw [lm]; exact Dw.seqIx c (by omega)
            · simp [hk]
            · refine ⟨_, left.eraseIdx n.toNat, _, rfl, But.same nl0 s4 But.upd, seqT_but But.upd hl4 hp4, ?_, ?_, ?_, by simp [hfl], e2⟩
              · rw [upd_same, Dw.erase_map]
              · rw [upd_ne (Ne.symm nlf)]; exact hf4'
              · rw [List.length_eraseIdx]; split <;> omega
      · walk_at "go"
        refine k0 ?_ H3 s3
        rw [e]
        show (if _ then _ else _) = none
        rw [if_neg (by omega)]
    · rintro σ H3 ⟨t, left, found, rfl, s3, hp3, hl3, hf3, hz, hfl, e⟩
      rw [List.length_map] at e
      rw [List.drop_length] at e
      walk_at "go"
      refine k_tupL (SqL.of hf3) (fun q H4 nq s4 hq4 => ?_)
      exact k1 found e q H4 (s3.trans s4) (SqT.of hq4)
end
end Lw
namespace Lw
open PySem PySem.Spec PyProof.Rows L2 Gx
section
variable {P : Program} {w : World} {K : PySem.W.Frag} {mg : Str → Option Value} {base : Heap} {f : Addr} {fd : FuncData}
theorem ok_draws_counted (F : FnP K "draws_counted" "draws_counted" s_draws_counted f fd) (T : Txt K mg) : FnOk P w K mg base (L2.CX P w) 1 f fd ["many", "size", "again"] (sp_draws_counted K) := by
  refine F.ok sc_draws_counted (fun vs H Q E h => ?_) (fun cdv A outer s H vs Q E hr h => ?_)
  · obtain ⟨m, n, b, rfl, _⟩ := h; rfl
  · refine ⟨_, (pss_cons (ps_set (i := 3) sc_draws_counted.nd rfl (Or.inl rfl) pe_int) (pss_cons (ps_for (passes_of rfl) rfl (pi_range1 rfl T.n_range (pa_cons (pv 1) pa_nil)) (pg_name (i := 4) sc_draws_counted.nd rfl (Or.inl rfl)) (pss_one (ps_if (pt_val (pv 2)) (pss_one (ps_set (i := 3) sc_draws_counted.nd rfl (Or.inl rfl) (pe_op (op_mulK (K := K) rfl) (pv 3) (pv 0)))) (pss_one (ps_set (i := 3) sc_draws_counted.nd rfl (Or.inl rfl) (pe_op (op_mulK (K := K) rfl) (pv 3) (pe_callB (call_maxU rfl) (by rfl) T.n_max (by decide +kernel) (pa_cons pe_int (pa_cons (pe_op op_sub (pv 0) (pv 4)) pa_nil))))))))) (pss_one (ps_ret (pv 3))))), ?_⟩
    obtain ⟨m, n, b, rfl, hm, hn, kk⟩ := h
    walk_at "go"
    refine k_rng1 (by omega) ?_
    have hnt : ((n : Int)).toNat = n := by omega
    rw [hnt]
    refine k_loopR (fun i σ H' => H' = H ∧ ∃ t : Option V, σ = [some (.int m), some (.int (n : Int)), some (.bl b), some (.int (Cn.cnt m b i)), t]) ⟨rfl, none, rfl⟩ ?_ ?_
    · rintro i σ H' hi ⟨rfl, t, rfl⟩
      have hc := Cn.cnt_small hm b i
      walk_at "go"
      cases b with
      | true =>
        walk_at "go"
        refine k_mulB (m := 20 * i + 1) (n := 20) hc hm (by omega) ?_
        walk_at "go"
        exact ⟨rfl, _, rfl⟩
      | false =>
        walk_at "go"
        refine k_mulB (m := 20 * i + 1) (n := 21) hc (by omega) (by omega) ?_
        walk_at "go"
        exact ⟨rfl, _, rfl⟩
    · rintro σ H' ⟨rfl, t, rfl⟩
      walk_at "go"
      exact kk
end
end Lw
namespace Lw
open PySem PySem.Spec PyProof.Rows L2 Gx
section
variable {P : Program} {w : World} {K : PySem.W.Frag} {mg : Str → Option Value} {base : Heap} {f : Addr} {fd : FuncData}
theorem ok_all_draws (F : FnP K "all_draws" "all_draws" s_all_draws f fd) (T : Txt K mg) (c_TooMany___init__ : XCl P w K mg base 1 "TooMany" ["self", "number"] (sp_TooMany___init__ K)) (c_draws_counted : Cl P w K mg base 1 "draws_counted" ["many", "size", "again"] (sp_draws_counted K)) : FnOk P w K mg base (L2.CX P w) 3 f fd ["many", "size", "again"] (sp_all_draws K) := by
  refine F.ok sc_all_draws (fun vs H Q E h => ?_) (fun cdv A outer s H vs Q E hr h => ?_)
  · obtain ⟨m, n, b, rfl, _⟩ := h; rfl
  · refine ⟨_, (pss_cons (ps_set (i := 3) sc_all_draws.nd rfl (Or.inl rfl) (pcall c_draws_counted hr (by first | decide | omega) (takes_of rfl rfl rfl rfl) (pa_cons (pv 0) (pa_cons (pv 1) (pa_cons (pv 2) pa_nil))))) (pss_cons (ps_if (pt_cmpR op_gt (pv 3) (C8.pe_gc (by rfl) T.c_MOST) (nomark _)) (pss_one (ps_raise rfl (takes_of rfl rfl rfl rfl) (pmkOK (K := K) rfl c_TooMany___init__ hr (by first | decide | omega) (pa_cons (pv 3) pa_nil)))) pss_nil) (pss_cons (ps_if (pt_cmpR (op_eqK (K := K) rfl hr) (pv 3) pe_int (nomark _)) (pss_one (ps_ret (pe_lst pa_nil))) pss_nil) (pss_cons (ps_set (i := 4) sc_all_draws.nd rfl (Or.inl rfl) (pe_lst (pa_cons (pe_tup pa_nil) pa_nil))) (pss_cons (ps_for (passes_of rfl) rfl (pi_range1 rfl T.n_range (pa_cons (pv 1) pa_nil)) (pg_name (i := 5) sc_all_draws.nd rfl (Or.inl rfl)) (pss_cons (ps_set (i := 6) sc_all_draws.nd rfl (Or.inl rfl) (pe_lst pa_nil)) (pss_cons (ps_for (passes_of rfl) rfl (pi_seqU (pv 4)) (pg_name (i := 7) sc_all_draws.nd rfl (Or.inr rfl)) (pss_one (ps_expr (pe_bmK (K := K) rfl PySem.F.plainAttrs_list PySem.F.slot_list_extend PySem.F.type_list_extend mt_extend (pv 6) (pa_cons (pe_lc (own := [("ballot", 8)]) (g := gName 8) (by rfl) sc_all_draws.nd (pi_range1 rfl T.n_range (pa_cons (pv 0) pa_nil)) (blkOk_by (own := [("ballot", 8)]) (N := ["many", "size", "again", "count", "found", "turn", "longer", "start", "ballot"]) (sc := defScope s_all_draws) (by decide +kernel)) (fun _ _ _ _ _ => pg_name (i := 8) sc_all_draws.nd rfl (Or.inl rfl)) (fun _ _ _ _ _ => (pts_one (PW.pt (pw_or (pt_val (pv 2)) (pw_or1 (pt_cmpR (op_niUK (K := K) rfl hr) (pv 8) (pv 7) (by with_unfolding_all rfl))))))) (fun _ _ _ _ _ => (pe_op (op_addK (K := K) rfl) (pv 7) (pe_tup (pa_cons (pv 8) pa_nil))))) pa_nil))))) (pss_one (ps_set (i := 4) sc_all_draws.nd rfl (Or.inl rfl) (pv 6)))))) (pss_one (ps_ret (pv 4)))))))), ?_⟩
    obtain ⟨m, n, b, rfl, hm, hn, k0, k1⟩ := h
    walk_at "go"
    refine ⟨(m : Int), n, b, rfl, by omega, hn, ?_⟩
    walk_at "go"
    generalize hc : Cn.cnt (m : Int) b n = c at k0 k1
    refine k_if (fun c1 => ?_) (fun c1 => ?_)
    · walk_at "go"
      refine k_mkx (fun d H1 nd s1 hd => ?_)
      exact k0 (by omega) d H1 s1 hd
    have k1 := k1 (by omega)
    walk_at "go"
    have hc0 : (0 : Int) ≤ c := by rw [← hc, ← Al.al_len]; omega
    refine k_if (fun c2 => ?_) (fun c2 => ?_)
    · walk_at "go"
      refine k_lstx (fun q H1 nq s1 hq => ?_) (by simp)
      refine k1 q [] H1 s1 nq hq ?_
      have e : (Al.al m b n).length = 0 := by have := Al.al_len (m := m) (b := b) n; omega
      rw [List.length_eq_zero_iff.mp e]
      exact .nil
    have pre : ∀ i, i ≤ n → (Al.al m b i).length ≤ 3000 := fun i hi => by
      have h1 := Al.al_len (m := m) (b := b) i
      have h2 := Al.cnt_mono (m := m) (b := b) hi (by rw [hc]; omega)
      rw [hc] at h2
      omega
    walk_at "go"
    refine k_tupx (fun e H1 ne s1 he => ?_) (by simp)
    walk_at "go"
    refine k_lstx (fun f H2 nf s2 hf => ?_) (by simp [sizeLine_eq])
    walk_at "go"
    refine k_rng1 (by omega) ?_
    rw [show ((n : Int)).toNat = n by omega]
    refine k_loopR (n := n) (fun i σ H' => ∃ (t1 t2 t3 : Option V) (f : Addr) (xs : List V), σ = [some (.int (m : Int)), some (.int (n : Int)), some (.bl b), some (.int c), some (.ref f), t1, t2, t3, none] ∧ Same H H' ∧ H f = none ∧ H' f = some (.lst xs) ∧ DpAll K H' xs ((Al.al m b i).map Al.tu))
      ⟨none, none, none, f, _, rfl, s1.trans s2, s1.free nf, hf, .cons (.tup (SqT.of (s2 _ _ he)) .nil) .nil⟩ ?_ ?_
    rotate_left
    · rintro σ H' ⟨t1, t2, t3, f, xs, rfl, s, nf, hf, da⟩
      walk_at "go"
      exact k1 f xs H' s nf hf da
    rintro i σ H3 hi ⟨t1, t2, t3, f, xs, rfl, s3, nf0, hf3, da⟩
    have hxl : xs.length = (Al.al m b i).length := by rw [Dt.len da, List.length_map]
    have p3 := pre i (by omega)
    have p4 := pre (i + 1) (by omega)
    walk_at "go"
    refine k_lstx (fun g H4 ng s4 hg => ?_) (by simp)
    walk_at "go"
    have hf4 := s4 _ _ hf3
    have nfg : f ≠ g := ne_of_none hf3 ng
    have ng0 := s3.free ng
    have noLt : ∀ l : List (List Int), noLs (l.map Al.tu) = true := fun l => Dt.noLs_of fun x hx => by
      obtain ⟨p, _, rfl⟩ := List.mem_map.mp hx
      refine Dt.noL_tup fun y hy => ?_
      obtain ⟨z, _, rfl⟩ := List.mem_map.mp hy
      rfl
    refine k_itUL (SqL.of hf4) ?_
    have da4 := dpAll_same s4 da
    refine k_loopL (fun j σ H' => ∃ (t2 : Option V) (ys : List V), σ = [some (.int (m : Int)), some (.int (n : Int)), some (.bl b), some (.int c), some (.ref f), some (.int (i : Int)), some (.ref g), t2, none] ∧ But g H4 H' ∧ H' g = some (.lst ys) ∧ DpAll K H' ys ((((Al.al m b i).take j).flatMap (Al.nx m b)).map Al.tu) ∧ DpAll K H' xs ((Al.al m b i).map Al.tu))
      ⟨_, [], rfl, fun _ _ _ h => h, hg, .nil, da4⟩ (fun j σ H' _ h => by obtain ⟨_, _, _, b, _⟩ := h; exact SqL.of (b _ _ nfg hf4)) ?_ ?_
    rotate_left
    · rintro σ H5 ⟨t2, ys, rfl, b5, hg5, dy, dx⟩
      rw [hxl, List.take_of_length_le (Nat.le_refl _)] at dy
      walk_at "go"
      exact ⟨_, _, _, g, ys, rfl, But.same ng0 (s3.trans s4) b5, ng0, hg5, dy⟩
    rintro j x σ H5 hx ⟨t2, ys, rfl, b5, hg5, dy, dx⟩
    obtain ⟨d, hd, dxx⟩ := Dt.at_ dx hx
    obtain ⟨s, hs, rfl⟩ : ∃ s, (Al.al m b i)[j]? = some s ∧ d = Al.tu s := by
      rw [List.getElem?_map] at hd
      cases e : (Al.al m b i)[j]? with
      | none => rw [e] at hd; cases hd
      | some s => rw [e] at hd; exact ⟨s, rfl, (Option.some.inj hd).symm⟩
    obtain ⟨p, zs, rfl, hp, dz⟩ := Dt.tup dxx
    rw [Dt.of_ints dz] at hp
    have okS := (Al.al_ok (List.mem_of_getElem? hs)).1
    have lenS := (Al.al_ok (List.mem_of_getElem? hs)).2
    have hyl : ys.length ≤ 3000 := by
      rw [Dt.len dy, List.length_map]
      refine Nat.le_trans ?_ p4
      show _ ≤ ((Al.al m b i).flatMap (Al.nx m b)).length
      conv => rhs; rw [← List.take_append_drop j (Al.al m b i), List.flatMap_append, List.length_append]
      omega
    walk_at "go"
    refine ⟨k_app0 hg5, ?_⟩
    walk_at "go"
    refine k_rng1 (by omega) ?_
    rw [show ((m : Int)).toNat = m by omega]
    refine k_lcR (fun D k zs H' => Same H5 H' ∧ DpAll K H' zs (((Dw.rg k).filter fun x => b || !s.contains x).map fun x => Al.tu (s ++ [x]))) (fun D H' nD sD hD => ⟨sD, .nil⟩) ?_ ?_
    · rintro D k zs H6 nD hk ⟨s6, dzs⟩ hD
      have zl : zs.length ≤ 1000 := by
        rw [Dt.len dzs, List.length_map]
        refine Nat.le_trans (List.length_filter_le ..) ?_
        rw [Dw.rg_len]
        omega
      refine k_lcB rfl ?_
      rw [Int.zero_add]
      have fil : ∀ y : Bool, (b || !s.contains (k : Int)) = y → ((Dw.rg (k + 1)).filter fun x => b || !s.contains x) = ((Dw.rg k).filter fun x => b || !s.contains x) ++ (if y = true then [(k : Int)] else []) := fun y e => by
        have h1 : ([(k : Int)].filter fun x => b || !s.contains x) = if y = true then [(k : Int)] else [] := by rw [List.filter_cons, e, List.filter_nil]
        rw [D24.rg_succ, List.filter_append, h1]
      have yes : (b || !s.contains (k : Int)) = true → ∀ q H7, Same H6 H7 → SqT K H7 q ((s ++ [(k : Int)]).map V.int) → ∃ acc, H7 D = some (.lst acc) ∧ acc.length < sizeLine ∧ ∃ zs, (Same H5 (upd H7 D (.lst (acc ++ [V.ref q]))) ∧ DpAll K (upd H7 D (.lst (acc ++ [V.ref q]))) zs (((Dw.rg (k + 1)).filter fun x => b || !s.contains x).map fun x => Al.tu (s ++ [x]))) ∧ upd H7 D (.lst (acc ++ [V.ref q])) D = some (.lst zs) := fun e q H7 s7 hq => by
        have hD7 := s7 _ _ hD
        have noL2 : noLs (((Dw.rg k).filter fun x => b || !s.contains x).map fun x => Al.tu (s ++ [x])) = true := by
          have := noLt (((Dw.rg k).filter fun x => b || !s.contains x).map fun x => s ++ [x])
          rw [List.map_map] at this
          exact this
        refine ⟨_, hD7, by rw [sizeLine_eq]; omega, _, ⟨But.same nD (s6.trans s7) But.upd, ?_⟩, upd_same⟩
        rw [fil true e, List.map_append]
        exact Dt.snoc (dpAll_but But.upd hD7 noL2 (dpAll_same s7 dzs)) (.tup (seqT_but But.upd hD7 hq) (Dk.dp_all _))
      have put : (b || !s.contains (k : Int)) = true → rTupX [V.int (k : Int)] H6 fun y H8 => rAddU K (.ref p) y H8 fun v H9 => ∃ acc, H9 D = some (.lst acc) ∧ acc.length < sizeLine ∧ ∃ zs, (Same H5 (upd H9 D (.lst (acc ++ [v]))) ∧ DpAll K (upd H9 D (.lst (acc ++ [v]))) zs (((Dw.rg (k + 1)).filter fun x => b || !s.contains x).map fun x => Al.tu (s ++ [x]))) ∧ upd H9 D (.lst (acc ++ [v])) D = some (.lst zs) := fun e => by
        refine k_tupx (fun u H8 nu s8 hu => ?_) (by simp [sizeLine_eq])
        refine k_addT1 (seqT_same s8 (seqT_same s6 hp)) (SqT.of hu) (by rw [List.length_map, sizeLine_eq, lenS]; omega) (fun q H9 s9 hq => ?_)
        rw [show s.map V.int ++ [V.int (k : Int)] = (s ++ [(k : Int)]).map V.int by simp] at hq
        exact yes e q H9 (s8.trans s9) hq
      walk_at "go"
      refine k_ifb (fun cb => ?_) (fun cb => ?_)
      · walk_at "go"
        exact put (by rw [cb]; rfl)
      · walk_at "go"
        refine k_ni (b := s.contains (k : Int)) (.inr (seqT_same s6 hp)) rfl (D24.flat_ints s) D24.in_ints ?_
        walk_at "go"
        cases ct : s.contains (k : Int) with
        | true =>
          walk_at "go"
          refine ⟨_, ⟨s6, ?_⟩, hD⟩
          rw [fil false (by rw [cb, ct]; rfl), if_neg (by decide), List.append_nil]
          exact dzs
        | false =>
          walk_at "go"
          exact put (by rw [ct]; simp)
    · rintro D zs H6 nD ⟨s6, dzs⟩ hD
      walk_at "go"
      have hg6 := s6 _ _ hg5
      have zl : zs.length ≤ 1000 := by
        rw [Dt.len dzs, List.length_map]
        refine Nat.le_trans (List.length_filter_le ..) ?_
        rw [Dw.rg_len]
        omega
      refine k_ext1 hg6 hD (by rw [sizeLine_eq]; omega) (fun H7 b7 hg7 => ?_)
      refine ⟨_, _, rfl, (b5.trans (But.of s6)).trans b7, hg7, ?_, dpAll_but b7 hg6 (noLt _) (dpAll_same s6 dx)⟩
      rw [Lw.take_snoc hs, List.flatMap_append, List.map_append]
      refine Dt.app (dpAll_but b7 hg6 (noLt _) (dpAll_same s6 dy)) ?_
      have e : (([s] : List (List Int)).flatMap (Al.nx m b)).map Al.tu = (((Dw.rg m).filter fun x => b || !s.contains x).map fun x => Al.tu (s ++ [x])) := by
        simp [Al.nx]
      rw [e]
      have noL2 : noLs (((Dw.rg m).filter fun x => b || !s.contains x).map fun x => Al.tu (s ++ [x])) = true := by
        have := noLt (((Dw.rg m).filter fun x => b || !s.contains x).map fun x => s ++ [x])
        rw [List.map_map] at this
        exact this
      exact dpAll_but b7 hg6 noL2 dzs
end
end Lw
namespace Lw
open PySem PySem.Spec PyProof.Rows L2 Gx
section
variable {P : Program} {w : World} {K : PySem.W.Frag} {mg : Str → Option Value} {base : Heap} {f : Addr} {fd : FuncData}
theorem ok__law_whole (F : FnP K "_law_whole" "_law_whole" s__law_whole f fd) (T : Txt K mg) : FnOk P w K mg base (L2.CX P w) 1 f fd ["_law_found"] (sp__law_whole K) := by
  refine F.ok sc__law_whole (fun vs H Q E h => ?_) (fun cdv A outer s H vs Q E hr h => ?_)
  · obtain ⟨x, t, b1, b2, rfl, _⟩ := h; rfl
  · refine ⟨_, (pss_one (ps_ret (pe_and (pe_callB (callK (K := K) (r := rIsi) rfl call_isi) (by rfl) T.n_isinstance (by decide +kernel) (pa_cons (pv 0) (pa_cons (pe_bltn (v := .ty "int") (by rfl) T.n_int (by decide +kernel) rfl) pa_nil))) (pe_one (pe_not (pe_callB (callK (K := K) (r := rIsi) rfl call_isi) (by rfl) T.n_isinstance (by decide +kernel) (pa_cons (pv 0) (pa_cons (pe_bltn (v := .ty "bool") (by rfl) T.n_bool (by decide +kernel) rfl) pa_nil)))))))), ?_⟩
    obtain ⟨x, t, b1, b2, rfl, ht, h1, h2, k⟩ := h
    walk_at "go"
    refine k_isi (.ty "int") ht h1 ?_
    walk_at "go"
    cases b1 with
    | false => walk_at "go"; exact k
    | true =>
      walk_at "go"
      refine k_isi (.ty "bool") ht h2 ?_
      walk_at "go"
      exact k
end
end Lw
namespace Lw
open PySem PySem.Spec PyProof.Rows L2 Gx
section
variable {P : Program} {w : World} {K : PySem.W.Frag} {mg : Str → Option Value} {base : Heap} {f : Addr} {fd : FuncData}
theorem ok__law_digits (F : FnP K "_law_digits" "_law_digits" s__law_digits f fd) (T : Txt K mg) : FnOk P w K mg base (L2.CX P w) 1 f fd ["_law_script", "_law_k"] (sp__law_digits K) := by
  refine F.ok sc__law_digits (fun vs H Q E h => ?_) (fun cdv A outer s H vs Q E hr h => ?_)
  · obtain ⟨a, ns, k, rfl, _⟩ := h; rfl
  · refine ⟨_, (pss_cons (ps_if (pt_cmpR op_lt (pv 1) (pe_callB (callK (K := K) (r := rLenU) rfl call_lenU) (by rfl) T.n_len (by decide +kernel) (pa_cons (pv 0) pa_nil)) (nomark _)) (pss_one (ps_ret (pe_op op_modN (pe_ix (ix_K (K := K) rfl) (pv 0) (pv 1) (fun _ _ => rfl)) (pe_op op_pow pe_int pe_int)))) pss_nil) (pss_cons (ps_set (i := 2) sc__law_digits.nd rfl (Or.inl rfl) pe_int) (C8.pss_cut (ps_if (pt_cmpR (op_neK (K := K) rfl hr) (pv 0) (pe_lst pa_nil) (nomark _)) (pss_cons (ps_set (i := 2) sc__law_digits.nd rfl (Or.inl rfl) (pe_callB (call_maxU rfl) (by rfl) T.n_max (by decide +kernel) (pa_cons pe_int (pa_cons (pe_ix (ix_K (K := K) rfl) (pv 0) (pe_op op_modN (pv 1) (pe_callB (callK (K := K) (r := rLenU) rfl call_lenU) (by rfl) T.n_len (by decide +kernel) (pa_cons (pv 0) pa_nil))) (fun _ _ => rfl)) pa_nil)))) (pss_one (ps_for (passes_of rfl) rfl (pi_range1 rfl T.n_range (pa_cons (pe_op op_fdivG (pv 1) (pe_callB (callK (K := K) (r := rLenU) rfl call_lenU) (by rfl) T.n_len (by decide +kernel) (pa_cons (pv 0) pa_nil))) pa_nil)) (pg_name (i := 3) sc__law_digits.nd rfl (Or.inl rfl)) (pss_one (ps_set (i := 2) sc__law_digits.nd rfl (Or.inl rfl) (pe_op op_fdivG (pv 2) (pe_op op_pow pe_int pe_int))))))) pss_nil) (pss_one (ps_ret (pe_op op_modN (pv 2) (pe_op op_pow pe_int pe_int))))))), ?_⟩
    obtain ⟨a, ns, k, rfl, hS, hl, k0, k1, kk⟩ := h
    have hlm : (ns.map V.int).length = ns.length := List.length_map ..
    walk_at "go"
    refine k_lenL ?_ hS
    walk_at "go"
    refine k_if (fun c => ?_) (fun c => ?_)
    · walk_at "go"
      obtain ⟨z, hz⟩ := Dk.at_map (ns := ns) k0 (by omega)
      refine k_ixL hS hz ?_
      walk_at "go"
      refine kk _ _ (Same.refl H) (by omega) (by omega)
    · walk_at "go"
      refine k_cut0 ?_
      walk_at "go"
      refine k_lstx (fun p H1 np s1 hp1 => ?_) (by simp)
      have hS1 := seqL_same s1 hS
      refine k_neD (Dk.dp_ints hS1) (.lst (SqL.of hp1) .nil) ?_ (Dk.shaped_ints ns) rfl
      walk_at "go"
      rw [Dk.eqv_nil]
      refine k_ifb (fun c2 => ?_) (fun c2 => ?_)
      · have hpos : 0 < ns.length := by
          cases ns with
          | nil => simp at c2
          | cons => simp
        walk_at "go"
        refine k_lenL ?_ hS1
        walk_at "go"
        obtain ⟨z, hz⟩ := Dk.at_map (ns := ns) (i := k % (((ns.map V.int).length : Nat) : Int)) (Int.emod_nonneg _ (by omega)) (by
          have := Int.emod_lt_of_pos k (show (0 : Int) < ((ns.map V.int).length : Nat) by omega)
          omega)
        refine k_ixL hS1 hz ?_
        walk_at "go"
        refine k_lenL ?_ hS1
        walk_at "go"
        have hq0 : 0 ≤ k / (((ns.map V.int).length : Nat) : Int) := Int.ediv_nonneg k0 (by omega)
        have hq1 : k / (((ns.map V.int).length : Nat) : Int) ≤ k := Int.ediv_le_self _ k0
        refine k_rng1 (by omega) ?_
        refine k_loopR (fun _ σ H' => ∃ (c : Int) (t : Option V), σ = [some (.ref a), some (.int k), some (.int c), t] ∧ Same H1 H') ⟨_, none, rfl, Same.refl _⟩ ?_ ?_
        · rintro i σ H' hi ⟨c, t, rfl, s2⟩
          walk_at "go"
          exact ⟨_, _, rfl, s2⟩
        · rintro σ H' ⟨c, t, rfl, s2⟩
          walk_at "go"
          refine kk _ _ (s1.trans s2) (by omega) (by omega)
      · walk_at "go"
        refine kk _ _ s1 (by omega) (by omega)
end
end Lw
namespace Lw
open PySem PySem.Spec PyProof.Rows L2 Gx
section
variable {P : Program} {w : World} {K : PySem.W.Frag} {mg : Str → Option Value} {base : Heap} {f : Addr} {fd : FuncData}
theorem ok__law_deck (F : FnP K "_law_deck" "_law_deck" s__law_deck f fd) (T : Txt K mg) (c__law_digits : Cl P w K mg base 1 "_law_digits" ["_law_script", "_law_k"] (sp__law_digits K)) : FnOk P w K mg base (L2.CX P w) 2 f fd ["_law_script", "_law_most"] (sp__law_deck K) := by
  refine F.ok sc__law_deck (fun vs H Q E h => ?_) (fun cdv A outer s H vs Q E hr h => ?_)
  · obtain ⟨a, ns, m, rfl, _⟩ := h; rfl
  · refine ⟨_, (pss_cons (ps_set (i := 2) sc__law_deck.nd rfl (Or.inl rfl) (pe_lst pa_nil)) (pss_cons (ps_set (i := 3) sc__law_deck.nd rfl (Or.inl rfl) pe_int) (pss_cons (ps_for (passes_of rfl) rfl (pi_range1 rfl T.n_range (pa_cons (pv 1) pa_nil)) (pg_name (i := 4) sc__law_deck.nd rfl (Or.inl rfl)) (pss_cons (ps_set (i := 5) sc__law_deck.nd rfl (Or.inl rfl) (pcall c__law_digits hr (by first | decide | omega) (takes_of rfl rfl rfl rfl) (pa_cons (pv 0) (pa_cons (pv 4) pa_nil)))) (C8.pss_cut (ps_if (PW.pt (pw_and (pt_cmpR op_ge (pv 4) (pe_callB (callK (K := K) (r := rLenU) rfl call_lenU) (by rfl) T.n_len (by decide +kernel) (pa_cons (pv 0) pa_nil)) (nomark _)) (pw_and1 (pt_cmpR (op_eqK (K := K) rfl hr) (pv 5) pe_int (nomark _))))) (pss_one (ps_set (i := 5) sc__law_deck.nd rfl (Or.inl rfl) (pe_op op_modN (pe_op (op_mulK (K := K) rfl) (pe_op op_modN (pe_op (op_mulK (K := K) rfl) (pv 3) pe_int) pe_int) pe_int) pe_int))) pss_nil) (pss_cons (ps_set (i := 3) sc__law_deck.nd rfl (Or.inl rfl) (pe_op op_modN (pe_op (op_addK (K := K) rfl) (pe_op (op_addK (K := K) rfl) (pe_op (op_mulK (K := K) rfl) (pv 3) pe_int) (pv 5)) (pv 4)) pe_int)) (pss_one (ps_expr (pe_bmK (K := K) rfl PySem.F.plainAttrs_list PySem.F.slot_list_append PySem.F.type_list_append mt_append (pv 2) (pa_cons (pv 5) pa_nil)))))))) (pss_one (ps_ret (pe_revL (pv 2))))))), ?_⟩
    obtain ⟨a, ns, m, rfl, hS, hl, hm, kk⟩ := h
    have hlm : (ns.map V.int).length = ns.length := List.length_map ..
    walk_at "go"
    refine k_lstx (fun l H1 nl s1 hl1 => ?_) (by simp)
    walk_at "go"
    refine k_rng1 (by omega) ?_
    have hmt : ((m : Int)).toNat = m := by omega
    rw [hmt]
    refine k_loopR (fun i σ H' => ∃ (c : Int) (t1 t2 : Option V) (ds : List Int), σ = [some (.ref a), some (.int (m : Int)), some (.ref l), some (.int c), t1, t2] ∧ Same H H' ∧ H' l = some (.lst (ds.map V.int)) ∧ ds.length = i ∧ Deck ds ∧ 0 ≤ c ∧ c < 2147483647) ⟨_, none, none, [], rfl, s1, hl1, rfl, fun d hd => (nomatch hd), by omega, by omega⟩ ?_ ?_
    · rintro i σ H2 hi ⟨c, t1, t2, ds, rfl, s2, hl2, hn, hd, c0, c1⟩
      walk_at "go"
      refine ⟨a, ns, (i : Int), rfl, seqL_same s2 hS, hl, by omega, by omega, fun r H3 s3 r0 r1 => ?_⟩
      walk_at "go"
      refine k_cut (fun σ H' => ∃ r : Int, 0 ≤ r ∧ r < 10000000000000000000000000000000000000000000000000000000000000 ∧ H' = H3 ∧ σ = [some (.ref a), some (.int (m : Int)), some (.ref l), some (.int c), some (.int (i : Int)), some (.int r)]) ?_ (fun σ H' => ?_)
      rotate_left
      · rintro ⟨r, r0, r1, rfl, rfl⟩
        have hl3 := s3 _ _ hl2
        walk_at "go"
        refine k_mulB (m := 40) (n := 40) (by omega) (by decide) (by decide) ?_
        walk_at "go"
        refine ⟨k_app0 hl3, ?_⟩
        walk_at "go"
        refine k_app1 hl3 (by rw [List.length_map, sizeLine_eq]; omega) (fun H4 b4 hl4 => ?_)
        refine ⟨_, _, _, ds ++ [r], rfl, But.same nl (s2.trans s3) b4, ?_, by simp [hn], ?_, by omega, by omega⟩
        · rw [hl4]; simp
        · intro d hd'
          rcases List.mem_append.mp hd' with q | q
          · exact hd d q
          · rw [List.mem_singleton.mp q]; exact ⟨r0, r1⟩
      walk_at "go"
      refine k_lenL ?_ (seqL_same s3 (seqL_same s2 hS))
      walk_at "go"
      have hl3 := s3 _ _ hl2
      have hz : (ds.map V.int).length < sizeLine := by rw [List.length_map, sizeLine_eq]; omega
      refine k_if (fun c2 => ?_) (fun c2 => ?_)
      · walk_at "go"
        refine k_if (fun c3 => ?_) (fun c3 => ?_)
        · walk_at "go"
          refine k_mulB (m := 40) (n := 40) (by omega) (by decide) (by decide) ?_
          walk_at "go"
          refine k_mulB (m := 40) (n := 40) (by omega) (by decide) (by decide) ?_
          walk_at "go"
          exact ⟨_, by omega, by omega, rfl, rfl⟩
        · walk_at "go"
          exact ⟨_, r0, r1, rfl, rfl⟩
      · walk_at "go"
        exact ⟨_, r0, r1, rfl, rfl⟩
    · rintro σ H2 ⟨c, t1, t2, ds, rfl, s2, hl2, hn, hd, c0, c1⟩
      walk_at "go"
      refine k_rev1 (SqL.of hl2) (fun p H3 np s3 hp => ?_)
      refine kk p ds.reverse H3 (s2.trans s3) (s2.free np) ?_ (by simp [hn]) (fun d hd' => hd d (List.mem_reverse.mp hd'))
      rw [hp, List.map_reverse]
end
end Lw
namespace Lw
open PySem PySem.Spec PyProof.Rows L2 Gx
section
variable {P : Program} {w : World} {K : PySem.W.Frag} {mg : Str → Option Value} {base : Heap} {f : Addr} {fd : FuncData}
theorem ok__law_counted (F : FnP K "_law_counted" "_law_counted" s__law_counted f fd) (T : Txt K mg) : FnOk P w K mg base (L2.CX P w) 1 f fd ["_law_many", "_law_size", "_law_again"] (sp__law_counted K) := by
  refine F.ok sc__law_counted (fun vs H Q E h => ?_) (fun cdv A outer s H vs Q E hr h => ?_)
  · obtain ⟨m, n, b, rfl, _⟩ := h; rfl
  · refine ⟨_, (pss_cons (ps_set (i := 3) sc__law_counted.nd rfl (Or.inl rfl) pe_int) (pss_cons (ps_for (passes_of rfl) rfl (pi_range1 rfl T.n_range (pa_cons (pv 1) pa_nil)) (pg_name (i := 4) sc__law_counted.nd rfl (Or.inl rfl)) (pss_one (ps_set (i := 3) sc__law_counted.nd rfl (Or.inl rfl) (pe_op (op_mulK (K := K) rfl) (pv 3) (pe_callB (call_maxU rfl) (by rfl) T.n_max (by decide +kernel) (pa_cons pe_int (pa_cons (pe_op op_sub (pv 0) (pe_op (op_mulK (K := K) rfl) (pv 4) (pe_callTy call_intU (by rfl) T.n_int (by decide +kernel) (pa_cons (pe_not (pv 2)) pa_nil)))) pa_nil))))))) (pss_one (ps_ret (pv 3))))), ?_⟩
    obtain ⟨m, n, b, rfl, m0, m1, hn, kk⟩ := h
    walk_at "go"
    refine k_rng1 (by omega) ?_
    rw [show ((n : Int)).toNat = n by omega]
    refine k_loopR (fun i σ H' => H' = H ∧ ∃ t : Option V, σ = [some (.int m), some (.int (n : Int)), some (.bl b), some (.int (Cn.cnt m b i)), t]) ⟨rfl, none, rfl⟩ ?_ ?_
    · rintro i σ H' hi ⟨rfl, t, rfl⟩
      have hc := Cn.cnt_small (m := m) (by omega) b i
      walk_at "go"
      refine k_mulB (m := 20) (n := 2) (by omega) (by cases b <;> decide) (by decide) ?_
      walk_at "go"
      have e : max 0 (m - (i : Int) * (if (!b) = true then (1 : Int) else 0)) = Cn.fac m b i := by
        unfold Cn.fac
        cases b
        · simp
        · simp; omega
      rw [e]
      refine k_mulB (m := 20 * i + 1) (n := 20) hc (Cn.fac_small (by omega) b i) (by omega) ?_
      walk_at "go"
      exact ⟨rfl, _, rfl⟩
    · rintro σ H' ⟨rfl, t, rfl⟩
      walk_at "go"
      exact kk
end
end Lw
namespace Lw
open PySem PySem.Spec PyProof.Rows L2 Gx
section
variable {P : Program} {w : World} {K : PySem.W.Frag} {mg : Str → Option Value} {base : Heap} {f : Addr} {fd : FuncData}
theorem ok__law_refused (F : FnP K "_law_refused" "_law_refused" s__law_refused f fd) (T : Txt K mg) (c_all_draws : Cl P w K mg base 3 "all_draws" ["many", "size", "again"] (sp_all_draws K)) : FnOk P w K mg base (L2.CX P w) 4 f fd ["_law_many", "_law_size", "_law_again"] (sp__law_refused K) := by
  refine F.ok sc__law_refused (fun vs H Q E h => ?_) (fun cdv A outer s H vs Q E hr h => ?_)
  · obtain ⟨m, n, b, rfl, _⟩ := h; rfl
  · refine ⟨_, (pss_cons (ps_set (i := 3) sc__law_refused.nd rfl (Or.inl rfl) pe_non) (pss_cons (ps_try_as (i := 4) rfl rfl sc__law_refused.nd rfl rfl ⟨rfl, by decide, Or.inl T.g_SureError⟩ (takes_of rfl rfl rfl rfl) (fun W pn xe tk po => (pss_one (ps_expr (pcall c_all_draws hr (by first | decide | omega) tk (pa_cons (pv 0) (pa_cons (pv 1) (pa_cons (pv 2) pa_nil))))))) (fun a oe cls d pn hz hf => (pss_cons (ps_set (i := 5) sc__law_refused.nd rfl (Or.inl rfl) (pe_lst (pa_cons (pe_callB (call_isEU hz hf) (by rfl) T.n_isinstance (by decide +kernel) (pa_cons (pv 4) (pa_cons (C8.pe_gc (v := .ref (He.ga K "Ended")) (by rfl) T.c_Ended) pa_nil))) (pa_cons (pe_callB (call_isEU hz hf) (by rfl) T.n_isinstance (by decide +kernel) (pa_cons (pv 4) (pa_cons (C8.pe_gc (v := .ref (He.ga K "NoNumber")) (by rfl) T.c_NoNumber) pa_nil))) (pa_cons (pe_not (pe_callB (call_isEU hz hf) (by rfl) T.n_isinstance (by decide +kernel) (pa_cons (pv 4) (pa_cons (pe_bltn (v := .ty "ValueError") (by rfl) T.n_ValueError (by decide +kernel) rfl) pa_nil)))) pa_nil))))) (pss_one (ps_if (PW.pt (pw_and (pt_val (pe_callB (call_isEU hz hf) (by rfl) T.n_isinstance (by decide +kernel) (pa_cons (pv 4) (pa_cons (C8.pe_gc (v := .ref (He.ga K "TooMany")) (by rfl) T.c_TooMany) pa_nil)))) (pw_and1 (pt_cmpR (op_niK (K := K) rfl) pe_bl (pv 5) (by with_unfolding_all rfl))))) (pss_one (ps_set (i := 3) sc__law_refused.nd rfl (Or.inl rfl) (pe_xf T.xf_TooMany T.f_TooMany_number hz hf (pv 4)))) pss_nil))))) (pss_one (ps_ret (pv 3))))), ?_⟩
    obtain ⟨m, n, b, rfl, hm, hn, hc, kk⟩ := h
    walk_at "go"
    refine ⟨m, n, b, rfl, hm, hn, fun _ d H1 s1 hd => ?_, fun z => absurd z (by omega)⟩
    refine ⟨true, T.m_TooMany_SureError, fun _ a na => ?_, fun z => (nomatch z)⟩
    walk_at "go"
    refine k_isED hd T.e_TooMany T.i_TooMany_Ended (fun _ h => h) ?_
    walk_at "go"
    refine k_isED hd T.e_TooMany T.i_TooMany_NoNumber (fun _ h => h) ?_
    walk_at "go"
    refine k_isED hd T.e_TooMany T.i_TooMany_ValueError (fun _ h => h) ?_
    walk_at "go"
    refine k_lstx (fun l1 H2 n1 s2 h1 => ?_) (by simp [sizeLine_eq])
    walk_at "go"
    refine k_isED (s2 _ _ hd) T.e_TooMany T.i_TooMany_TooMany (fun _ h => h) ?_
    walk_at "go"
    refine k_notIn (SqL.of h1) rfl rfl ?_
    walk_at "go"
    refine k_xfx (s2 _ _ hd) ?_
    walk_at "go"
    exact kk H2 (s1.trans s2)
end
end Lw
namespace Lw
open PySem PySem.Spec PyProof.Rows L2 Gx
section
variable {P : Program} {w : World} {K : PySem.W.Frag} {mg : Str → Option Value} {base : Heap} {f : Addr} {fd : FuncData}
theorem ok__law_numbers (F : FnP K "_law_numbers" "_law_numbers" s__law_numbers f fd) (T : Txt K mg) : FnOk P w K mg base (L2.CX P w) 1 f fd ["_law_draw", "_law_again"] (sp__law_numbers K) := by
  refine F.ok sc__law_numbers (fun vs H Q E h => ?_) (fun cdv A outer s H vs Q E hr h => ?_)
  · obtain ⟨p, s, b, rfl, _⟩ := h; rfl
  · refine ⟨_, (pss_cons (ps_set (i := 2) sc__law_numbers.nd rfl (Or.inl rfl) (pe_lst pa_nil)) (pss_cons (ps_for (passes_of rfl) rfl (pi_range1 rfl T.n_range (pa_cons (pe_callB (callK (K := K) (r := rLenU) rfl call_lenU) (by rfl) T.n_len (by decide +kernel) (pa_cons (pv 0) pa_nil)) pa_nil)) (pg_name (i := 3) sc__law_numbers.nd rfl (Or.inr rfl)) (pss_cons (ps_setLc (i := 4) (own := [("_law_ballot", 5)]) (g := gName 5) (by rfl) sc__law_numbers.nd rfl rfl (sw_true rfl rfl rfl (by decide +kernel)) (pi_seqU (pe_slice (sl_K (K := K) rfl) (pv 0) po_none (po_some (pv 3)))) (blkOk_by (own := [("_law_ballot", 5)]) (N := ["_law_draw", "_law_again", "_law_numbers_here", "_law_k", "_law_less", "_law_ballot"]) (sc := defScope s__law_numbers) (by decide +kernel)) (fun _ _ _ _ _ => pg_name (i := 5) sc__law_numbers.nd rfl (Or.inl rfl)) (fun _ _ _ _ _ => (pts_one (pt_cmpR op_lt (pv 5) (pe_ix (ix_K (K := K) rfl) (pv 0) (pv 3) (fun _ _ => rfl)) (nomark _)))) (fun _ _ _ _ _ => (pv 5))) (pss_one (ps_expr (pe_bmK (K := K) rfl PySem.F.plainAttrs_list PySem.F.slot_list_append PySem.F.type_list_append mt_append (pv 2) (pa_cons (pe_op op_sub (pe_ix (ix_K (K := K) rfl) (pv 0) (pv 3) (fun _ _ => rfl)) (pe_op (op_mulK (K := K) rfl) (pe_callB (callK (K := K) (r := rLenU) rfl call_lenU) (by rfl) T.n_len (by decide +kernel) (pa_cons (pv 4) pa_nil)) (pe_callTy call_intU (by rfl) T.n_int (by decide +kernel) (pa_cons (pe_not (pv 1)) pa_nil)))) pa_nil)))))) (pss_one (ps_ret (pe_callTy (callK (K := K) (r := rTupV) rfl call_tupV) (by rfl) T.n_tuple (by decide +kernel) (pa_cons (pv 2) pa_nil)))))), ?_⟩
    obtain ⟨p, s, b, rfl, hp, hl, hb, kk⟩ := h
    walk_at "go"
    refine k_lstx (fun l H1 nl s1 hl1 => ?_) (by simp)
    walk_at "go"
    refine k_lenT ?_ (seqT_same s1 hp)
    walk_at "go"
    rw [List.length_map]
    refine k_rng1 (by omega) ?_
    rw [show ((s.length : Int)).toNat = s.length by omega]
    refine k_loopR (fun i σ H' => ∃ (t1 t2 : Option V), σ = [some (.ref p), some (.bl b), some (.ref l), t1, t2, none] ∧ Same H H' ∧ H' l = some (.lst ((Al.numsOf b [] (s.take i)).map V.int))) ⟨none, none, rfl, s1, hl1⟩ ?_ ?_
    rotate_left
    · rintro σ H2 ⟨t1, t2, rfl, s2, hl2⟩
      rw [List.take_of_length_le (Nat.le_refl _)] at hl2
      walk_at "go"
      refine k_tupL (SqL.of hl2) (fun q H4 nq s4 hq4 => ?_)
      exact kk q H4 (s2.trans s4) (SqT.of hq4)
    rintro i σ H2 hi ⟨t1, t2, rfl, s2, hl2⟩
    obtain ⟨x, hx⟩ : ∃ x, s[i]? = some x := ⟨s[i], by simp [hi]⟩
    have hx2 : (s.map V.int)[i]? = some (.int x) := by rw [List.getElem?_map, hx]; rfl
    have hp2 := seqT_same s2 hp
    walk_at "go"
    refine k_slT hp2 (by rw [HT.sIx_nat, List.length_map]; omega) (fun u H3 nu s3 hu => ?_)
    rw [Ct.to (by rw [List.length_map]; omega), ← List.map_take] at hu
    walk_at "go"
    refine k_lcU (.inr (SqT.of hu)) (fun D j ys H' => ys = (((s.take i).take j).filter fun y => decide (y < x)).map V.int ∧ Same H3 H') (fun D H' nD sD hD => ⟨rfl, sD⟩) (fun D j ys H' nD h => h.2) ?_ ?_
    · rintro D j v ys H4 nD hv ⟨rfl, s4⟩ hD
      obtain ⟨y, hy, rfl⟩ := int_at hv
      refine k_lcB rfl ?_
      walk_at "go"
      refine k_ixT (seqT_same s4 (seqT_same s3 hp2)) (atI_nat hx2) ?_
      walk_at "go"
      have hlen : (((s.take i).take j).filter fun y => decide (y < x)).length ≤ 1000 := Nat.le_trans (List.length_filter_le ..) (by rw [List.length_take, List.length_take]; omega)
      refine k_if (fun c => ?_) (fun c => ?_)
      · walk_at "go"
        refine ⟨_, hD, (by rw [sizeLine_eq, List.length_map]; omega), _, ⟨?_, But.same nD s4 But.upd⟩, upd_same⟩
        rw [fil_take hy, if_pos (decide_eq_true c)]
        simp
      · refine ⟨_, ⟨?_, s4⟩, hD⟩
        rw [fil_take hy, if_neg (by rw [decide_eq_false c]; decide), List.append_nil]
    rintro D ys H4 nD ⟨rfl, s4⟩ hD
    rw [List.length_map, List.take_of_length_le (Nat.le_refl _)] at hD
    have hl4 := s4 _ _ (s3 _ _ hl2)
    walk_at "go"
    refine ⟨k_app0 hl4, ?_⟩
    walk_at "go"
    refine k_ixT (seqT_same s4 (seqT_same s3 hp2)) (atI_nat hx2) ?_
    walk_at "go"
    refine k_lenL ?_ (SqL.of hD)
    walk_at "go"
    rw [notb, List.length_map]
    have hlen : ((s.take i).filter fun y => decide (y < x)).length ≤ 1000 := Nat.le_trans (List.length_filter_le ..) (by rw [List.length_take]; omega)
    refine k_mulB (m := 20) (n := 2) (by omega) (by cases b <;> decide) (by decide) ?_
    walk_at "go"
    refine k_app1 hl4 (by rw [List.length_map, Al.nums_len, sizeLine_eq, List.length_take]; omega) (fun H5 b5 hl5 => ?_)
    refine ⟨_, _, rfl, But.same nl ((s2.trans s3).trans s4) b5, ?_⟩
    rw [hl5, take_snoc hx, Al.nums_snoc]
    simp
end
end Lw
namespace Lw
open PySem PySem.Spec PyProof.Rows L2 Gx
section
variable {P : Program} {w : World} {K : PySem.W.Frag} {mg : Str → Option Value} {base : Heap} {f : Addr} {fd : FuncData}
theorem ok__law_is_draw (F : FnP K "_law_is_draw" "_law_is_draw" s__law_is_draw f fd) (T : Txt K mg) (c_drawn : Cl P w K mg base 1 "drawn" ["many", "numbers", "again"] (sp_drawn K)) (c__law_numbers : Cl P w K mg base 1 "_law_numbers" ["_law_draw", "_law_again"] (sp__law_numbers K)) (c__law_whole : Cl P w K mg base 1 "_law_whole" ["_law_found"] (sp__law_whole K)) : FnOk P w K mg base (L2.CX P w) 2 f fd ["_law_draw", "_law_many", "_law_size", "_law_again"] (sp__law_is_draw K) := by
  refine F.ok sc__law_is_draw (fun vs H Q E h => ?_) (fun cdv A outer s H vs Q E hr h => ?_)
  · obtain ⟨m, n, b, p, s, rfl, _⟩ := h; rfl
  · refine ⟨_, (pss_cons (ps_if (PW.pt (pw_or (pt_not (pt_val (pe_callB (callK (K := K) (r := rIsi) rfl call_isi) (by rfl) T.n_isinstance (by decide +kernel) (pa_cons (pv 0) (pa_cons (pe_bltn (v := .ty "tuple") (by rfl) T.n_tuple (by decide +kernel) rfl) pa_nil))))) (pw_or1 (pt_cmpR (op_neK (K := K) rfl hr) (pe_callB (callK (K := K) (r := rLenU) rfl call_lenU) (by rfl) T.n_len (by decide +kernel) (pa_cons (pv 0) pa_nil)) (pv 2) (nomark _))))) (pss_one (ps_ret pe_bl)) pss_nil) (pss_cons (ps_for (passes_of rfl) rfl (pi_seqU (pv 0)) (pg_name (i := 4) sc__law_is_draw.nd rfl (Or.inl rfl)) (pss_one (ps_if (PW.pt (pw_or (pt_not (pt_val (pcall c__law_whole hr (by first | decide | omega) (takes_of rfl rfl rfl rfl) (pa_cons (pv 4) pa_nil)))) (pw_or1 (pt_not (pt_chain op_le op_lt pe_int (pv 4) (pv 1)))))) (pss_one (ps_ret pe_bl)) pss_nil))) (pss_cons (ps_if (PW.pt (pw_and (pt_not (pt_val (pv 3))) (pw_and1 (pt_cmpR op_lt (pe_lenSetT (K := K) rfl (by rfl) T.n_len (by rfl) T.n_set (pv 0)) (pv 2) (nomark _))))) (pss_one (ps_ret pe_bl)) pss_nil) (pss_one (ps_ret (pe_cmpR (op_eqK (K := K) rfl hr) (pcall c_drawn hr (by first | decide | omega) (takes_of rfl rfl rfl rfl) (pa_cons (pv 1) (pa_cons (pcall c__law_numbers hr (by first | decide | omega) (takes_of rfl rfl rfl rfl) (pa_cons (pv 0) (pa_cons (pv 3) pa_nil))) (pa_cons (pv 3) pa_nil)))) (pv 0) (nomark _))))))), ?_⟩
    obtain ⟨m, n, b, p, s, rfl, hp, ok, hl, hm, hn, kk⟩ := h
    walk_at "go"
    refine k_isi (.ty "tuple") (ty_tup hp) (kit_ty (r := true) (by decide +kernel)) ?_
    walk_at "go"
    refine k_lenT ?_ hp
    walk_at "go"
    rw [List.length_map]
    refine k_ifn (fun c => absurd (by omega) c) (fun _ => ?_)
    walk_at "go"
    refine k_itUT hp ?_
    refine k_loopT (fun i σ H' => H = H' ∧ ∃ t : Option V, σ = [some (.ref p), some (.int (m : Int)), some (.int (n : Int)), some (.bl b), t]) ⟨rfl, none, rfl⟩ (fun i σ H' _ h => h.1 ▸ hp) ?_ ?_
    · rintro i y σ H' hy ⟨rfl, t, rfl⟩
      obtain ⟨x, hx, rfl⟩ := int_at hy
      have hb := ok.1 x (List.mem_of_getElem? hx)
      walk_at "go"
      refine whole_int ?_
      walk_at "go"
      refine k_if (fun c => ?_) (fun c => absurd hb.1 c)
      walk_at "go"
      refine k_ifn (fun c => absurd hb.2 c) (fun _ => ?_)
      walk_at "go"
      exact ⟨rfl, _, rfl⟩
    rintro σ H' ⟨rfl, t, rfl⟩
    have big : ∀ x ∈ s, x.natAbs < 2 ^ 40 := fun x hx => by
      have := ok.1 x hx
      omega
    cases b with
    | true =>
      walk_at "go"
      refine ⟨p, s, true, rfl, hp, by omega, big, fun q H1 s1 hq => ?_⟩
      walk_at "go"
      refine ⟨m, q, _, true, rfl, hq, hm, by rw [Al.nums_len]; omega, fun z => ?_, fun out eo r H2 s2 hr => ?_⟩
      · rw [Al.dr_back ok] at z; cases z
      rw [Al.dr_back ok] at eo
      cases eo
      walk_at "go"
      refine k_eqD (.tup hr (Dk.dp_all _)) (.tup (seqT_same s2 (seqT_same s1 hp)) (Dk.dp_all _)) ?_ (Dk.shaped_tints _) (Dk.shaped_tints _)
      rw [SeqAt.eqv_refl _ (SeqAt.canLay_of_shaped (Dk.shaped_tints s))]
      exact kk _ (s1.trans s2)
    | false =>
      walk_at "go"
      refine k_lenSetTx hp (ok.2 rfl) (by omega) ?_
      walk_at "go"
      refine k_if (fun c => absurd c (by omega)) (fun _ => ?_)
      walk_at "go"
      refine ⟨p, s, false, rfl, hp, by omega, big, fun q H1 s1 hq => ?_⟩
      walk_at "go"
      refine ⟨m, q, _, false, rfl, hq, hm, by rw [Al.nums_len]; omega, fun z => ?_, fun out eo r H2 s2 hr => ?_⟩
      · rw [Al.dr_back ok] at z; cases z
      rw [Al.dr_back ok] at eo
      cases eo
      walk_at "go"
      refine k_eqD (.tup hr (Dk.dp_all _)) (.tup (seqT_same s2 (seqT_same s1 hp)) (Dk.dp_all _)) ?_ (Dk.shaped_tints _) (Dk.shaped_tints _)
      rw [SeqAt.eqv_refl _ (SeqAt.canLay_of_shaped (Dk.shaped_tints s))]
      exact kk _ (s1.trans s2)
end
end Lw
namespace Lw
open PySem PySem.Spec PyProof.Rows L2 Gx
section
variable {P : Program} {w : World} {K : PySem.W.Frag} {mg : Str → Option Value} {base : Heap} {f : Addr} {fd : FuncData}
theorem ok_law (F : FnP K "law" "law" s_law f fd) (T : Txt K mg) (c_TooMany___init__ : XCl P w K mg base 1 "TooMany" ["self", "number"] (sp_TooMany___init__ K)) (c_all_draws : Cl P w K mg base 3 "all_draws" ["many", "size", "again"] (sp_all_draws K)) (c__law_is_draw : Cl P w K mg base 2 "_law_is_draw" ["_law_draw", "_law_many", "_law_size", "_law_again"] (sp__law_is_draw K)) (c__law_whole : Cl P w K mg base 1 "_law_whole" ["_law_found"] (sp__law_whole K)) (c__law_refused : Cl P w K mg base 4 "_law_refused" ["_law_many", "_law_size", "_law_again"] (sp__law_refused K)) (c__law_counted : Cl P w K mg base 1 "_law_counted" ["_law_many", "_law_size", "_law_again"] (sp__law_counted K)) (c__law_deck : Cl P w K mg base 2 "_law_deck" ["_law_script", "_law_most"] (sp__law_deck K)) : FnOk P w K mg base CX0 5 f fd ["_law_script"] (sp_law K) := by
  refine F.ok sc_law (fun vs H Q E h => ?_) (fun cdv A outer s H vs Q E hr h => ?_)
  · obtain ⟨a, ns, rfl, _⟩ := h; rfl
  · refine ⟨_, PSs.nox (pss_cons (ps_set (i := 1) sc_law.nd rfl (Or.inl rfl) (pcallN c__law_deck hr (by first | decide | omega) (pa_cons (pv 0) (pa_cons pe_int pa_nil)))) (pss_cons (ps_set (i := 2) sc_law.nd rfl (Or.inl rfl) (pe_bm0K (K := K) rfl PySem.F.plainAttrs_list PySem.F.slot_list_pop PySem.F.type_list_pop mt_pop (pv 1))) (pss_cons (ps_set (i := 3) sc_law.nd rfl (Or.inl rfl) (pe_op (op_addK (K := K) rfl) pe_int (pe_op op_modN (pv 2) (pe_ix (ix_K (K := K) rfl) (pe_lst (pa_cons pe_int (pa_cons pe_int pa_nil))) (pe_callTy call_intU (by rfl) T.n_int (by decide +kernel) (pa_cons (pe_cmpR (op_eqK (K := K) rfl hr) (pe_op op_modN (pe_op op_fdivG (pv 2) pe_int) pe_int) pe_int (nomark _)) pa_nil)) (fun _ _ => rfl))))) (pss_cons (ps_set (i := 4) sc_law.nd rfl (Or.inl rfl) (pe_cmpR (op_eqK (K := K) rfl hr) (pe_op op_modN (pe_op op_fdivG (pv 2) pe_int) pe_int) pe_int (nomark _))) (pss_cons (ps_set (i := 5) sc_law.nd rfl (Or.inl rfl) pe_int) (pss_cons (ps_while PassesOwn.never (PW.pt (pw_and (pt_cmpR op_lt (pv 5) pe_int (nomark _)) (pw_and (pt_chain op_lt op_le pe_int (pcallN c__law_counted hr (by first | decide | omega) (pa_cons (pv 3) (pa_cons (pe_op (op_addK (K := K) rfl) (pv 5) pe_int) (pa_cons (pv 4) pa_nil)))) pe_int) (pw_and1 (PW.pt (pw_or (pt_cmpR op_gt (pv 3) pe_int (nomark _)) (pw_or1 (pt_cmpR op_lt (pv 5) pe_int (nomark _))))))))) (pss_one (ps_set (i := 5) sc_law.nd rfl (Or.inl rfl) (pe_op (op_addK (K := K) rfl) (pv 5) pe_int)))) (pss_cons (ps_set (i := 5) sc_law.nd rfl (Or.inl rfl) (pe_callB (call_maxU rfl) (by rfl) T.n_max (by decide +kernel) (pa_cons pe_int (pa_cons (pe_op op_sub (pv 5) (pe_op op_modN (pe_op op_fdivG (pv 2) pe_int) pe_int)) pa_nil)))) (C8.pss_cut (ps_if (pt_cmpR (op_eqK (K := K) rfl hr) (pe_op op_modN (pe_op op_fdivG (pv 2) pe_int) pe_int) pe_int (nomark _)) (pss_one (ps_set (i := 5) sc_law.nd rfl (Or.inl rfl) (pe_callB (call_minU rfl) (by rfl) T.n_min (by decide +kernel) (pa_cons pe_int (pa_cons (pe_op (op_addK (K := K) rfl) (pe_op (op_addK (K := K) rfl) (pv 5) pe_int) (pe_op op_modN (pe_op op_fdivG (pv 2) pe_int) pe_int)) pa_nil))))) pss_nil) (pss_cons (ps_set (i := 6) sc_law.nd rfl (Or.inl rfl) (pcallN c__law_counted hr (by first | decide | omega) (pa_cons (pv 3) (pa_cons (pv 5) (pa_cons (pv 4) pa_nil))))) (pss_cons (ps_if (pt_cmpR op_gt (pv 6) pe_int (nomark _)) (pss_cons (ps_set (i := 7) sc_law.nd rfl (Or.inl rfl) (pcallN c__law_refused hr (by first | decide | omega) (pa_cons (pv 3) (pa_cons (pv 5) (pa_cons (pv 4) pa_nil))))) (pss_one (ps_ret (pe_and (pcallN c__law_whole hr (by first | decide | omega) (pa_cons (pv 7) pa_nil)) (pe_one (pe_cmpR (op_eqK (K := K) rfl hr) (pv 7) (pv 6) (nomark _))))))) pss_nil) (pss_cons (ps_set (i := 8) sc_law.nd rfl (Or.inl rfl) (pcallN c_all_draws hr (by first | decide | omega) (pa_cons (pv 3) (pa_cons (pv 5) (pa_cons (pv 4) pa_nil))))) (pss_cons (ps_if (PW.pt (pw_or (pt_not (pt_val (pe_callB (callK (K := K) (r := rIsi) rfl call_isi) (by rfl) T.n_isinstance (by decide +kernel) (pa_cons (pv 8) (pa_cons (pe_bltn (v := .ty "list") (by rfl) T.n_list (by decide +kernel) rfl) pa_nil))))) (pw_or1 (pt_cmpR (op_neK (K := K) rfl hr) (pe_callB (callK (K := K) (r := rLenU) rfl call_lenU) (by rfl) T.n_len (by decide +kernel) (pa_cons (pv 8) pa_nil)) (pv 6) (nomark _))))) (pss_one (ps_ret pe_bl)) pss_nil) (pss_cons (ps_for PassesOwn.never rfl (pi_range2 rfl T.n_range (pa_cons pe_int (pa_cons (pv 6) pa_nil))) (pg_name (i := 9) sc_law.nd rfl (Or.inl rfl)) (pss_one (ps_if (pt_not (pt_cmpR (op_ltTK (K := K) rfl hr) (pe_ix (ix_K (K := K) rfl) (pv 8) (pe_op op_sub (pv 9) pe_int) (fun _ _ => rfl)) (pe_ix (ix_K (K := K) rfl) (pv 8) (pv 9) (fun _ _ => rfl)) (nomark _))) (pss_one (ps_ret pe_bl)) pss_nil))) (pss_cons (ps_for PassesOwn.never rfl (pi_seqU (pe_op (op_addK (K := K) rfl) (pe_slice (sl_K (K := K) rfl) (pv 8) po_none (po_some pe_int)) (pe_slice (sl_K (K := K) rfl) (pv 8) (po_some (pe_un un_neg pe_int)) po_none))) (pg_name (i := 10) sc_law.nd rfl (Or.inl rfl)) (pss_one (ps_if (pt_not (pt_val (pcallN c__law_is_draw hr (by first | decide | omega) (pa_cons (pv 10) (pa_cons (pv 3) (pa_cons (pv 5) (pa_cons (pv 4) pa_nil))))))) (pss_one (ps_ret pe_bl)) pss_nil))) (pss_cons (ps_set (i := 11) sc_law.nd rfl (Or.inl rfl) (pe_callTy (callK (K := K) (r := rLstU) rfl call_lstU) (by rfl) T.n_list (by decide +kernel) (pa_cons (pv 8) pa_nil))) (pss_cons (ps_expr (pe_bm0K (K := K) rfl PySem.F.plainAttrs_list PySem.F.slot_list_clear PySem.F.type_list_clear mt_clear (pv 8))) (pss_one (ps_ret (pe_and (pe_cmpR (op_eqK (K := K) rfl hr) (pcallN c_all_draws hr (by first | decide | omega) (pa_cons (pv 3) (pa_cons (pv 5) (pa_cons (pv 4) pa_nil)))) (pv 11) (nomark _)) (pe_one (pe_cmpR (op_eqK (K := K) rfl hr) (pe_mkF T.xf_TooMany T.f_TooMany_number (pmkOK (K := K) rfl c_TooMany___init__ hr (by first | decide | omega) (pa_cons (pe_op op_modN (pv 2) (pe_op op_pow pe_int pe_int)) pa_nil))) (pe_op op_modN (pv 2) (pe_op op_pow pe_int pe_int)) (nomark _)))))))))))))))))))))), ?_⟩
    obtain ⟨a, ns, rfl, hS, hl, kk⟩ := h
    walk_at "go"
    refine ⟨a, ns, 10, rfl, hS, hl, by decide, fun l ds H1 s1 nl hl1 hn hd => ?_⟩
    walk_at "go"
    obtain ⟨es, e, rfl⟩ := Dk.last ds (by omega)
    obtain ⟨hd, e0, e1⟩ := hd.last
    rw [List.map_append] at hl1
    refine k_pop hl1 (fun H2 b2 hl2 => ?_)
    walk_at "go"
    refine k_lstx (fun l3 H3 n3 s3 h3 => ?_) (by simp [sizeLine_eq])
    walk_at "go"
    have hat : ∃ z : Int, 15 ≤ z ∧ z ≤ 60 ∧ atI [V.int 15, V.int 60] (if decide (e / 16 % 8 = 1) = true then (1 : Int) else 0) = some (.int z) := by
      by_cases c : e / 16 % 8 = 1
      · exact ⟨60, by decide, by decide, by rw [decide_eq_true c]; rfl⟩
      · exact ⟨15, by decide, by decide, by rw [decide_eq_false c]; rfl⟩
    obtain ⟨z, z1, z2, hat⟩ := hat
    refine k_ixL (SqL.of h3) hat ?_
    walk_at "go"
    have v0 := Int.emod_nonneg e (show z ≠ 0 by omega)
    have v1 := Int.emod_lt_of_pos e (show 0 < z by omega)
    obtain ⟨m, em⟩ := Int.eq_ofNat_of_zero_le (show 0 ≤ 1 + e % z by omega)
    have hm : 1 ≤ m ∧ m ≤ 60 := by omega
    rw [em]
    generalize decide (e / 900 % 2 = 1) = b
    refine k_whileT (fun k σ H' => H' = H3 ∧ ∃ n : Nat, n ≤ 60 ∧ k = 60 - n ∧ σ = [some (.ref a), some (.ref l), some (.int e), some (.int (m : Int)), some (.bl b), some (.int (n : Int)), none, none, none, none, none, none])
      (fun k σ b' H' => H' = H3 ∧ ∃ n : Nat, n ≤ 60 ∧ (b' = true → n < 60) ∧ k = 60 - n ∧ σ = [some (.ref a), some (.ref l), some (.int e), some (.int (m : Int)), some (.bl b), some (.int (n : Int)), none, none, none, none, none, none]) 60 ⟨rfl, 0, by decide, rfl, rfl⟩ ?_ ?_ ?_
    · rintro k σ H' ⟨rfl, n, n60, rfl, rfl⟩ Q' kq
      have no : Q' false H' := kq _ _ ⟨rfl, n, n60, fun z => (nomatch z), rfl, rfl⟩
      walk_at "go"
      refine k_if (fun c => ?_) (fun c => ?_)
      rotate_left
      · exact no
      walk_at "go"
      refine ⟨(m : Int), n + 1, b, ?_, by omega, by omega, by omega, ?_⟩
      · show [V.int (m : Int), V.int ((n : Int) + 1), V.bl b] = _
        rw [show ((n + 1 : Nat) : Int) = (n : Int) + 1 by omega]
      have yes : ∀ b', Q' b' H' := fun b' => kq _ _ ⟨rfl, n, n60, fun _ => by omega, rfl, rfl⟩
      walk_at "go"
      refine k_if (fun c2 => ?_) (fun c2 => ?_)
      rotate_left
      · walk_at "go"
        exact no
      walk_at "go"
      refine k_if (fun c3 => ?_) (fun c3 => ?_)
      rotate_left
      · exact no
      walk_at "go"
      refine k_if (fun c4 => ?_) (fun c4 => ?_)
      · exact yes _
      walk_at "go"
      exact yes _
    · rintro k σ H' ⟨rfl, n, n60, hb, rfl, rfl⟩
      have hb := hb rfl
      walk_at "go"
      exact ⟨60 - (n + 1), by omega, rfl, n + 1, by omega, rfl, rfl⟩
    rintro k σ H' ⟨rfl, n0, n60, _, rfl, rfl⟩
    walk_at "go"
    obtain ⟨n1, en1⟩ := Int.eq_ofNat_of_zero_le (show 0 ≤ max 0 ((n0 : Int) - e / 1800 % 3) by omega)
    have hn1 : n1 ≤ 60 := by omega
    rw [en1]
    refine k_cut (fun σ H'' => H'' = H' ∧ ∃ n : Nat, n ≤ 60 ∧ σ = [some (.ref a), some (.ref l), some (.int e), some (.int (m : Int)), some (.bl b), some (.int (n : Int)), none, none, none, none, none, none]) ?_ ?_
    · walk_at "go"
      refine k_if (fun c => ?_) (fun c => ?_)
      · walk_at "go"
        obtain ⟨n2, en2⟩ := Int.eq_ofNat_of_zero_le (show 0 ≤ min 60 ((n1 : Int) + 1 + e / 21600 % 4) by omega)
        rw [en2]
        exact ⟨rfl, n2, by omega, rfl⟩
      · walk_at "go"
        exact ⟨rfl, n1, hn1, rfl⟩
    rintro σ H'' ⟨rfl, n, hn60, rfl⟩
    walk_at "go"
    refine ⟨(m : Int), n, b, rfl, by omega, by omega, by omega, ?_⟩
    walk_at "go"
    generalize hc : Cn.cnt (m : Int) b n = c
    refine k_if (fun c1 => ?_) (fun c1 => ?_)
    · walk_at "go"
      refine ⟨m, n, b, rfl, by omega, by omega, by omega, fun H4 s4 => ?_⟩
      rw [hc]
      walk_at "go"
      refine whole_int ?_
      walk_at "go"
      rw [decide_eq_true rfl]
      exact kk _
    walk_at "go"
    refine ⟨m, n, b, rfl, by omega, by omega, fun z => absurd z (by omega), fun _ q xs H4 s4 nq hq da => ?_⟩
    have hxl : (xs.length : Int) = c := by rw [Dt.len da, List.length_map, Al.al_len]; exact hc
    walk_at "go"
    refine k_isi (.ty "list") (ty_lst (SqL.of hq)) (kit_ty (r := true) (by decide +kernel)) ?_
    walk_at "go"
    refine k_lenL ?_ (SqL.of hq)
    walk_at "go"
    refine k_ifn (fun z => absurd hxl z) (fun _ => ?_)
    walk_at "go"
    have x3 : xs.length ≤ 3000 := by omega
    have at_al : ∀ (i : Nat) (x : V), xs[i]? = some x → ∃ s p, (Al.al m b n)[i]? = some s ∧ x = .ref p ∧ SqT K H4 p (s.map V.int) := fun i x hx => by
      obtain ⟨d, hd, dxx⟩ := Dt.at_ da hx
      obtain ⟨s, hs, rfl⟩ : ∃ s, (Al.al m b n)[i]? = some s ∧ d = Al.tu s := by
        rw [List.getElem?_map] at hd
        cases e : (Al.al m b n)[i]? with
        | none => rw [e] at hd; cases hd
        | some s => rw [e] at hd; exact ⟨s, rfl, (Option.some.inj hd).symm⟩
      obtain ⟨p, zs, rfl, hp, dz⟩ := Dt.tup dxx
      rw [Dt.of_ints dz] at hp
      exact ⟨s, p, hs, rfl, hp⟩
    refine k_rng2 (by omega) ?_
    rw [show (c - 1).toNat = xs.length - 1 by omega]
    refine k_loopR2 (lo := 1) (fun i σ H' => H' = H4 ∧ ∃ t : Option V, σ = [some (.ref a), some (.ref l), some (.int e), some (.int (m : Int)), some (.bl b), some (.int (n : Int)), some (.int c), none, some (.ref q), t, none, none]) ⟨rfl, none, rfl⟩ ?_ ?_
    · rintro i σ H' hi ⟨rfl, t, rfl⟩
      have g0 : xs[i]? = some (xs[i]'(by omega)) := by simp
      have g1 : xs[i + 1]? = some (xs[i + 1]'(by omega)) := by simp
      obtain ⟨s0, p0, as0, ep0, hp0⟩ := at_al i _ g0
      obtain ⟨s1, p1, as1, ep1, hp1⟩ := at_al (i + 1) _ g1
      rw [ep0] at g0
      rw [ep1] at g1
      walk_at "go"
      refine k_ixL (SqL.of hq) (v := .ref p0) (by rw [show (1 : Int) + (i : Int) - 1 = (i : Int) by omega]; exact atI_nat g0) ?_
      walk_at "go"
      refine k_ixL (SqL.of hq) (v := .ref p1) (by rw [show (1 : Int) + (i : Int) = ((i + 1 : Nat) : Int) by omega]; exact atI_nat g1) ?_
      walk_at "go"
      refine k_ltT hp0 hp1 ?_
      rw [Al.al_lt as0 as1]
      walk_at "go"
      exact ⟨rfl, _, rfl⟩
    rintro σ H' ⟨rfl, t, rfl⟩
    walk_at "go"
    refine k_slL (SqL.of hq) (fun u1 H5 n5 s5 h5 => ?_)
    walk_at "go"
    refine k_slL (SqL.of (s5 _ _ hq)) (fun u2 H6 n6 s6 h6 => ?_)
    refine k_addL (s6 _ _ h5) h6 (fun u3 H7 n7 s7 h7 => ?_) ?_
    rotate_left
    · have := cut_len (xs := xs) (lo := none) (hi := some 40)
      have := cut_len (xs := xs) (lo := some (-40)) (hi := none)
      rw [sizeLine_eq]
      omega
    have t7 : Same H' H7 := (s5.trans s6).trans s7
    refine k_loopU (.inl (SqL.of h7)) (fun i σ H' => Same H7 H' ∧ ∃ t2 t : Option V, σ = [some (.ref a), some (.ref l), some (.int e), some (.int (m : Int)), some (.bl b), some (.int (n : Int)), some (.int c), none, some (.ref q), t2, t, none]) ⟨Same.refl _, _, none, rfl⟩ (fun i σ H' h => h.1) ?_ ?_
    · rintro i x σ H8 hx ⟨s8, t2, t, rfl⟩
      have hm2 : x ∈ xs := by
        rcases List.mem_append.mp (List.mem_of_getElem? hx) with h | h
        · exact cut_mem h
        · exact cut_mem h
      obtain ⟨j, hj⟩ := List.getElem?_of_mem hm2
      obtain ⟨s, p, as, rfl, hp⟩ := at_al j x hj
      obtain ⟨ok, okl⟩ := Al.al_ok (List.mem_of_getElem? as)
      walk_at "go"
      refine ⟨m, n, b, p, s, rfl, seqT_same s8 (seqT_same t7 hp), ok, okl, by omega, by omega, fun H9 s9 => ?_⟩
      walk_at "go"
      exact ⟨s8.trans s9, _, _, rfl⟩
    rintro σ H8 ⟨s8, t2, t, rfl⟩
    have hq8 := s8 _ _ (t7 _ _ hq)
    have da8 := dpAll_same s8 (dpAll_same t7 da)
    walk_at "go"
    refine k_lstL (SqL.of hq8) (fun r H9 n9 s9 h9 => ?_)
    walk_at "go"
    have hq9 := s9 _ _ hq8
    refine ⟨k_app0 hq9, ?_⟩
    refine k_clear hq9 (fun H10 b10 h10 => ?_)
    walk_at "go"
    have nrq : r ≠ q := fun z => by rw [z, hq8] at n9; cases n9
    have noLt : ∀ l : List (List Int), noLs (l.map Al.tu) = true := fun l => Dt.noLs_of fun x hx => by
      obtain ⟨p, _, rfl⟩ := List.mem_map.mp hx
      refine Dt.noL_tup fun y hy => ?_
      obtain ⟨z, _, rfl⟩ := List.mem_map.mp hy
      rfl
    have da10 := dpAll_but b10 hq9 (noLt _) (dpAll_same s9 da8)
    have hr10 := b10 _ _ nrq h9
    refine ⟨m, n, b, rfl, by omega, by omega, fun z => absurd z (by omega), fun _ q2 xs2 H11 s11 nq2 hq2 da2 => ?_⟩
    walk_at "go"
    have sh : SeqAt.shaped (.list ((Al.al m b n).map Al.tu)) = true := Dt.Sh.ok (k := 2) (Dt.sh_lst fun x hx => by
      obtain ⟨p, _, rfl⟩ := List.mem_map.mp hx
      exact Al.sh_tu p)
    refine k_eqD (.lst (SqL.of hq2) da2) (.lst (SqL.of (s11 _ _ hr10)) (dpAll_same s11 da10)) ?_ sh sh
    rw [SeqAt.eqv_refl _ (SeqAt.canLay_of_shaped sh)]
    walk_at "go"
    refine k_mkFx (f := "number") (fun H12 s12 => ?_)
    walk_at "go"
    rw [decide_eq_true rfl]
    exact kk _
end
end Lw
namespace Lw
open PySem PySem.Spec PyProof.Rows L2 Gx
def d_TooMany___init__ : He.DefD := ⟨("TooMany", some "__init__"), "__init__", "TooMany.__init__", defArgs s_TooMany___init__, defBody s_TooMany___init__, defScope s_TooMany___init__, [], []⟩
def d_drawn : He.DefD := ⟨("drawn", none), "drawn", "drawn", defArgs s_drawn, defBody s_drawn, defScope s_drawn, [], []⟩
def d_draws_counted : He.DefD := ⟨("draws_counted", none), "draws_counted", "draws_counted", defArgs s_draws_counted, defBody s_draws_counted, defScope s_draws_counted, [], []⟩
def d_all_draws : He.DefD := ⟨("all_draws", none), "all_draws", "all_draws", defArgs s_all_draws, defBody s_all_draws, defScope s_all_draws, [], []⟩
def d__law_whole : He.DefD := ⟨("_law_whole", none), "_law_whole", "_law_whole", defArgs s__law_whole, defBody s__law_whole, defScope s__law_whole, [], []⟩
def d__law_digits : He.DefD := ⟨("_law_digits", none), "_law_digits", "_law_digits", defArgs s__law_digits, defBody s__law_digits, defScope s__law_digits, [], []⟩
def d__law_deck : He.DefD := ⟨("_law_deck", none), "_law_deck", "_law_deck", defArgs s__law_deck, defBody s__law_deck, defScope s__law_deck, [], []⟩
def d__law_counted : He.DefD := ⟨("_law_counted", none), "_law_counted", "_law_counted", defArgs s__law_counted, defBody s__law_counted, defScope s__law_counted, [], []⟩
def d__law_refused : He.DefD := ⟨("_law_refused", none), "_law_refused", "_law_refused", defArgs s__law_refused, defBody s__law_refused, defScope s__law_refused, [], []⟩
def d__law_numbers : He.DefD := ⟨("_law_numbers", none), "_law_numbers", "_law_numbers", defArgs s__law_numbers, defBody s__law_numbers, defScope s__law_numbers, [], []⟩
def d__law_is_draw : He.DefD := ⟨("_law_is_draw", none), "_law_is_draw", "_law_is_draw", defArgs s__law_is_draw, defBody s__law_is_draw, defScope s__law_is_draw, [], []⟩
def d_law : He.DefD := ⟨("law", none), "law", "law", defArgs s_law, defBody s_law, defScope s_law, [], []⟩
def fn : List He.DefD := [d_TooMany___init__, d_drawn, d_draws_counted, d_all_draws, d__law_whole, d__law_digits, d__law_deck, d__law_counted, d__law_refused, d__law_numbers, d__law_is_draw, d_law]
def fa : List He.Fa := [.free "ValueError", .free "bool", .free "int", .free "isinstance", .free "len", .free "list", .free "max", .free "min", .free "range", .free "set", .free "tuple", .glo "Ended", .int "MOST" 3000, .glo "NoNumber", .glo "TooMany", .glo "NoNumber", .glo "SureError", .glo "TooMany", .exm "TooMany" "SureError" true, .noat "TooMany" "number", .exc "NoNumber", .glo "drawn", .glo "draws_counted", .glo "all_draws", .glo "_law_whole", .glo "_law_digits", .glo "_law_deck", .glo "_law_counted", .glo "_law_refused", .glo "_law_numbers", .glo "_law_is_draw", .glo "law"]
abbrev R : PySem.W.OpenRow := PySem.W.OpenLaw.row PySem.Challenge.rw_surecount_k26_all_draws
def exl : List (PySem.W.Frag → Bool) := [fun K => oexB K "TooMany", fun K => oinB K "TooMany", fun K => supB K "SureError", fun K => xfB K (He.ga K "TooMany"), fun K => excB K "TooMany", fun K => kitB2 K "TooMany" (.ref (He.ga K "Ended")) false, fun K => kitB2 K "TooMany" (.ref (He.ga K "NoNumber")) false, fun K => kitB2 K "TooMany" (.ref (He.ga K "TooMany")) true, fun K => kitB2 K "TooMany" (.type "ValueError") true]
def exB (K : PySem.W.Frag) : Bool := exl.all fun f => f K
abbrev hk : PySem.W.Hook := Gx.hookS 5 fa fn exB
def ob (s : PySem.W.SharedT) : He.AlD × Bool := Gx.obsS 5 fa fn exB (HandSHeadRun.getT s)
theorem ob_eq (s : PySem.W.SharedT) : ob s = hk.obs s.abs := Gx.obsS_eq (HandSHeadRun.getT_eq s)
def loose : List PySem.Str := (["drawn", "draws_counted", "all_draws", "_law_whole", "_law_digits", "_law_deck", "_law_counted", "_law_refused", "_law_numbers", "_law_is_draw", "SureError", "NoNumber", "Ended", "TooMany", "MOST"] : List PySem.Str)
theorem run (w : World) : HandSHeadRun.RunEq R (PySem.W.view R.prog [18]) hk ob 6000 loose w := by
  intro os
  kernel_rfl
theorem facts {P : Program} {w : World} {K : PySem.W.Frag} {h : Heap} {mg : Str → Option Value} {f : Addr} (X : K.In h) (G : h.Ns mainGlobals mg) (hfa : mg ("law" : Str) = some (.ref f)) (c : He.SaysD fa fn K) (cx : (exl.all fun f => f K) = true) :
    ∃ fd : FuncData, (∀ (s : Shared) (v : Value), BindsTo s fd ⟨[v], []⟩ [("_law_script", v)]) ∧ ∀ base : Heap, K.In base → base.Ns mainGlobals mg → FnOk P w K mg base CX0 5 f fd ["_law_script"] (sp_law K) := by
  obtain ⟨fd0, F0⟩ := c.def_ 0 (d := d_TooMany___init__) rfl
  obtain ⟨fd1, F1⟩ := c.def_ 1 (d := d_drawn) rfl
  obtain ⟨fd2, F2⟩ := c.def_ 2 (d := d_draws_counted) rfl
  obtain ⟨fd3, F3⟩ := c.def_ 3 (d := d_all_draws) rfl
  obtain ⟨fd4, F4⟩ := c.def_ 4 (d := d__law_whole) rfl
  obtain ⟨fd5, F5⟩ := c.def_ 5 (d := d__law_digits) rfl
  obtain ⟨fd6, F6⟩ := c.def_ 6 (d := d__law_deck) rfl
  obtain ⟨fd7, F7⟩ := c.def_ 7 (d := d__law_counted) rfl
  obtain ⟨fd8, F8⟩ := c.def_ 8 (d := d__law_refused) rfl
  obtain ⟨fd9, F9⟩ := c.def_ 9 (d := d__law_numbers) rfl
  obtain ⟨fd10, F10⟩ := c.def_ 10 (d := d__law_is_draw) rfl
  obtain ⟨fd11, F11⟩ := c.def_ 11 (d := d_law) rfl
  have T : Txt K mg := { n_ValueError := He.free_ok X G (c.fact 0 rfl), n_bool := He.free_ok X G (c.fact 1 rfl), n_int := He.free_ok X G (c.fact 2 rfl), n_isinstance := He.free_ok X G (c.fact 3 rfl), n_len := He.free_ok X G (c.fact 4 rfl), n_list := He.free_ok X G (c.fact 5 rfl), n_max := He.free_ok X G (c.fact 6 rfl), n_min := He.free_ok X G (c.fact 7 rfl), n_range := He.free_ok X G (c.fact 8 rfl), n_set := He.free_ok X G (c.fact 9 rfl), n_tuple := He.free_ok X G (c.fact 10 rfl), c_Ended := ⟨_, He.glo_ok X G (c.fact 11 rfl), rfl⟩, c_MOST := (let ⟨_, h⟩ := He.int_ok X G (c.fact 12 rfl); ⟨_, h, _, rfl⟩), c_NoNumber := ⟨_, He.glo_ok X G (c.fact 13 rfl), rfl⟩, c_TooMany := ⟨_, He.glo_ok X G (c.fact 14 rfl), rfl⟩, g_NoNumber := He.glo_ok X G (c.fact 15 rfl), g_SureError := He.glo_ok X G (c.fact 16 rfl), g_TooMany := He.glo_ok X G (c.fact 17 rfl), m_TooMany_SureError := He.exm_ok (c.fact 18 rfl), f_TooMany_number := He.noat_ok (c.fact 19 rfl), x_NoNumber := He.exc_ok (c.fact 20 rfl), o_TooMany := oexB_ok (xat cx 0 rfl), oi_TooMany := oinB_ok (xat cx 1 rfl), s_SureError := supB_ok (xat cx 2 rfl), xf_TooMany := xfB_ok (xat cx 3 rfl), e_TooMany := excB_ok (xat cx 4 rfl), i_TooMany_Ended := of_decide_eq_true (xat cx 5 rfl), i_TooMany_NoNumber := of_decide_eq_true (xat cx 6 rfl), i_TooMany_TooMany := of_decide_eq_true (xat cx 7 rfl), i_TooMany_ValueError := of_decide_eq_true (xat cx 8 rfl) }
  have g_drawn := He.glo_ok X G (c.fact 21 (f := .glo "drawn") rfl)
  have g_draws_counted := He.glo_ok X G (c.fact 22 (f := .glo "draws_counted") rfl)
  have g_all_draws := He.glo_ok X G (c.fact 23 (f := .glo "all_draws") rfl)
  have g__law_whole := He.glo_ok X G (c.fact 24 (f := .glo "_law_whole") rfl)
  have g__law_digits := He.glo_ok X G (c.fact 25 (f := .glo "_law_digits") rfl)
  have g__law_deck := He.glo_ok X G (c.fact 26 (f := .glo "_law_deck") rfl)
  have g__law_counted := He.glo_ok X G (c.fact 27 (f := .glo "_law_counted") rfl)
  have g__law_refused := He.glo_ok X G (c.fact 28 (f := .glo "_law_refused") rfl)
  have g__law_numbers := He.glo_ok X G (c.fact 29 (f := .glo "_law_numbers") rfl)
  have g__law_is_draw := He.glo_ok X G (c.fact 30 (f := .glo "_law_is_draw") rfl)
  have g_law := He.glo_ok X G (c.fact 31 (f := .glo "law") rfl)
  have e := hfa.symm.trans g_law
  cases e
  have b := FunD.bindsA (ps := ["_law_script"]) F11 fun _ _ _ _ _ _ us hl => match us, hl with | [_], _ => rfl
  refine ⟨fd11, fun s v => b s [v] rfl, fun base _ _ => ?_⟩
  have c_TooMany___init__ : XCl P w K mg base 1 "TooMany" ["self", "number"] (sp_TooMany___init__ K) := ⟨fd0, T.o_TooMany, T.oi_TooMany.1, T.oi_TooMany.2, ok_TooMany___init__ F0 T, T.g_TooMany, F0.bindsN fun _ _ _ _ _ _ us hl => match us, hl with | [_, _], _ => rfl⟩
  have c_drawn : Cl P w K mg base 1 "drawn" ["many", "numbers", "again"] (sp_drawn K) := ⟨_, fd1, ok_drawn F1 T , g_drawn, F1.kp, F1.bindsN fun _ _ _ _ _ _ us hl => match us, hl with | [_, _, _], _ => rfl⟩
  have c_draws_counted : Cl P w K mg base 1 "draws_counted" ["many", "size", "again"] (sp_draws_counted K) := ⟨_, fd2, ok_draws_counted F2 T , g_draws_counted, F2.kp, F2.bindsN fun _ _ _ _ _ _ us hl => match us, hl with | [_, _, _], _ => rfl⟩
  have c__law_whole : Cl P w K mg base 1 "_law_whole" ["_law_found"] (sp__law_whole K) := ⟨_, fd4, ok__law_whole F4 T , g__law_whole, F4.kp, F4.bindsN fun _ _ _ _ _ _ us hl => match us, hl with | [_], _ => rfl⟩
  have c__law_digits : Cl P w K mg base 1 "_law_digits" ["_law_script", "_law_k"] (sp__law_digits K) := ⟨_, fd5, ok__law_digits F5 T , g__law_digits, F5.kp, F5.bindsN fun _ _ _ _ _ _ us hl => match us, hl with | [_, _], _ => rfl⟩
  have c__law_counted : Cl P w K mg base 1 "_law_counted" ["_law_many", "_law_size", "_law_again"] (sp__law_counted K) := ⟨_, fd7, ok__law_counted F7 T , g__law_counted, F7.kp, F7.bindsN fun _ _ _ _ _ _ us hl => match us, hl with | [_, _, _], _ => rfl⟩
  have c__law_numbers : Cl P w K mg base 1 "_law_numbers" ["_law_draw", "_law_again"] (sp__law_numbers K) := ⟨_, fd9, ok__law_numbers F9 T , g__law_numbers, F9.kp, F9.bindsN fun _ _ _ _ _ _ us hl => match us, hl with | [_, _], _ => rfl⟩
  have c__law_deck : Cl P w K mg base 2 "_law_deck" ["_law_script", "_law_most"] (sp__law_deck K) := ⟨_, fd6, ok__law_deck F6 T c__law_digits, g__law_deck, F6.kp, F6.bindsN fun _ _ _ _ _ _ us hl => match us, hl with | [_, _], _ => rfl⟩
  have c__law_is_draw : Cl P w K mg base 2 "_law_is_draw" ["_law_draw", "_law_many", "_law_size", "_law_again"] (sp__law_is_draw K) := ⟨_, fd10, ok__law_is_draw F10 T c_drawn c__law_numbers c__law_whole, g__law_is_draw, F10.kp, F10.bindsN fun _ _ _ _ _ _ us hl => match us, hl with | [_, _, _, _], _ => rfl⟩
  have c_all_draws : Cl P w K mg base 3 "all_draws" ["many", "size", "again"] (sp_all_draws K) := ⟨_, fd3, ok_all_draws F3 T c_TooMany___init__ c_draws_counted, g_all_draws, F3.kp, F3.bindsN fun _ _ _ _ _ _ us hl => match us, hl with | [_, _, _], _ => rfl⟩
  have c__law_refused : Cl P w K mg base 4 "_law_refused" ["_law_many", "_law_size", "_law_again"] (sp__law_refused K) := ⟨_, fd8, ok__law_refused F8 T c_all_draws, g__law_refused, F8.kp, F8.bindsN fun _ _ _ _ _ _ us hl => match us, hl with | [_, _, _], _ => rfl⟩
  exact ok_law F11 T c_TooMany___init__ c_all_draws c__law_is_draw c__law_whole c__law_refused c__law_counted c__law_deck
end Lw
open PySem PySem.W PySem.Calls PyProof.Rows
theorem PySem.Challenge.cw_surecount_k26_all_draws_holds : PySem.Challenge.rw_surecount_k26_all_draws.Holds := by
  w_on; o_law
  refine HandSHeadRun.head_any (r := OpenLaw.row PySem.Challenge.rw_surecount_k26_all_draws) (q := view (OpenLaw.row PySem.Challenge.rw_surecount_k26_all_draws).prog [18]) (H := Lw.hk) (ob := Lw.ob) (M := 6000) (loose := Lw.loose) (d := HandSHeadRun.topDef (OpenLaw.row PySem.Challenge.rw_surecount_k26_all_draws).prog 18) (kwd := []) Lw.ob_eq
    (by kernel_rfl) (fun s => by kernel_rfl) Lw.run (by kernel_rfl) (by kernel_rfl) (by kernel_rfl) (by rfl) (by first | assumption | decide +kernel) (by decide +kernel) ⟨rfl, rfl, rfl, rfl, rfl, by decide +kernel⟩ ?hw ?hc
  case hw => w_witness2
  case hc =>
    refine L2.walk_ofE (l := PySem.Challenge.rw_surecount_k26_all_draws) (n := 63) (k := 5) (x := "_law_script") (CX := L2.CX0) rfl (by decide) (by kernel_rfl) ⟨rfl, by decide, by decide⟩ ?F (fun _ _ _ _ z => z)
    case F =>
      intro w mg fa h Y G hmg0
      obtain ⟨K, KX, c⟩ := Y
      have hmg : mg ("law" : PySem.Str) = some (.ref fa) := by
        have e : (HandSHeadRun.topDef (OpenLaw.row PySem.Challenge.rw_surecount_k26_all_draws).prog 18).name = ("law" : PySem.Str) := by kernel_rfl
        rw [← e]
        exact hmg0
      obtain ⟨fd, hb, hF⟩ := Lw.facts (P := (PySem.Challenge.rw_surecount_k26_all_draws).prog) (w := w) KX G hmg c.1 c.2
      exact ⟨K, fd, Lw.sp_law K, KX, hb, fun H a ns hl _ hS => ⟨a, ns, rfl, hS, hl, fun _ => rfl⟩, hF⟩
