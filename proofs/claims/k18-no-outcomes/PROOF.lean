import PyProof.Rows.All
import Wide.All
import OpenK.AllK
import Wide.FinOn
import Lean
import HandS.ForMost
import HandS.ForExc
import HandS.Wide
import HandS.WideBits
import HandS.TupAny
import HandS.TupLe
import HandS.TryOnly
import HandS.TupMul
import HandS.Deep
import HandS.IsInst
import HandS.ExcIs
import KE.KExcIs
import KE.DataFind
import KE.GoesEnum
import KE.GoesMore
import KE.KxIndex
import KE.KeyNested
import HandS.ExcInit
import HandS.ExcField
import HandS.ClsMeth
import HandS.Style
import HandS.Codes
import HandS.Conv
import HandS.SetFor
import HandS.Zip
import HandS.More
import HandS.Replace
import HandS.RevRange
import HandS.Text
import HandS.Defaults
import HandS.Small
import HandS.HeadEnd
import HandS.HeadHook1
import HandS.HeadHook2
import HandS.HeadHook3
import HandS.HeadHook4
import HandS.Head0
import HandS.Head1
import HandS.Head2
import PySem.Challenge.RW_surecount_k18_no_outcomes
set_option Elab.async false
set_option linter.all false
set_option maxRecDepth 100000
set_option maxHeartbeats 16000000
/-! ### own short words over the hand layer -/
namespace Gx
open PySem PySem.Spec PyProof.Rows L2
/-- all but l stays -/
def But (l : Addr) (H H' : Hp) : Prop := ∀ a o, a ≠ l → H a = some o → H' a = some o
theorem But.of {H H' : Hp} {l : Addr} (e : Same H H') : But l H H' := fun a o _ h => e a o h
theorem But.trans {H H1 H2 : Hp} {l : Addr} (a : But l H H1) (b : But l H1 H2) : But l H H2 := fun c o n h => b c o n (a c o n h)
theorem But.upd {H : Hp} {l : Addr} {o : HO} : But l H (upd H l o) := fun a u n h => by
  rw [upd_ne n]
  exact h
theorem same_new {H : Hp} {p : Addr} {o : HO} (h : H p = none) : Same H (upd H p o) := fun b u q => by
  rw [upd_ne (ne_of_none q h)]
  exact q
theorem But.same {H H1 H2 : Hp} {l : Addr} (n : H l = none) (a : Same H H1) (b : But l H1 H2) : Same H H2 := fun c o h => b c o (ne_of_none h n) (a c o h)
/-! ### reading facts through heaps -/
theorem up_same {H H' : Hp} (e : Same H H') {a : Addr} {o : HO} (h : H a = some o) : H' a = some o := e a o h
theorem up_but {H H' : Hp} {l : Addr} (e : But l H H') {a : Addr} {o : HO} (n : a ≠ l) (h : H a = some o) : H' a = some o := e a o n h
theorem seqL_same {K : PySem.W.Frag} {H H' : Hp} (e : Same H H') {a : Addr} {xs : List V} (h : SqL K H a xs) : SqL K H' a xs := e.seq h
theorem seqT_same {K : PySem.W.Frag} {H H' : Hp} (e : Same H H') {a : Addr} {xs : List V} (h : SqT K H a xs) : SqT K H' a xs := by
  rcases h with (h | ⟨o, h⟩) | h
  · exact .inl (.inl (e _ _ h))
  · exact .inl (.inr ⟨o, e _ _ h⟩)
  · exact .inr h
/-- tuples stay while a list changes -/
theorem seqT_but {K : PySem.W.Frag} {H H' : Hp} {l : Addr} {ys : List V} (e : But l H H') (hl : H l = some (.lst ys)) {a : Addr} {xs : List V} (h : SqT K H a xs) : SqT K H' a xs := by
  rcases h with (h | ⟨o, h⟩) | h
  · exact .inl (.inl (e _ _ (ne_of h hl (by intro z; cases z)) h))
  · exact .inl (.inr ⟨o, e _ _ (ne_of h hl (by intro z; cases z)) h⟩)
  · exact .inr h
theorem seqL_mono {K : PySem.W.Frag} {H H' : Hp} {a : Addr} {xs : List V} (h : SqL K H a xs) (e : ∀ o, H a = some o → (∀ ps, o ≠ .tbl ps) → H' a = some o) : SqL K H' a xs := by
  rcases h with (h | ⟨o, h⟩) | h
  · exact .inl (.inl (e _ h (by intro ps z; cases z)))
  · exact .inl (.inr ⟨o, e _ h (by intro ps z; cases z)⟩)
  · exact .inr h
theorem seqL_but {K : PySem.W.Frag} {H H' : Hp} {l : Addr} (e : But l H H') {a : Addr} (n : a ≠ l) {xs : List V} (h : SqL K H a xs) : SqL K H' a xs := by
  rcases h with (h | ⟨o, h⟩) | h
  · exact .inl (.inl (e _ _ n h))
  · exact .inl (.inr ⟨o, e _ _ n h⟩)
  · exact .inr h
/-! ### data through heaps -/
mutual
theorem dp_same {K : PySem.W.Frag} {H H' : Hp} (e : Same H H') : ∀ {d : PyData} {v : V}, Dp K H v d → Dp K H' v d
  | _, _, .non => .non
  | _, _, .bl b => .bl b
  | _, _, .int i => .int i
  | _, _, .str x => .str x
  | _, _, .lst h a => .lst (seqL_same e h) (dpAll_same e a)
  | _, _, .tup h a => .tup (seqT_same e h) (dpAll_same e a)
theorem dpAll_same {K : PySem.W.Frag} {H H' : Hp} (e : Same H H') : ∀ {ds : List PyData} {vs : List V}, DpAll K H vs ds → DpAll K H' vs ds
  | _, _, .nil => .nil
  | _, _, .cons a r => .cons (dp_same e a) (dpAll_same e r)
end
/-! data without lists -/
mutual
def noL : PyData → Bool
  | .list _ => false
  | .tuple ds => noLs ds
  | _ => true
def noLs : List PyData → Bool
  | [] => true
  | d :: ds => noL d && noLs ds
end
mutual
theorem dp_but {K : PySem.W.Frag} {H H' : Hp} {l : Addr} {ys : List V} (e : But l H H') (hl : H l = some (.lst ys)) : ∀ {d : PyData} {v : V}, noL d = true → Dp K H v d → Dp K H' v d
  | _, _, _, .non => .non
  | _, _, _, .bl b => .bl b
  | _, _, _, .int i => .int i
  | _, _, _, .str x => .str x
  | _, _, n, .lst h a => by simp [noL] at n
  | _, _, n, .tup h a => .tup (seqT_but e hl h) (dpAll_but e hl (by simpa [noL] using n) a)
theorem dpAll_but {K : PySem.W.Frag} {H H' : Hp} {l : Addr} {ys : List V} (e : But l H H') (hl : H l = some (.lst ys)) : ∀ {ds : List PyData} {vs : List V}, noLs ds = true → DpAll K H vs ds → DpAll K H' vs ds
  | _, _, _, .nil => .nil
  | _, _, n, .cons a r => by
    simp [noLs] at n
    exact .cons (dp_but e hl n.1 a) (dpAll_but e hl n.2 r)
end
theorem tyof_same {K : PySem.W.Frag} {H H' : Hp} (e : Same H H') {x : V} {t : Value} (h : TyOf K H x t) : TyOf K H' x t := by
  cases h with
  | non => exact .non
  | bl x => exact .bl x
  | int i => exact .int i
  | str x => exact .str x
  | flt x => exact .flt x
  | lst h => exact .lst (e _ _ h)
  | frz h => exact .frz (e _ _ h)
  | tup h => exact .tup (e _ _ h)
  | dK h => exact .dK (e _ _ h)
  | dT h => exact .dT (e _ _ h)
  | ins h cl ha hn htk hm => exact .ins (e _ _ h) cl ha hn htk hm
theorem tyx_same {K : PySem.W.Frag} {H H' : Hp} (e : Same H H') {x : V} {t : Value} (h : TyX K H x t) : TyX K H' x t := by
  cases h with
  | base h => exact .base (tyof_same e h)
  | byt b => exact .byt b
  | set h => exact .set (e _ _ h)
  | kList h c => exact .kList h c
  | kTuple h c => exact .kTuple h c
  | kDict h c => exact .kDict h c
  | fTuple h => exact .fTuple (e _ _ h)
  | fDict h => exact .fDict (e _ _ h)
/-! ### a def that may be called -/
structure Cl (P : Program) (w : World) (K : PySem.W.Frag) (mg : Str → Option Value) (base : Heap) (k : Nat) (x : Str) (ps : List Str) (sp : Sp) : Prop where
  ex : ∃ f fd, FnOk P w K mg base (L2.CX P w) k f fd ps sp ∧ mg x = some (.ref f) ∧ PySem.W.keepIn K (.ref f) = true ∧ Binds K fd ps []
section
variable {X : Cx} {W : WX} {e : Expr} {es : List Expr} {p pos : Pos} {t : TA} {x : Str} {ps : List Str} {sp : Sp} {j k : Nat}
theorem pcall (c : Cl X.prog X.w X.K X.mg X.base k x ps sp) (hr : Room j X.A) (hk : k ≤ j) (tk : Takes X W) (ha : PA X (e :: es) t) (hg : Gl X x := by rfl)
    (he : starEach (e :: es) X.env = (false, eval e X.env) :: starEach es X.env := by rfl) (hpl : (backTo pos (starEach es X.env)).any (·.1) = false := by rfl) (hdb : (x == ("__debug__" : Str)) = false := by decide) :
    PE X (.Call (.Name x p) (e :: es) [] pos) (tCallS sp (WE W) t) := by
  obtain ⟨f, fd, F, m, kp, b⟩ := c.ex
  exact pe_callS F (hr.mono hk) hg m kp b (fun σ => passAt tk σ) ha hdb he hpl
theorem pcall0 (c : Cl X.prog X.w X.K X.mg X.base k x ps sp) (hr : Room j X.A) (hk : k ≤ j) (hg : Gl X x := by rfl) (hdb : (x == ("__debug__" : Str)) = false := by decide) :
    PE X (.Call (.Name x p) [] [] pos) (tCall sp [] E0 tNil) := by
  obtain ⟨f, fd, F, m, kp, b⟩ := c.ex
  exact pe_call0 F (hr.mono hk) hg m kp b .nil passL hdb
/-- where nothing may be raised -/
theorem pcallN (c : Cl X.prog X.w X.K X.mg X.base k x ps sp) (hr : Room j X.A) (hk : k ≤ j) (ha : PA X (e :: es) t) (hg : Gl X x := by rfl)
    (he : starEach (e :: es) X.env = (false, eval e X.env) :: starEach es X.env := by rfl) (hpl : (backTo pos (starEach es X.env)).any (·.1) = false := by rfl) (hdb : (x == ("__debug__" : Str)) = false := by decide) :
    PE X (.Call (.Name x p) (e :: es) [] pos) (tCall sp [] E0 t) := by
  obtain ⟨f, fd, F, m, kp, b⟩ := c.ex
  exact pe_call F (hr.mono hk) hg m kp b .nil passL ha hdb he hpl
end
/-- a recursion: nothing is promised at 0 -/
theorem fn_void {P : Program} {w : World} {K : PySem.W.Frag} {mg : Str → Option Value} {base : Heap} {CX : CXT} {k : Nat} {f : Addr} {fd : FuncData} {ps : List Str} {sp : Sp} (h : ∀ vs H Q E, ¬ sp vs H Q E) : FnOk P w K mg base CX k f fd ps sp :=
  ⟨fun vs H Q E z => (h vs H Q E z).elim, fun _ _ _ H _ _ vs Q E _ _ _ _ z => (h vs H Q E z).elim⟩
/-! ### exceptions with fields, their own __init__ walked -/
section
def oexB (K : PySem.W.Frag) (x : Str) : Bool := (match K.lookup (He.ga K x) with
  | some ⟨.type "type", _, .cls cd, sl⟩ => (match cd.mro, sl.toList with
    | .ref C' :: bm, [_, _, _, _, some (.builtin n), _] => C' == He.ga K x && n == "ValueError.__new__" && !cd.hasDel && cd.hasDict && PySem.HandSPX.refsVE bm
    | _, _ => false)
  | _ => false) && (He.eqO (PySem.W.findIn K (.ref (He.ga K x)) "__setattr__") (some (some (.builtin "object.__setattr__"))) && (decide (PySem.W.subIn K (.ref (He.ga K x)) (.type "BaseException") = some true) && (decide (PySem.W.typeIn K (.ref (He.ga K x)) = some (.type "type")) && PySem.W.keepIn K (.ref (He.ga K x)))))
theorem oexB_ok {K : PySem.W.Frag} {x : Str} (h : oexB K x = true) : OexC K (He.ga K x) := by
  unfold oexB at h
  obtain ⟨q, h⟩ := He.ba h
  obtain ⟨h1, h⟩ := He.ba h
  obtain ⟨h2, h⟩ := He.ba h
  obtain ⟨h3, h4⟩ := He.ba h
  refine ⟨?_, He.eqO_ok h1, of_decide_eq_true h2, of_decide_eq_true h3, h4⟩
  split at q
  · rename_i dd cd sl ho
    split at q
    · rename_i C' bm k0 k1 k2 k3 n k5 hm hs
      simp only [Bool.and_eq_true, beq_iff_eq, Bool.not_eq_true'] at q
      obtain ⟨⟨⟨⟨hC, hn⟩, hdel⟩, hdc⟩, hr⟩ := q
      obtain ⟨nm, bs, mro, ns, qn, hd, sn, sub, ab, col, del⟩ := cd
      dsimp only at hm hdel hdc
      subst hm hdel hdc hC hn
      have hsl : sl = #[k0, k1, k2, k3, some (.builtin "ValueError.__new__"), k5] := by
        obtain ⟨l⟩ := sl
        simp only at hs
        rw [hs]
      subst hsl
      exact ⟨_, _, _, _, _, _, _, _, _, _, _, _, _, _, _, ho, hr⟩
    · cases q
  · cases q
/-- the own __init__ of an exception -/
def oinB (K : PySem.W.Frag) (x : Str) : Bool := He.eqO (PySem.W.findIn K (.ref (He.ga K x)) "__init__") (some (some (.ref (He.ma K (He.ga K x) "__init__")))) && decide (PySem.W.typeIn K (.ref (He.ma K (He.ga K x) "__init__")) = some (.type "function"))
theorem oinB_ok {K : PySem.W.Frag} {x : Str} (h : oinB K x = true) : PySem.W.findIn K (.ref (He.ga K x)) "__init__" = some (some (.ref (He.ma K (He.ga K x) "__init__"))) ∧ PySem.W.typeIn K (.ref (He.ma K (He.ga K x) "__init__")) = some (.type "function") := by
  obtain ⟨h1, h2⟩ := He.ba h
  exact ⟨He.eqO_ok h1, of_decide_eq_true h2⟩
/-- Base.__init__(self, ..) of an exception class that has ValueError's -/
structure SupC (K : PySem.W.Frag) (C : Addr) : Prop where
  r : ClX.CRead K C (.type "type")
  at_ : PySem.W.findCls K (.ref C) (.type "type") "__init__" = some (.val (.builtin "ValueError.__init__"))
def supB (K : PySem.W.Frag) (x : Str) : Bool := PySem.W.readsIn K (He.ga K x) (.type "type") && (He.eqO (PySem.W.specialIn K (.ref (He.ga K x)) "__getattribute__") (some (some (.builtin "type.__getattribute__"))) && (match PySem.W.findCls K (.ref (He.ga K x)) (.type "type") "__init__" with
  | some (.val (.builtin n)) => n == "ValueError.__init__"
  | _ => false))
theorem supB_ok {K : PySem.W.Frag} {x : Str} (h : supB K x = true) : SupC K (He.ga K x) := by
  obtain ⟨h1, h⟩ := He.ba h
  obtain ⟨h2, h3⟩ := He.ba h
  refine ⟨⟨h1, He.eqO_ok h2⟩, ?_⟩
  split at h3
  · rename_i n e
    rw [e, beq_iff_eq.mp h3]
  · cases h3
theorem pe_svinit {X : Cx} {n : Str} {C : Addr} {e : Expr} {es : List Expr} {ta : TA} {p1 p2 pos : Pos} {pl : Sem Bool} (S : SupC X.K C) (hg : Gl X n) (hm : X.mg n = some (.ref C)) (ha : PA X (e :: es) ta)
    (hc : eval (.Call (.Attribute (.Name n p1) "__init__" p2) (e :: es) [] pos) X.env = (do
      let ov ← eval (.Name n p1) X.env
      standAt p2.atName
      let (f, first) ← holding [ov] (getMethod ov "__init__" pl)
      callWith pos f first (backTo pos (starEach (e :: es) X.env)) (backToKw pos (keywordEach [] X.env))) := by rfl)
    (he : starEach (e :: es) X.env = (false, eval e X.env) :: starEach es X.env := by rfl) (hpl : (backTo pos (starEach es X.env)).any (·.1) = false := by rfl) (hdb : (n == ("__debug__" : Str)) = false := by decide) :
    PE X (.Call (.Attribute (.Name n p1) "__init__" p2) (e :: es) [] pos) (tVeI X.K ta) := by
  refine ⟨fun pins s σ H Q I h => ?_⟩
  refine PySem.W.methodCall_KW (ld_glob I hg hm ?_ hdb) hc
  refine PySem.W.method_cls I.kIn S.r.ga (PySem.W.cls_value I.kIn S.r.rd S.at_ rfl ?_)
  show wpAny _ _ (callWith pos (Value.builtin "ValueError.__init__") [] (backTo pos (starEach (e :: es) X.env)) []) _ _ _
  refine PyProof.Rows.callWith_method1 (thn (ha.run pos pins _ σ H _ (I.tok _) h) fun us s1 ⟨vs, H1, I1, r1, a, C', ws, ev, hl, T, ea, q⟩ => ?_) he hpl
  subst ev
  cases r1 with
  | @cons _ u0 _ ur ra rw' =>
    obtain rfl : u0 = Value.ref a := ra
    have hlen : ur.length ≤ sizeLine := by
      rw [← Paired.length rw', sizeLine_eq]
      omega
    exact oinit_ok T I1 ea hlen fun s' J => ⟨.non, H1, J, rfl, q⟩
/-- what the __init__ of an exception with one field keeps -/
def spXI (C : Addr) (f : Str) : Sp := fun vs H Q _ => ∃ (a : Addr) (v : V), vs = [.ref a, v] ∧ H a = some (exo a C none) ∧ ∀ d, H d = none → d ≠ a → Q .non (upd (upd H d (exd d [(f, v)])) a (exo a C (some d)))
structure XCl (P : Program) (w : World) (K : PySem.W.Frag) (mg : Str → Option Value) (base : Heap) (k : Nat) (x : Str) (ps : List Str) (sp : Sp) : Prop where
  ex : ∃ fd, OexC K (He.ga K x) ∧ PySem.W.findIn K (.ref (He.ga K x)) "__init__" = some (some (.ref (He.ma K (He.ga K x) "__init__"))) ∧ PySem.W.typeIn K (.ref (He.ma K (He.ga K x) "__init__")) = some (.type "function") ∧
    FnOk P w K mg base (L2.CX P w) k (He.ma K (He.ga K x) "__init__") fd ps sp ∧ mg x = some (.ref (He.ga K x)) ∧ Binds K fd ps []
theorem pmkO {X : Cx} {e : Expr} {es : List Expr} {ta : TA} {p pos : Pos} {x : Str} {ps : List Str} {sp : Sp} {j k : Nat} (c : XCl X.prog X.w X.K X.mg X.base k x ps sp) (hr : Room j X.A) (hk : k + 1 ≤ j) (ha : PA X (e :: es) ta) (hg : Gl X x := by rfl)
    (hdb : (x == ("__debug__" : Str)) = false := by decide) (he : starEach (e :: es) X.env = (false, eval e X.env) :: starEach es X.env := by rfl) (hpl : (backTo pos (starEach es X.env)).any (·.1) = false := by rfl) :
    PMk X (.Call (.Name x p) (e :: es) [] pos) (tMkO (He.ga X.K x) sp [] ta) := by
  obtain ⟨fd, T, iC, tI, F, m, b⟩ := c.ex
  exact pmk_oex T iC tI F (hr.mono hk) b .nil passL hg m ha hdb he hpl
def rMkO (C : Addr) (sp : Sp) (vs : List V) (H1 : Hp) (E : XK) : Prop := vs.length ≤ 1000 ∧ ∀ a, H1 a = none → sp (.ref a :: (vs ++ [])) (upd H1 a (exo a C none))
  (fun v H2 => v = .non ∧ ∃ (d : Addr) (fs : List (Str × V)), H2 a = some (exo a C (some d)) ∧ H2 d = some (exd d fs) ∧ H1 d = none ∧ E (.ref C) (some d) (upd (del H2 a) d (.xd fs))) (fun _ _ _ => False)
theorem k_mk0 {C : Addr} {sp : Sp} {ta : TA} {σ : L2.St} {H : Hp} {E : XK} (q : ta σ H fun vs H1 => rMkO C sp vs H1 E) : tMkO C sp [] ta σ H E := q
theorem k_mkx {C : Addr} {f : Str} {v : V} {H1 : Hp} {E : XK} (k : ∀ d H2, H1 d = none → Same H1 H2 → H2 d = some (.xd [(f, v)]) → E (.ref C) (some d) H2) : rMkO C (spXI C f) [v] H1 E :=
  ⟨by simp, fun a ha => ⟨a, v, rfl, upd_same, fun d hd hda => ⟨rfl, d, [(f, v)], upd_same, by rw [upd_ne hda, upd_same], by rw [upd_ne hda] at hd; exact hd, by
      have hd1 : H1 d = none := by rw [upd_ne hda] at hd; exact hd
      have e : upd (del (upd (upd (upd H1 a (exo a C none)) d (exd d [(f, v)])) a (exo a C (some d))) a) d (.xd [(f, v)]) = upd H1 d (.xd [(f, v)]) := by
        funext b
        by_cases h1 : b = d
        · rw [h1, upd_same, upd_same]
        · rw [upd_ne h1, upd_ne h1]
          by_cases h2 : b = a
          · rw [h2, del_same, ha]
          · rw [del_ne h2, upd_ne h2, upd_ne h1, upd_ne h2]
      rw [e]
      exact k d _ hd1 (same_new hd1) upd_same⟩⟩⟩
def rVeI (K : PySem.W.Frag) (vs : List V) (H1 : Hp) (Q : VK) : Prop := ∃ (a C : Addr) (ws : List V), vs = .ref a :: ws ∧ ws.length ≤ 1000 ∧ OexC K C ∧ H1 a = some (exo a C none) ∧ Q .non H1
theorem k_veI {K : PySem.W.Frag} {ta : TA} {σ : L2.St} {H : Hp} {Q : VK} (q : ta σ H fun vs H1 => rVeI K vs H1 Q) : tVeI K ta σ H Q := q
theorem k_veIx {K : PySem.W.Frag} {a C : Addr} {ws : List V} {H : Hp} {Q : VK} (T : OexC K C) (h : H a = some (exo a C none)) (q : Q .non H) (hl : ws.length ≤ 1000) : rVeI K (.ref a :: ws) H Q := ⟨a, C, ws, rfl, hl, T, h, q⟩
def rOst (K : PySem.W.Frag) (f : Str) (x y : V) (H2 : Hp) (Q : Hp → Prop) : Prop := ∃ a C : Addr, x = .ref a ∧ OexC K C ∧ PySem.W.findIn K (.ref C) f = some none ∧
  ((H2 a = some (exo a C none) ∧ ∀ dx, H2 dx = none → dx ≠ a → Q (upd (upd H2 dx (exd dx [(f, y)])) a (exo a C (some dx)))) ∨
    ∃ (dx : Addr) (fs : List (Str × V)), H2 a = some (exo a C (some dx)) ∧ H2 dx = some (exd dx fs) ∧ fs.length ≤ 900 ∧ Q (upd H2 dx (exd dx ((f, y) :: fs))))
theorem k_ost {K : PySem.W.Frag} {f : Str} {to te : TE} {D : Ends} {σ : L2.St} {H : Hp} (q : te σ H fun y H1 => to σ H1 fun x H2 => rOst K f x y H2 fun H3 => D.nx σ H3) : tOst K f to te D σ H := q
theorem k_ostx {K : PySem.W.Frag} {f : Str} {a C : Addr} {y : V} {H : Hp} {Q : Hp → Prop} (T : OexC K C) (hn : PySem.W.findIn K (.ref C) f = some none) (h : H a = some (exo a C none)) (q : ∀ d, H d = none → d ≠ a → Q (upd (upd H d (exd d [(f, y)])) a (exo a C (some d)))) : rOst K f (.ref a) y H Q := ⟨a, C, rfl, T, hn, .inl ⟨h, q⟩⟩
/-- a field of the error that a suite holds -/
def rXf (a : Addr) (cls : Value) (d : Option Addr) (C : Addr) (f : Str) (x : V) (H1 : Hp) (Q : VK) : Prop := x = .ref a ∧ cls = .ref C ∧ ∃ (dd : Addr) (fs : List (Str × V)) (v : V), d = some dd ∧ H1 dd = some (.xd fs) ∧ fs.lookup f = some v ∧ Q v H1
theorem k_xf {a C : Addr} {cls : Value} {d : Option Addr} {f : Str} {te : TE} {σ : L2.St} {H : Hp} {Q : VK} (q : te σ H fun x H1 => rXf a cls d C f x H1 Q) : tXf a cls d C f te σ H Q := q
theorem k_xfx {a C dd : Addr} {f : Str} {v : V} {H : Hp} {Q : VK} (h : H dd = some (.xd [(f, v)])) (q : Q v H) : rXf a (.ref C) (some dd) C f (.ref a) H Q := ⟨rfl, rfl, dd, _, v, rfl, h, by simp [List.lookup], q⟩
end
/-! ### classes -/
structure MCl (P : Program) (w : World) (K : PySem.W.Frag) (mg : Str → Option Value) (base : Heap) (k : Nat) (C m : Str) (ps : List Str) (sp : Sp) : Prop where
  ex : ∃ f fd, Cls K (He.ga K C) ∧ Meth K (He.ga K C) m f ∧ FnOk P w K mg base (L2.CX P w) k f fd ps sp ∧ Binds K fd ps []
structure KCl (P : Program) (w : World) (K : PySem.W.Frag) (mg : Str → Option Value) (base : Heap) (k : Nat) (C : Str) (ps : List Str) (sp : Sp) : Prop where
  ex : ∃ f fd, Mk K (He.ga K C) f ∧ FnOk P w K mg base (L2.CX P w) k f fd ps sp ∧ mg C = some (.ref (He.ga K C)) ∧ Binds K fd ps []
/-- a class's def, called through the class: C.m(self, ..) -/
structure SCl (P : Program) (w : World) (K : PySem.W.Frag) (mg : Str → Option Value) (base : Heap) (k : Nat) (C m : Str) (ps : List Str) (sp : Sp) : Prop where
  ex : ∃ f fd, ClX.CRead K (He.ga K C) (.type "type") ∧ PySem.W.findCls K (.ref (He.ga K C)) (.type "type") m = some (.val (.ref f)) ∧ PySem.W.keepIn K (.ref f) = true ∧ FnOk P w K mg base (L2.CX P w) k f fd ps sp ∧ mg C = some (.ref (He.ga K C)) ∧ Binds K fd ps []
def tMethS (C : Addr) (m : Str) (sp : Sp) (E : L2.St → XK) (ta : TE) (t : TA) : TE := fun σ H Q => ta σ H fun x H1 => ∃ a dx fs, x = .ref a ∧ H1 a = some (.ins C dx fs) ∧ fs.lookup m = none ∧ t σ H1 fun vs H2 => sp (x :: vs) H2 Q (E σ)
def tOr2 (t u : TE) : TE := fun σ H Q => t σ H Q ∨ u σ H Q
section
variable {X : Cx} {W : WX} {e o : Expr} {es : List Expr} {p pos apos : Pos} {ta : TE} {t : TA} {C m x : Str} {ps : List Str} {sp : Sp} {j k : Nat}
theorem pe_or2 {e : Expr} {t u : TE} (a : PE X e t) (b : PE X e u) : PE X e (tOr2 t u) := ⟨fun pins s σ H Q I h => h.elim (a.run pins s σ H Q I) (b.run pins s σ H Q I)⟩
theorem pmeth {pl : Sem Bool} {K : PySem.W.Frag} (hK : X.K = K) (c : MCl X.prog X.w K X.mg X.base k C m ps sp) (hr : Room j X.A) (hk : k ≤ j) (tk : Takes X W) (he : PE X o ta) (ha : PA X (e :: es) t)
    (hst : starEach (e :: es) X.env = (false, eval e X.env) :: starEach es X.env := by rfl) (hpl : (backTo pos (starEach es X.env)).any (·.1) = false := by rfl)
    (ht : eval (.Call (.Attribute o m apos) (e :: es) [] pos) X.env = (do
      let ov ← eval o X.env
      standAt apos.atName
      let (f, first) ← holding [ov] (getMethod ov m pl)
      callWith pos f first (backTo pos (starEach (e :: es) X.env)) (backToKw pos (keywordEach [] X.env))) := by rfl) :
    PE X (.Call (.Attribute o m apos) (e :: es) [] pos) (tMethS (He.ga K C) m sp (WE W) ta t) := by
  subst hK
  obtain ⟨f, fd, hc, hm, F, b⟩ := c.ex
  refine ⟨fun pins s σ H Q I h => ?_⟩
  refine PySem.W.methodCall_KW (pl := pl) (thn (he.run pins s σ H _ I h) fun u s1 ⟨x, H1, I1, rx, a, dx, fs, ex, ea, l, q⟩ => ?_) ht
  subst ex
  obtain rfl : u = Value.ref a := rx
  refine getmeth_ok I1 ea hc hm l ?_
  refine PySem.W.callWith_K (first := [.ref a]) (h₀ := X.base) I.ok.mod.kin hm.kp (thn (ha.run pos pins s1 σ H1 _ I1 q) fun us s2 ⟨vs, H2, I2, r, q2⟩ => ⟨I2.kIn, ?_⟩) hst hpl
  exact run_fnS (us := .ref a :: us) (vs := .ref a :: vs) (E := WE W) F (hr.mono hk) b (passAt tk σ) I2 (.cons rfl r) q2
theorem pmeth0 {pl : Sem Bool} {K : PySem.W.Frag} (hK : X.K = K) (c : MCl X.prog X.w K X.mg X.base k C m ps sp) (hr : Room j X.A) (hk : k ≤ j) (tk : Takes X W) (he : PE X o ta)
    (ht : eval (.Call (.Attribute o m apos) [] [] pos) X.env = (do
      let ov ← eval o X.env
      standAt apos.atName
      let (f, first) ← holding [ov] (getMethod ov m pl)
      callWith pos f first (backTo pos (starEach [] X.env)) (backToKw pos (keywordEach [] X.env))) := by rfl) :
    PE X (.Call (.Attribute o m apos) [] [] pos) (tMethS (He.ga K C) m sp (WE W) ta tNil) := by
  subst hK
  obtain ⟨f, fd, hc, hm, F, b⟩ := c.ex
  refine ⟨fun pins s σ H Q I h => ?_⟩
  refine PySem.W.methodCall_KW (pl := pl) (thn (he.run pins s σ H _ I h) fun u s1 ⟨x, H1, I1, rx, a, dx, fs, ex, ea, l, q⟩ => ?_) ht
  subst ex
  obtain rfl : u = Value.ref a := rx
  refine getmeth_ok I1 ea hc hm l ?_
  exact PySem.W.callWith_K0 (first := [.ref a]) I1.kIn hm.kp (run_fnS (us := [.ref a]) (vs := [.ref a]) (E := WE W) F (hr.mono hk) b (passAt tk σ) I1 (.cons rfl .nil) q)
/-- where nothing may be raised -/
theorem pmethN {pl : Sem Bool} {K : PySem.W.Frag} (hK : X.K = K) (c : MCl X.prog X.w K X.mg X.base k C m ps sp) (hr : Room j X.A) (hk : k ≤ j) (he : PE X o ta) (ha : PA X (e :: es) t)
    (hst : starEach (e :: es) X.env = (false, eval e X.env) :: starEach es X.env := by rfl) (hpl : (backTo pos (starEach es X.env)).any (·.1) = false := by rfl)
    (ht : eval (.Call (.Attribute o m apos) (e :: es) [] pos) X.env = (do
      let ov ← eval o X.env
      standAt apos.atName
      let (f, first) ← holding [ov] (getMethod ov m pl)
      callWith pos f first (backTo pos (starEach (e :: es) X.env)) (backToKw pos (keywordEach [] X.env))) := by rfl) :
    PE X (.Call (.Attribute o m apos) (e :: es) [] pos) (tMethS (He.ga K C) m sp (fun _ => E0) ta t) := by
  subst hK
  obtain ⟨f, fd, hc, hm, F, b⟩ := c.ex
  refine ⟨fun pins s σ H Q I h => (pe_meth (pl := pl) he hc hm F (hr.mono hk) b .nil passL ha hst hpl ht).run pins s σ H Q I ?_⟩
  simp only [tMeth, List.append_nil]
  exact h
theorem pmethN0 {pl : Sem Bool} {K : PySem.W.Frag} (hK : X.K = K) (c : MCl X.prog X.w K X.mg X.base k C m ps sp) (hr : Room j X.A) (hk : k ≤ j) (he : PE X o ta)
    (ht : eval (.Call (.Attribute o m apos) [] [] pos) X.env = (do
      let ov ← eval o X.env
      standAt apos.atName
      let (f, first) ← holding [ov] (getMethod ov m pl)
      callWith pos f first (backTo pos (starEach [] X.env)) (backToKw pos (keywordEach [] X.env))) := by rfl) :
    PE X (.Call (.Attribute o m apos) [] [] pos) (tMethS (He.ga K C) m sp (fun _ => E0) ta tNil) := by
  subst hK
  obtain ⟨f, fd, hc, hm, F, b⟩ := c.ex
  refine ⟨fun pins s σ H Q I h => (pe_meth0 (pl := pl) he hc hm F (hr.mono hk) b .nil passL ht).run pins s σ H Q I ?_⟩
  simp only [tMeth, List.append_nil]
  exact h
theorem pmake {K : PySem.W.Frag} (hK : X.K = K) (c : KCl X.prog X.w K X.mg X.base k C ps sp) (hr : Room j X.A) (hk : k + 1 ≤ j) (ha : PA X (e :: es) t) (hg : Gl X C := by rfl)
    (hdb : (C == ("__debug__" : Str)) = false := by decide) (he : starEach (e :: es) X.env = (false, eval e X.env) :: starEach es X.env := by rfl) (hpl : (backTo pos (starEach es X.env)).any (·.1) = false := by rfl) :
    PE X (.Call (.Name C p) (e :: es) [] pos) (tMake (He.ga K C) sp [] E0 t) := by
  subst hK
  obtain ⟨f, fd, M, F, hm, b⟩ := c.ex
  exact pe_make M F (hr.mono hk) hg hm b .nil passL ha hdb he hpl
theorem pmake0 {K : PySem.W.Frag} (hK : X.K = K) (c : KCl X.prog X.w K X.mg X.base k C ps sp) (hr : Room j X.A) (hk : k + 1 ≤ j) (hg : Gl X C := by rfl)
    (hdb : (C == ("__debug__" : Str)) = false := by decide) : PE X (.Call (.Name C p) [] [] pos) (tMake (He.ga K C) sp [] E0 tNil) := by
  subst hK
  obtain ⟨f, fd, M, F, hm, b⟩ := c.ex
  exact pe_make0 M F (hr.mono hk) hg hm b .nil passL hdb
/-- C.m(self, ..) -/
theorem psup {pl : Sem Bool} (c : SCl X.prog X.w X.K X.mg X.base k C m ps sp) (hr : Room j X.A) (hk : k ≤ j) (ha : PA X (e :: es) t) (hg : Gl X C := by rfl)
    (hc : eval (.Call (.Attribute (.Name C p) m apos) (e :: es) [] pos) X.env = (do
      let ov ← eval (.Name C p) X.env
      standAt apos.atName
      let (f, first) ← holding [ov] (getMethod ov m pl)
      callWith pos f first (backTo pos (starEach (e :: es) X.env)) (backToKw pos (keywordEach [] X.env))) := by rfl)
    (he : starEach (e :: es) X.env = (false, eval e X.env) :: starEach es X.env := by rfl) (hpl : (backTo pos (starEach es X.env)).any (·.1) = false := by rfl) (hdb : (C == ("__debug__" : Str)) = false := by decide) :
    PE X (.Call (.Attribute (.Name C p) m apos) (e :: es) [] pos) (tCall sp [] E0 t) := by
  obtain ⟨f, fd, cr, ca, kp, F, hm, b⟩ := c.ex
  refine ⟨fun pins s σ H Q I h => ?_⟩
  refine PySem.W.methodCall_KW (ld_glob I hg hm ?_ hdb) hc
  refine PySem.W.method_cls I.kIn cr.ga (PySem.W.cls_value I.kIn cr.rd ca rfl ?_)
  refine PySem.W.callWith_K (first := []) (h₀ := X.base) I.ok.mod.kin kp (thn (ha.run pos pins _ σ H _ (I.tok _) h) fun us s2 ⟨vs, H2, I2, r, q2⟩ => ⟨I2.kIn, ?_⟩) he hpl
  exact run_fn F (hr.mono hk) b .nil passL I2 r q2
/-- C(), C without an __init__ -/
structure MbC (K : PySem.W.Frag) (mg : Str → Option Value) (C : Str) : Prop where
  mks : PySem.W.makesIn K (He.ga K C) = true
  ini : PySem.W.findIn K (.ref (He.ga K C)) "__init__" = some (some (.builtin "object.__init__"))
  kp : PySem.W.keepIn K (.ref (He.ga K C)) = true
  ob : PySem.W.mroIn K (He.ga K C) (.type "object") = some true
def mbB (K : PySem.W.Frag) (C : Str) : Bool := PySem.W.makesIn K (He.ga K C) && (He.eqO (PySem.W.findIn K (.ref (He.ga K C)) "__init__") (some (some (.builtin "object.__init__"))) && (PySem.W.keepIn K (.ref (He.ga K C)) && decide (PySem.W.mroIn K (He.ga K C) (.type "object") = some true)))
theorem mbB_ok {K : PySem.W.Frag} {mg : Str → Option Value} {C : Str} (h : mbB K C = true) : MbC K mg C := by
  obtain ⟨h1, h⟩ := He.ba h
  obtain ⟨h2, h⟩ := He.ba h
  obtain ⟨h3, h4⟩ := He.ba h
  exact ⟨h1, He.eqO_ok h2, h3, of_decide_eq_true h4⟩
def tMakeB (C : Addr) : TE := fun _ H Q => ∀ x dx, H x = none → H dx = none → dx ≠ x → Q (.ref x) (upd (upd H dx (.own x)) x (.ins C dx []))
theorem pmakeB {K : PySem.W.Frag} (hK : X.K = K) (c : MbC K X.mg C) (hm : X.mg C = some (.ref (He.ga K C))) (hg : Gl X C := by rfl) (hdb : (C == ("__debug__" : Str)) = false := by decide) : PE X (.Call (.Name C p) [] [] pos) (tMakeB (He.ga K C)) := by
  subst hK
  refine ⟨fun pins s σ H Q I h => ?_⟩
  refine wpAny_Call_Name_kw (ld_glob I hg hm ?_ hdb)
  refine PySem.W.callWith_K0 I.kIn c.kp ?_
  have q := h (s.heap.objs.size + 1) s.heap.objs.size (I.hok.fresh (Nat.le_succ _)) (I.hok.fresh (Nat.le_refl _)) (Nat.ne_of_lt (Nat.lt_succ_self _))
  have I2 := Inv.made (C := He.ga X.K C) I
  refine wpAny_call (make_map0 I.kIn c.mks c.ini (fun self => PySem.W.Looks.of_pure (PySem.W.oi_bind self)) ?_)
  have hx : ((s.heap.push PySem.W.emptyDict).push (PySem.W.instObj (He.ga X.K C) s.heap.objs.size)).get? (s.heap.objs.size + 1) = some (PySem.W.instObj (He.ga X.K C) s.heap.objs.size) := by
    have := Heap.get?_push_size (s.heap.push PySem.W.emptyDict) (o := PySem.W.instObj (He.ga X.K C) s.heap.objs.size) rfl
    rwa [Heap.size_push] at this
  have t1 : PySem.W.Looks (model X.prog X.w) ((s.heap.push PySem.W.emptyDict).push (PySem.W.instObj (He.ga X.K C) s.heap.objs.size)) (typeOf (.ref (s.heap.objs.size + 1))) (.ref (He.ga X.K C)) := (PySem.W.Looks.ld hx).andThen .now
  have t2 : PySem.W.Looks (model X.prog X.w) ((s.heap.push PySem.W.emptyDict).push (PySem.W.instObj (He.ga X.K C) s.heap.objs.size)) (isInstance (.ref (s.heap.objs.size + 1)) (.type "object")) true := t1.andThen (PySem.W.looks_mroIn (M := model X.prog X.w) I2.kIn c.ob)
  refine codeAny_call_builtin PySem.W.oi_plain PySem.W.entry_oi (@PySem.W.check_slot (model X.prog X.w) _ _ _ "object.__init__" "object" "__init__" (.ref (s.heap.objs.size + 1)) [] [] _ PySem.W.oi_kind PySem.W.oi_split t2 (PySem.W.oi_args (.ref (s.heap.objs.size + 1))) ?_)
  rw [PySem.W.oi_run]
  exact wpAny_pure (And.intro rfl ⟨V.ref (s.heap.objs.size + 1), _, I2, rfl, q⟩)
end
section
variable {σ : L2.St} {H : Hp} {Q : VK} {ta tv : TE} {K : PySem.W.Frag} {a C dx : Addr} {fs : List (Str × V)} {f m : Str} {v : V} {sp : Sp} {t : TA} {D : Ends} {E : XK}
def rFld (K : PySem.W.Frag) (f : Str) (x : V) (H1 : Hp) (Q : VK) : Prop := ∃ a C dx fs v, x = .ref a ∧ H1 a = some (.ins C dx fs) ∧ Cls K C ∧ NoAttr K C f ∧ fs.lookup f = some v ∧ Q v H1
theorem k_fld (q : ta σ H fun x H1 => rFld K f x H1 Q) : tFld K ta f σ H Q := q
theorem k_fldx (h : H a = some (.ins C dx fs)) (c : Cls K C) (n : NoAttr K C f) (l : fs.lookup f = some v) (q : Q v H) : rFld K f (.ref a) H Q := ⟨a, C, dx, fs, v, rfl, h, c, n, l, q⟩
def rSFld (K : PySem.W.Frag) (f : Str) (x y : V) (H2 : Hp) (Q : Hp → Prop) : Prop := ∃ a C dx fs, x = .ref a ∧ H2 a = some (.ins C dx fs) ∧ Cls K C ∧ NoAttr K C f ∧ fs.length < 1000 ∧ Q (upd H2 a (.ins C dx (putF f y fs)))
theorem k_sfld (q : tv σ H fun y H1 => ta σ H1 fun x H2 => rSFld K f x y H2 fun H3 => D.nx σ H3) : sFld K ta tv f D σ H := q
theorem k_sfldx {y : V} {Q : Hp → Prop} (h : H a = some (.ins C dx fs)) (c : Cls K C) (n : NoAttr K C f) (q : ∀ H', But a H H' → H' a = some (.ins C dx (putF f y fs)) → Q H') (l : fs.length < 1000) : rSFld K f (.ref a) y H Q := ⟨a, C, dx, fs, rfl, h, c, n, l, q _ But.upd upd_same⟩
def rMeth (C : Addr) (m : Str) (x : V) (H1 : Hp) (P : Prop) : Prop := ∃ a dx fs, x = .ref a ∧ H1 a = some (.ins C dx fs) ∧ fs.lookup m = none ∧ P
theorem k_meth {E : L2.St → XK} (q : ta σ H fun x H1 => rMeth C m x H1 (t σ H1 fun vs H2 => sp (x :: vs) H2 Q (E σ))) : tMethS C m sp E ta t σ H Q := q
theorem k_methx {P : Prop} (h : H a = some (.ins C dx fs)) (l : fs.lookup m = none) (q : P) : rMeth C m (.ref a) H P := ⟨a, dx, fs, rfl, h, l, q⟩
theorem k_o1 {t u : TE} (q : t σ H Q) : tOr2 t u σ H Q := .inl q
theorem k_o2 {t u : TE} (q : u σ H Q) : tOr2 t u σ H Q := .inr q
def rMake (C : Addr) (sp : Sp) (vs : List V) (H1 : Hp) (Q : VK) (E : XK) : Prop := ∀ x dx, H1 x = none → H1 dx = none → dx ≠ x → sp (.ref x :: vs) (upd (upd H1 dx (.own x)) x (.ins C dx [])) (fun v H2 => v = .non ∧ Q (.ref x) H2) E
theorem k_make (q : t σ H fun vs H1 => rMake C sp vs H1 Q E) : tMake C sp [] E t σ H Q := by
  unfold tMake
  simp only [List.append_nil]
  exact q
theorem k_makex {vs : List V} (q : ∀ x dx H2, H x = none → H dx = none → Same H H2 → H2 x = some (.ins C dx []) → H2 dx = some (.own x) → sp (.ref x :: vs) H2 (fun v H3 => v = .non ∧ Q (.ref x) H3) E) : rMake C sp vs H Q E := fun x dx hx hd ne =>
  q x dx _ hx hd ((same_new hd).trans (same_new (by rw [upd_ne (Ne.symm ne)]; exact hx))) upd_same (by rw [upd_ne ne, upd_same])
def rMakeB (C : Addr) (H : Hp) (Q : VK) : Prop := ∀ x dx, H x = none → H dx = none → dx ≠ x → Q (.ref x) (upd (upd H dx (.own x)) x (.ins C dx []))
theorem k_makeB (q : rMakeB C H Q) : tMakeB C σ H Q := q
theorem k_makeBx (q : ∀ x dx H2, H x = none → Same H H2 → H2 x = some (.ins C dx []) → Q (.ref x) H2) : rMakeB C H Q := fun x dx hx hd ne =>
  q x dx _ hx ((same_new hd).trans (same_new (by rw [upd_ne (Ne.symm ne)]; exact hx))) upd_same
end
/-! fields by name -/
section
variable {f g : Str} {u v : V} {r : List (Str × V)}
theorem lk1 : List.lookup f ((f, v) :: r) = some v := by simp [List.lookup]
theorem lkn (h : (f == g) = false) (k : List.lookup f r = some v) : List.lookup f ((g, u) :: r) = some v := by
  show (match f == g with | true => some u | false => List.lookup f r) = _
  rw [h]
  exact k
theorem lk0 : List.lookup f ([] : List (Str × V)) = none := rfl
theorem lkz (h : (f == g) = false) (k : List.lookup f r = none) : List.lookup f ((g, u) :: r) = none := by
  show (match f == g with | true => some u | false => List.lookup f r) = _
  rw [h]
  exact k
theorem pfl0 : ([] : List (Str × V)).length < 1 := by decide
theorem pfl : ∀ {r : List (Str × V)} {n : Nat}, r.length < n → (putF f v r).length < n + 1
  | [], n, h => by show 1 < n + 1; simp at h; omega
  | (g, u) :: r, n, h => by
    show (if g = f then (g, v) :: r else (g, u) :: putF f v r).length < n + 1
    cases n with
    | zero => simp at h
    | succ n =>
      split
      · simp at h ⊢; omega
      · have := pfl (r := r) (n := n) (by simpa using h)
        simp only [List.length_cons]
        omega
theorem pf0 : putF f v [] = [(f, v)] := rfl
theorem pf1 : putF f v ((f, u) :: r) = (f, v) :: r := if_pos rfl
theorem pfn (h : g ≠ f) : putF f v ((g, u) :: r) = (g, u) :: putF f v r := if_neg h
end
/-- what a class says, read through -/
def supmB (K : PySem.W.Frag) (C m : Str) : Bool := PySem.W.readsIn K (He.ga K C) (.type "type") && (He.eqO (PySem.W.specialIn K (.ref (He.ga K C)) "__getattribute__") (some (some (.builtin "type.__getattribute__"))) && (PySem.W.keepIn K (.ref (He.ma K (He.ga K C) m)) && (match PySem.W.findCls K (.ref (He.ga K C)) (.type "type") m with
  | some (.val (.ref f)) => f == He.ma K (He.ga K C) m
  | _ => false)))
theorem supmB_ok {K : PySem.W.Frag} {C m : Str} (h : supmB K C m = true) : ClX.CRead K (He.ga K C) (.type "type") ∧ PySem.W.findCls K (.ref (He.ga K C)) (.type "type") m = some (.val (.ref (He.ma K (He.ga K C) m))) ∧ PySem.W.keepIn K (.ref (He.ma K (He.ga K C) m)) = true := by
  obtain ⟨h1, h⟩ := He.ba h
  obtain ⟨h2, h⟩ := He.ba h
  obtain ⟨h3, h4⟩ := He.ba h
  refine ⟨⟨h1, He.eqO_ok h2⟩, ?_, h3⟩
  split at h4
  · rename_i f e
    rw [e, beq_iff_eq.mp h4]
  · cases h4
/-! ### operators, joined -/
section
variable {X : Cx}
/-! a given list + a list -/
section
theorem addL_any (l : Addr) (xs : Array Value) (n : Nat) (dd : Option Addr) (sl : Array (Option Value)) (b : Addr) (ys : Array Value) (m : Nat) (de : Option Addr) (sk : Array (Option Value)) (hz : xs.size + ys.size ≤ sizeLine) :
    Meets (Builtin.«list.__add__» ⟨[.ref l, .ref b], []⟩) (fun _ R s => s.heap.get? l = some ⟨.type "list", dd, .seq xs n, sl⟩ ∧ s.heap.get? b = some ⟨.type "list", de, .seq ys m, sk⟩ ∧ R (.ok (.ret (Value.ref s.heap.objs.size))) { s with heap := s.heap.push ⟨Value.type "list", none, Data.seq (xs ++ ys) 0, #[]⟩, toks := s.toks }) :=
  .of_wp fun prog w A R st z => by
    obtain ⟨h0, g0, d0, t0, o0⟩ := st
    obtain ⟨z1, z2, z3⟩ := z
    have t1 := AutoSeq1.idx_int; have t2 := AutoSeq1.sub_tuple_tuple; have t3 := AutoSeq1.sub_list_list; have t4 := AutoSeq1.sub_tuple_list; have t5 := AutoSeq1.sub_list_tuple
    wp_walk using AutoSeq1.wpAny_loadPart' z1, AutoSeq1.wpAny_loadPart' z2
    exact ⟨_, rfl, z3⟩
def rCatL (K : PySem.W.Frag) : R2 := fun x y H Q => ∃ l b xs zs, x = .ref l ∧ y = .ref b ∧ SqL K H l xs ∧ SqL K H b zs ∧ xs.length + zs.length ≤ sizeLine ∧ ∀ p, H p = none → Q (.ref p) (upd H p (.lst (xs ++ zs)))
theorem op_catL {X : Cx} : OpR X (binaryOp .Add) (rCatL X.K) := by
  rintro pins s σ H x y v u Q I rx ry ⟨l, b, xs, zs, rfl, rfl, hx, hy, hz, q⟩
  cases rx
  cases ry
  obtain ⟨as, r1, ⟨o1, n1, e1, c1, d1, k1⟩, z1⟩ := I.list hx
  obtain ⟨bs, r2, ⟨o2, n2, e2, c2, d2, k2⟩, z2⟩ := I.list hy
  obtain ⟨oc1, od1, ot1, os1⟩ := o1
  obtain ⟨oc2, od2, ot2, os2⟩ := o2
  simp only at c1 c2 k1 k2
  subst c1 c2 k1 k2
  have l1 := r1.length
  have l2 := r2.length
  refine PySem.concat_meets ⟨_, e1, rfl⟩ ⟨_, e2, rfl⟩ PySem.noFill_list_add PySem.seq_list_add PySem.F.slot_list_add PySem.F.entry_list_add (PySem.F.args_list_add_2 _ _) (addL_any l as.toArray n1 od1 os1 b bs.toArray n2 od2 os2 (by simp only [List.size_toArray]; omega)) ⟨e1, e2, ?_⟩
  have ea : as.toArray ++ bs.toArray = (as ++ bs).toArray := by simp
  rw [ea]
  exact ⟨.ref _, _, I.lnew (t' := s.toks) (r1.append r2) (by rw [List.length_append]; omega), rfl, q _ I.fresh⟩
end
def rAddU (K : PySem.W.Frag) : R2 := fun x y H Q => (∃ i j, x = .int i ∧ y = .int j ∧ Q (.int (i + j)) H) ∨ (∃ i j, x = .str i ∧ y = .str j ∧ i.length + j.length ≤ sizeLine ∧ Q (.str (i ++ j)) H) ∨ rCat x y H Q ∨ rCatA K x y H Q ∨ rCatL K x y H Q
theorem op_addU : OpR X (binaryOp .Add) (rAddU X.K) := op_add.or (op_add_str.or (op_cat.or (op_catA.or op_catL)))
theorem tuple_mul1 (l : Addr) (items : Array Value) (n : Nat) (dd : Option Addr) (sl : Array (Option Value)) (u : Tok) :
    Meets (Builtin.«tuple.__mul__» ⟨[.ref l, .int 1 u], []⟩) (fun _ R s => s.heap.get? l = some { cls := .type "tuple", dict := dd, data := .seq items n, slots := sl } ∧ R (.ok (.ret (Value.ref l))) s) :=
  .of_wp fun prog w A R s h => by
    obtain ⟨hp, g, d, tk, os⟩ := s
    obtain ⟨hl, h⟩ := h
    have f1 := AutoSeq1.idx_int
    have c0 : (decide ((1 : Int) < -(2 ^ 63)) || decide ((1 : Int) ≥ 2 ^ 63)) = false := by decide
    have c1 : (items.isEmpty || (1 : Int) == 1) = true := by simp
    wp_walk using wpAny_loadPart' hl
    repeat (first
      | (refine wpAny_ite_false (decide_eq_false (by rw [c0]; exact Bool.false_ne_true)) ?_; wp_walk using wpAny_loadPart' hl)
      | (refine wpAny_ite_true (decide_eq_true c1) ?_; wp_walk using wpAny_loadPart' hl))
    exact ⟨_, rfl, h⟩
def rRep1 (K : PySem.W.Frag) : R2 := fun x y H Q => ∃ l xs, x = .ref l ∧ y = .int 1 ∧ SqT K H l xs ∧ Q (.ref l) H
theorem op_rep1 {X : Cx} : OpR X (binaryOp .Mult) (rRep1 X.K) := by
  intro pins s σ H x y v u Q I rx ry h
  obtain ⟨l, xs, rfl, rfl, hT, q⟩ := h
  cases rx
  obtain ⟨t, rfl⟩ := ry
  obtain ⟨its, r, ⟨⟨cls, dd, data, sl⟩, ho, hc, n, hd⟩, hs⟩ := I.tuple hT
  simp only at hc hd
  subst hc hd
  refine wpAny_binaryOp_repeat_ref (T := "tuple") (U := "int") (by decide) ⟨_, ho, rfl⟩ (fun s' => typeIs_int s' 1 t) noFill_tuple_mul F.fills_int_mul F.slot_int_rmul repeat_tuple F.slot_int_index.lookup
    (call_meets F.slot_int_rmul (typeIs_int s 1 t) F.entry_int_rmul (F.args_int_rmul_2 _ _) (int_rmul_tuple 1 t l its.toArray n dd sl)
      ⟨ho, rfl, ⟨_, ho, rfl⟩, call_meets F.slot_tuple_mul ⟨_, ho, rfl⟩ F.entry_tuple_mul (F.args_tuple_mul_2 _ _) (tuple_mul1 l its.toArray n dd sl t) ⟨ho, ?_⟩⟩)
  exact ⟨.ref l, H, I, rfl, q⟩
/-! a letter, repeated -/
def rMulC : R2 := fun x y H Q => ∃ (c n : Nat), x = .str (SX.S [c]) ∧ y = .int (n : Int) ∧ 1 ≤ n ∧ n ≤ 1000 ∧ Q (.str (SX.S (List.replicate n c))) H
theorem fold_rep (c : Nat) : ∀ (n : Nat) (l : List Nat), ((List.replicate n (#[c] : Array Nat)).foldl (· ++ ·) l.toArray) = (l ++ List.replicate n c).toArray := fun n => by
  induction n with
  | zero => intro l; simp
  | succ n ih =>
    intro l
    rw [List.replicate_succ, List.foldl_cons, show l.toArray ++ (#[c] : Array Nat) = (l ++ [c]).toArray by simp, ih, List.replicate_succ, List.append_assoc]
    rfl
theorem op_mulC {X : Cx} : OpR X (binaryOp .Mult) rMulC := by
  rintro pins s σ H x y v u Q I rx ry ⟨c, n, rfl, rfl, n0, n1, q⟩
  obtain ⟨t, rfl⟩ := rx
  obtain ⟨k, rfl⟩ := ry
  refine P.mul_str ?_ ?_ ?_ ?_
  · rw [decide_eq_false (by omega), decide_eq_false (by omega)]; rfl
  · intro _ _ h
    rw [SX.S_len] at h
    have h2 : (1 : Int) ≤ (2 ^ 63 - 1) / (n : Int) := (Int.le_ediv_iff_mul_le (by omega)).mpr (by omega)
    generalize ((2 : Int) ^ 63 - 1) / (n : Int) = d at h h2
    simp at h
    omega
  · intro _ _
    rw [SX.S_len]
    show PySem.Builtin.Str.tooLong (1 * n) = false
    unfold PySem.Builtin.Str.tooLong
    simp [sizeLine_eq]
    omega
  · rw [if_neg (by omega)]
    by_cases e : n = 1
    · subst e
      rw [if_pos (by rfl)]
      exact ⟨.str _, H, I, ⟨_, rfl⟩, q⟩
    · rw [if_neg (by
        rw [SX.S_len]
        simp
        omega)]
      have ee : (⟨(List.replicate ((n : Int)).toNat (SX.S [c]).cps).foldl (· ++ ·) #[]⟩ : Str) = SX.S (List.replicate n c) := by
        have := fold_rep c n []
        show (⟨_⟩ : Str) = ⟨_⟩
        exact congrArg Str.mk (by simpa using this)
      rw [ee]
      exact ⟨by simp [SX.S_len, sizeLine_eq]; try omega, .str _, H, I.tok _, ⟨_, rfl⟩, q⟩
/-- a short text, repeated -/
def rMulS : R2 := fun x y H Q => ∃ (z : Str) (i : Int), x = .str z ∧ y = .int i ∧ z.length ≤ 16 ∧ 0 ≤ i ∧ i ≤ 1048576 ∧ ∀ u : Str, (u.length : Int) = z.length * i → Q (.str u) H
theorem op_mulS : OpR X (binaryOp .Mult) rMulS := by
  rintro pins s σ H x y v u Q I rx ry ⟨z, i, rfl, rfl, hz, h0, h1, q⟩
  obtain ⟨t, rfl⟩ := rx
  obtain ⟨k, rfl⟩ := ry
  exact PySem.W.KXi.mul rfl hz (by omega) h1 fun t' m _ hl => ⟨.str _, H, I.tok _, ⟨_, rfl⟩, q _ (hl h0)⟩
def rMulU (K : PySem.W.Frag) : R2 := fun x y H Q => (∃ i j, x = .int i ∧ y = .int j ∧ CMulX i j ∧ Q (.int (i * j)) H) ∨ rRep x y H Q ∨ rRepT K x y H Q ∨ rMulS x y H Q ∨ rRep1 K x y H Q ∨ rMulC x y H Q
theorem op_mulU : OpR X (binaryOp .Mult) (rMulU X.K) := op_mulX.or (op_rep.or (op_repT.or (op_mulS.or (op_rep1.or op_mulC))))
/-- lists that are not as long -/
def rEqL (K : PySem.W.Frag) : R2 := fun x y H Q => ∃ a b xs ys, x = .ref a ∧ y = .ref b ∧ SqL K H a xs ∧ SqL K H b ys ∧ xs.length ≠ ys.length ∧ Q (.bl false) H
theorem op_eqL {X : Cx} (hu : X.A.units < cLine) : OpR X (compareOp .Eq) (rEqL X.K) := by
  rintro pins s σ H x y v u Q I rx ry ⟨a, b, xs, ys, rfl, rfl, hx, hy, ne, q⟩
  cases rx
  cases ry
  obtain ⟨us, ru, pu, _⟩ := I.list hx
  obtain ⟨vs, rv, pv, _⟩ := I.list hy
  refine PySem.SeqAt.eq_list_lengthsAt pu.isList pv.isList ?_ hu ⟨.bl false, H, I, rfl, q⟩
  have h1 := ru.length
  have h2 := rv.length
  simp
  omega
def rEqU (K : PySem.W.Frag) : R2 := fun x y H Q => rEq x y H Q ∨ rEqD K x y H Q ∨ rEqL K x y H Q
def rNeL (K : PySem.W.Frag) : R2 := fun x y H Q => ∃ a b xs ys, x = .ref a ∧ y = .ref b ∧ SqL K H a xs ∧ SqL K H b ys ∧ xs.length ≠ ys.length ∧ Q (.bl true) H
theorem op_neL {X : Cx} (hu : X.A.units < cLine) : OpR X (compareOp .NotEq) (rNeL X.K) := by
  rintro pins s σ H x y v u Q I rx ry ⟨a, b, xs, ys, rfl, rfl, hx, hy, ne, q⟩
  cases rx
  cases ry
  obtain ⟨us, ru, pu, _⟩ := I.list hx
  obtain ⟨vs, rv, pv, _⟩ := I.list hy
  refine PySem.SeqAt.RcNeAt.lists_lengths pu.isList pv.isList ?_ hu X.prog X.w _ _ ⟨.bl true, H, I, rfl, q⟩
  have h1 := ru.length
  have h2 := rv.length
  simp
  omega
def rNeU (K : PySem.W.Frag) : R2 := fun x y H Q => rNe x y H Q ∨ rNeD K x y H Q ∨ rNeL K x y H Q
theorem op_eqU {k : Nat} (hr : Room k X.A) : OpR X (compareOp .Eq) (rEqU X.K) := op_eq.or ((op_eqD hr.units).or (op_eqL (by have := hr.units; omega)))
theorem op_neU {k : Nat} (hr : Room k X.A) : OpR X (compareOp .NotEq) (rNeU X.K) := op_ne.or ((op_neD hr.units).or (op_neL (by have := hr.units; omega)))
def CDivG (i j : Int) : Prop := j ≠ 0 ∧ Builtin.divisionGoesByPylong i j = false
theorem noPy_low {i j : Int} (h : j.natAbs < 2 ^ 9000) : Builtin.divisionGoesByPylong i j = false := PyProof.noPylong_of_log2 (PySem.Flt.log2_lt_of (by decide) h)
theorem noPy_mid {i j : Int} (h : i.natAbs < 2 ^ 13500) : Builtin.divisionGoesByPylong i j = false := by
  have e := PySem.Flt.log2_lt_of (by decide) h
  unfold Builtin.divisionGoesByPylong
  simp only [Bool.and_eq_false_iff, decide_eq_false_iff_not]
  by_cases c : j = 0
  · left; simp [c]
  · by_cases c2 : i = 0
    · right; simp [c2]
    · simp [c, c2]; omega
theorem op_fdivG : OpR X (binaryOp .FloorDiv) (rI CDivG fun i j => .int (i.fdiv j)) := opI fun i j _ _ _ _ _ hc q => floordiv_int hc.1 q (.inl hc.2)
end
/-- walking a list or a tuple -/
def rItU (K : PySem.W.Frag) (x : V) (H : Hp) (R : It → Hp → Prop) : Prop := ∃ a, x = .ref a ∧ (((∃ xs, SqL K H a xs) ∧ R (Itl K a) H) ∨ ((∃ xs, SqT K H a xs) ∧ R (Itt K a) H))
def iSeqU (K : PySem.W.Frag) (tl : TE) : TI := fun σ H R => tl σ H fun x H1 => rItU K x H1 R
theorem pi_seqU {X : Cx} {tg l : Expr} {tl : TE} (hl : PE X l tl) : PI X tg l (iSeqU X.K tl) :=
  ⟨fun pins s σ H R I h => thn (hl.run pins s σ H _ I h) fun v s1 z => by
    obtain ⟨x, H1, I1, r1, a, e, z⟩ := z
    cases e
    cases r1
    have fp : ∀ b ∈ [s1.heap.objs.size], FpOk X pins H1 b := fun b hb => by
      obtain rfl : b = s1.heap.objs.size := by simpa using hb
      exact I1.fpOk (Nat.le_refl _) (I1.hok.fresh (Nat.le_refl _))
    rcases z with ⟨⟨xs, hq⟩, q⟩ | ⟨⟨xs, hq⟩, q⟩
    · obtain ⟨its, _, pl, _⟩ := I1.list hq
      exact wpAny_pyIter_list pl.isList ⟨_, [s1.heap.objs.size], _, _, H1, rfl, I1.kept (t' := s1.toks) (fun b o w => Heap.get?_push_of_some _ w), turn_list a _, ⟨_, Heap.get?_push_size _ rfl, rfl, rfl⟩, fp, q⟩
    · obtain ⟨its, _, pt, _⟩ := I1.tuple hq
      exact wpAny_pyIter_tuple (show s1.heap.IsTuple a its.toArray from pt) ⟨_, [s1.heap.objs.size], _, _, H1, rfl, I1.kept (t' := s1.toks) (fun b o w => Heap.get?_push_of_some _ w), turn_tuple a _, ⟨_, Heap.get?_push_size _ rfl, rfl, rfl⟩, fp, q⟩⟩
/-- a tuple's type, a list's type -/
theorem pi_seqUK {X : Cx} {K : PySem.W.Frag} {tg l : Expr} {tl : TE} (h : X.K = K) (hl : PE X l tl) : PI X tg l (iSeqU K tl) := h ▸ pi_seqU hl
theorem ty_tup {K : PySem.W.Frag} {H : Hp} {p : Addr} {xs : List V} (h : SqT K H p xs) : TyX K H (.ref p) (.type "tuple") := by
  rcases h with (h | ⟨o, h⟩) | ⟨o, its, n, h, c, _⟩
  · exact .base (.tup h)
  · exact .fTuple h
  · exact .kTuple h c
theorem ty_lst {K : PySem.W.Frag} {H : Hp} {p : Addr} {xs : List V} (h : SqL K H p xs) : TyX K H (.ref p) (.type "list") := by
  rcases h with (h | ⟨o, h⟩) | ⟨o, its, n, h, c, _⟩
  · exact .base (.lst h)
  · exact .base (.frz h)
  · exact .kList h c
/-- isinstance(e, c), e the error that a suite holds, its class cls, its dict d -/
def rIsEU (K : PySem.W.Frag) (a : Addr) (cls : Value) (d : Option Addr) : List V → Hp → VK → Prop := fun xs H Q => ∃ D : Addr, cls = .ref D ∧ (d = none ∨ ∃ dd fs, d = some dd ∧ H dd = some (.xd fs)) ∧ ExcC K D ∧ rIsE K D a xs H Q
theorem call_isEU {X : Cx} {a : Addr} {cls : Value} {d : Option Addr} {oe : Obj} {pn : List (Addr × Obj)} (hz : Zc cls d oe) (hf : ∃ vs, oe.data = .fields vs) : CallR (X.suite a ((a, oe) :: pn)) (.builtin "isinstance") (rIsEU X.K a cls d) := by
  intro pins s σ H xs us Q I r h
  obtain ⟨D, rfl, hd, C, h⟩ := h
  rcases hd with rfl | ⟨dd, fs, rfl, hdd⟩
  · exact call_isE C hz hf pins s σ H xs us Q I r h
  · obtain ⟨c, cv, b, rfl, hcv, e, q⟩ := h
    cases r with
    | cons rx rr =>
      cases rr with
      | cons rt rr =>
        cases rr
        cases rx
        have ec := hcv _ rt
        subst ec
        obtain ⟨hget, _⟩ := I.pin (a, oe) (List.mem_append.mpr (.inl List.mem_cons_self))
        obtain ⟨vs, hv⟩ := hf
        have hx : ObjOk X.prog X.w H s.heap dd (.xd fs) := I.hok dd _ hdd
        obtain ⟨mA, hns, hr⟩ := hx
        obtain ⟨od, ho, hl⟩ := lookIn_ns hns
        have J : PySem.W.InstAt s.heap a oe D (some od) := ⟨hget, hz.1, by unfold PySem.W.notCls; rw [hv] <;> rfl, by rw [hz.2]; exact ho⟩
        exact PySem.W.kia_one (PySem.W.kitx_exc (by obtain ⟨cd, hc, _⟩ := PySem.W.any_some C.hd; rw [hc]; rfl) C.hg C.hk C.hs C.ha C.hn C.ht C.hm) I.kIn J e (fun z => nomatch z) fun tk => ⟨.bl b, H, I.kept (t' := tk) fun _ _ z => z, rfl, q⟩
theorem k_isE {K : PySem.W.Frag} {H : Hp} {Q : VK} {a D : Addr} {c : V} {cv : Value} {b : Bool} (C : ExcC K D) (hk : PySem.W.kitOne K (.ref D) cv = some b) (hc : ∀ u, RelV c u → u = cv) (q : Q (.bl b) H) : rIsEU K a (.ref D) none [.ref a, c] H Q := ⟨D, rfl, .inl rfl, C, c, cv, b, rfl, hc, hk, q⟩
theorem k_isED {K : PySem.W.Frag} {H : Hp} {Q : VK} {a D dd : Addr} {fs : List (Str × V)} {c : V} {cv : Value} {b : Bool} (h : H dd = some (.xd fs)) (C : ExcC K D) (hk : PySem.W.kitOne K (.ref D) cv = some b) (hc : ∀ u, RelV c u → u = cv) (q : Q (.bl b) H) : rIsEU K a (.ref D) (some dd) [.ref a, c] H Q := ⟨D, rfl, .inr ⟨dd, fs, rfl, h⟩, C, c, cv, b, rfl, hc, hk, q⟩
def excB (K : PySem.W.Frag) (x : Str) : Bool := He.eqO (PySem.W.findIn K (.ref (He.ga K x)) "__getattribute__") (some (some (.builtin "BaseException.__getattribute__"))) && (He.eqO (PySem.W.findIn K (.ref (He.ga K x)) "__getattr__") (some none) &&
  (decide (PySem.W.subIn K (.ref (He.ga K x)) (.type "BaseException") = some true) && (PySem.W.hasDictIn K (He.ga K x) && (He.eqO (PySem.W.findIn K (.ref (He.ga K x)) "__class__") (some (some (.builtin "object.__class__"))) &&
  (He.eqO (PySem.W.specialIn K (.builtin "object.__class__") "__get__") (some (some (.builtin "getset_descriptor.__get__"))) && (decide (PySem.W.takesIn K (.builtin "object.__class__") = some true) && decide (PySem.W.mroIn K (He.ga K x) (.type "object") = some true)))))))
theorem excB_ok {K : PySem.W.Frag} {x : Str} (h : excB K x = true) : ExcC K (He.ga K x) := by
  unfold excB at h
  obtain ⟨h1, h⟩ := He.ba h
  obtain ⟨h2, h⟩ := He.ba h
  obtain ⟨h3, h⟩ := He.ba h
  obtain ⟨h4, h⟩ := He.ba h
  obtain ⟨h5, h⟩ := He.ba h
  obtain ⟨h6, h⟩ := He.ba h
  obtain ⟨h7, h8⟩ := He.ba h
  exact ⟨He.eqO_ok h1, He.eqO_ok h2, of_decide_eq_true h3, h4, He.eqO_ok h5, He.eqO_ok h6, of_decide_eq_true h7, of_decide_eq_true h8⟩
def kitB2 (K : PySem.W.Frag) (x : Str) (c : Value) (b : Bool) : Bool := decide (PySem.W.kitOne K (.ref (He.ga K x)) c = some b)
theorem xat {K : PySem.W.Frag} {l : List (PySem.W.Frag → Bool)} (h : (l.all fun f => f K) = true) (i : Nat) {f : PySem.W.Frag → Bool} (e : l[i]? = some f) : f K = true := List.all_eq_true.mp h f (List.mem_of_getElem? e)
/-! ### readings, step by step -/
section
variable {σ : L2.St} {H : Hp} {Q : VK} {v : V} {ta tb tc te : TE} {tt tu : TT} {K : PySem.W.Frag} {i j : Nat}
theorem k_var (h : σ[i]? = some (some v)) (q : Q v H) : tVar i σ H Q := ⟨v, h, q⟩
theorem k_c (q : Q v H) : tC v σ H Q := q
theorem k_op {r : R2} (q : ta σ H fun x H1 => tb σ H1 fun y H2 => r x y H2 Q) : tOp r ta tb σ H Q := q
theorem k_un {r : V → Hp → VK → Prop} (q : ta σ H fun x H1 => r x H1 Q) : tUn r ta σ H Q := q
theorem k_neg {a : Int} (q : Q (.int (-a)) H) : rU (fun i => .int (-i)) (.int a) H Q := ⟨a, rfl, q⟩
theorem k_I0 {g : Int → Int → V} {a b : Int} (q : Q (g a b) H) : rI0 g (.int a) (.int b) H Q := ⟨a, b, rfl, rfl, q⟩
theorem k_I {C : Int → Int → Prop} {g : Int → Int → V} {a b : Int} (q : Q (g a b) H) (c : C a b) : rI C g (.int a) (.int b) H Q := ⟨a, b, rfl, rfl, c, q⟩
theorem k_addI {a b : Int} (q : Q (.int (a + b)) H) : rAddU K (.int a) (.int b) H Q := .inl ⟨a, b, rfl, rfl, q⟩
theorem k_addS {a b : Str} (q : Q (.str (a ++ b)) H) (c : a.length + b.length ≤ sizeLine) : rAddU K (.str a) (.str b) H Q := .inr (.inl ⟨a, b, rfl, rfl, c, q⟩)
theorem k_addL {a b : Addr} {xs ys : List V} (ha : H a = some (.lst xs)) (hb : H b = some (.lst ys)) (q : ∀ p H', H p = none → Same H H' → H' p = some (.lst (xs ++ ys)) → Q (.ref p) H') (c : xs.length + ys.length ≤ sizeLine) : rAddU K (.ref a) (.ref b) H Q :=
  .inr (.inr (.inl ⟨a, b, xs, ys, rfl, rfl, ha, hb, c, fun p hp => q p _ hp (same_new hp) upd_same⟩))
theorem k_addT {a b : Addr} {xs ys : List V} (ha : SqT K H a xs) (hb : SqT K H b ys) (hx : xs ≠ []) (hy : ys ≠ []) (q : ∀ p H', H p = none → Same H H' → H' p = some (.tup (xs ++ ys)) → Q (.ref p) H') (c : xs.length + ys.length ≤ sizeLine) : rAddU K (.ref a) (.ref b) H Q :=
  .inr (.inr (.inr (.inl ⟨a, b, xs, ys, rfl, rfl, ha, hb, c, fun e => absurd e hx, fun _ e => absurd e hy, fun _ _ p hp => q p _ hp (same_new hp) upd_same⟩)))
theorem k_mulI {a b : Int} (q : Q (.int (a * b)) H) (c : CMulX a b) : rMulU K (.int a) (.int b) H Q := .inl ⟨a, b, rfl, rfl, c, q⟩
theorem k_mulS {z : Str} {i : Int} (hz : z.length ≤ 16) (h0 : 0 ≤ i) (h1 : i ≤ 1048576) (q : ∀ u : Str, (u.length : Int) = z.length * i → Q (.str u) H) : rMulU K (.str z) (.int i) H Q := .inr (.inr (.inr (.inl ⟨z, i, rfl, rfl, hz, h0, h1, q⟩)))
theorem k_mulC {c n : Nat} (h1 : 1 ≤ n) (h2 : n ≤ 1000) (q : Q (.str (SX.S (List.replicate n c))) H) : rMulU K (.str (SX.S [c])) (.int (n : Int)) H Q := .inr (.inr (.inr (.inr (.inr ⟨c, n, rfl, rfl, h1, h2, q⟩))))
/-- a tuple of one, repeated -/
theorem k_mulRT {l : Addr} {y : V} {k : Nat} (h : SqT K H l [y]) (h1 : 1 ≤ k) (h2 : k ≤ 1000) (q : ∀ p H', Same H H' → SqT K H' p (List.replicate k y) → Q (.ref p) H') : rMulU K (.ref l) (.int (k : Int)) H Q := by
  by_cases e : k = 1
  · subst e
    exact .inr (.inr (.inr (.inr (.inl ⟨l, _, rfl, rfl, h, q l H (Same.refl H) h⟩))))
  · refine .inr (.inr (.inl ⟨l, _, _, rfl, rfl, h, by simp, by omega, by omega, by simp, fun p hp => q p _ (same_new hp) ?_⟩))
    have e2 : ∀ n : Nat, (List.replicate n [y]).flatten = List.replicate n y := fun n => by
      induction n with
      | zero => rfl
      | succ n ih => rw [List.replicate_succ, List.flatten_cons, ih, List.replicate_succ]; rfl
    rw [show ((k : Int)).toNat = k from rfl, e2]
    exact SqT.of upd_same
theorem k_eqS {x y : V} (h : scal x y = true) (q : Q (.bl (decide (x = y))) H) : rEqU K x y H Q := .inl ⟨h, q⟩
theorem k_neS {x y : V} (h : scal x y = true) (q : Q (.bl (!decide (x = y))) H) : rNeU K x y H Q := .inl ⟨h, q⟩
theorem dec_int {a b : Int} : decide (V.int a = V.int b) = decide (a = b) := by
  by_cases h : a = b
  · rw [h] <;> simp
  · rw [decide_eq_false h, decide_eq_false (fun e => h (V.int.inj e))]
theorem dec_str {a b : Str} : decide (V.str a = V.str b) = decide (a = b) := by
  by_cases h : a = b
  · rw [h] <;> simp
  · rw [decide_eq_false h, decide_eq_false (fun e => h (V.str.inj e))]
theorem dec_bl {a b : Bool} : decide (V.bl a = V.bl b) = decide (a = b) := by
  cases a <;> cases b <;> decide
theorem k_eqI {a b : Int} (q : Q (.bl (decide (a = b))) H) : rEqU K (.int a) (.int b) H Q := k_eqS rfl (by rw [dec_int]; exact q)
theorem k_neI {a b : Int} (q : Q (.bl (!decide (a = b))) H) : rNeU K (.int a) (.int b) H Q := k_neS rfl (by rw [dec_int]; exact q)
theorem k_eqT {a b : Str} (q : Q (.bl (decide (a = b))) H) : rEqU K (.str a) (.str b) H Q := k_eqS rfl (by rw [dec_str]; exact q)
theorem k_neT {a b : Str} (q : Q (.bl (!decide (a = b))) H) : rNeU K (.str a) (.str b) H Q := k_neS rfl (by rw [dec_str]; exact q)
theorem k_eqB {a b : Bool} (q : Q (.bl (decide (a = b))) H) : rEqU K (.bl a) (.bl b) H Q := k_eqS rfl (by rw [dec_bl]; exact q)
theorem k_neB {a b : Bool} (q : Q (.bl (!decide (a = b))) H) : rNeU K (.bl a) (.bl b) H Q := k_neS rfl (by rw [dec_bl]; exact q)
theorem k_eqD {x y : V} {d e : PyData} (hx : Dp K H x d) (hy : Dp K H y e) (q : Q (.bl (PyData.eqv d e)) H) (s1 : SeqAt.shaped d = true) (s2 : SeqAt.shaped e = true) : rEqU K x y H Q := .inr (.inl ⟨d, e, hx, hy, s1, s2, q⟩)
theorem k_eqNil {a b : Addr} {xs : List V} (hx : SqL K H a xs) (hb : H b = some (.lst [])) (q : Q (.bl xs.isEmpty) H) : rEqU K (.ref a) (.ref b) H Q := by
  cases xs with
  | nil => exact .inr (.inl ⟨.list [], .list [], .lst hx .nil, .lst (SqL.of hb) .nil, rfl, rfl, by simpa [PyData.eqv, PyData.eqvAll] using q⟩)
  | cons x r => exact .inr (.inr ⟨a, b, _, [], rfl, rfl, hx, SqL.of hb, by simp, q⟩)
theorem k_neD {x y : V} {d e : PyData} (hx : Dp K H x d) (hy : Dp K H y e) (q : Q (.bl (!PyData.eqv d e)) H) (s1 : SeqAt.shaped d = true) (s2 : SeqAt.shaped e = true) : rNeU K x y H Q := .inr (.inl ⟨d, e, hx, hy, s1, s2, q⟩)
theorem k_neNil {a b : Addr} {xs : List V} (hx : SqL K H a xs) (hb : H b = some (.lst [])) (q : Q (.bl (!xs.isEmpty)) H) : rNeU K (.ref a) (.ref b) H Q := by
  cases xs with
  | nil => exact .inr (.inl ⟨.list [], .list [], .lst hx .nil, .lst (SqL.of hb) .nil, rfl, rfl, by simpa [PyData.eqv, PyData.eqvAll] using q⟩)
  | cons x r => exact .inr (.inr ⟨a, b, _, [], rfl, rfl, hx, SqL.of hb, by simp, q⟩)
theorem k_in0 {x : V} {p : Addr} {xs : List V} {b : Bool} (h : SqL K H p xs ∨ SqT K H p xs) (hx : flatV x = true) (ha : xs.all flatV = true) (e : inV x xs = b) (q : Q (.bl b) H) : rIn K false x (.ref p) H Q := ⟨p, xs, rfl, h, hx, ha, by rw [e]; exact q⟩
theorem k_ni0 {x : V} {p : Addr} {xs : List V} {b : Bool} (h : SqL K H p xs ∨ SqT K H p xs) (hx : flatV x = true) (ha : xs.all flatV = true) (e : inV x xs = b) (q : Q (.bl (!b)) H) : rIn K true x (.ref p) H Q := ⟨p, xs, rfl, h, hx, ha, by rw [e]; exact q⟩
/-- True stands in no list of False -/
theorem k_notIn {p : Addr} {xs : List V} (h : SqL K H p xs) (ha : xs.all flatV = true) (e : inV (.bl true) xs = false) (q : Q (.bl true) H) : rIn K true (.bl true) (.ref p) H Q := k_ni0 (.inl h) rfl ha e q
/-- tests -/
theorem k_tst {Q : Bool → Hp → Prop} (q : te σ H fun x H' => ∃ k, x = .bl k ∧ Q k H') : tTest te σ H Q := q
theorem k_B {Q : Bool → Hp → Prop} (q : te σ H fun x H' => ∃ k, x = .bl k ∧ Q k H') : tB te σ H Q := q
theorem k_bl {Q : Bool → Prop} {b : Bool} (q : Q b) : ∃ k, V.bl b = .bl k ∧ Q k := ⟨b, rfl, q⟩
theorem k_and {Q : Bool → Hp → Prop} (q : tt σ H fun c H1 => if c = true then tu σ H1 Q else Q false H1) : tAnd tt tu σ H Q := q
theorem k_or {Q : Bool → Hp → Prop} (q : tt σ H fun c H1 => if c = true then Q true H1 else tu σ H1 Q) : tOr tt tu σ H Q := q
theorem k_not {Q : Bool → Hp → Prop} (q : tt σ H fun c H1 => Q (!c) H1) : tNot tt σ H Q := q
theorem k_andV (q : ta σ H fun x H1 => ∃ c, x = .bl c ∧ if c = true then tb σ H1 Q else Q (.bl false) H1) : tAndV ta tb σ H Q := q
theorem k_orV (q : ta σ H fun x H1 => ∃ c, x = .bl c ∧ if c = true then Q (.bl true) H1 else tb σ H1 Q) : tOrV ta tb σ H Q := q
theorem k_notV (q : ta σ H fun x H1 => ∃ c, x = .bl c ∧ Q (.bl (!c)) H1) : tNotV ta σ H Q := q
theorem k_ife (q : tt σ H fun c H1 => if c = true then ta σ H1 Q else tb σ H1 Q) : tIf tt ta tb σ H Q := q
theorem k_chain {r r' : R2} (q : ta σ H fun x H1 => tb σ H1 fun y H2 => r x y H2 fun z H3 => ∃ k, z = .bl k ∧ (if k = true then tc σ H3 fun w' H4 => r' y w' H4 Q else Q (.bl false) H3)) : tChain r r' ta tb tc σ H Q := q
theorem k_tru {Q : Bool → Hp → Prop} {x : V} {b : Bool} (h : TruV K x H b) (q : Q b H) : ∃ k, TruV K x H k ∧ Q k H := ⟨b, h, q⟩
/-- a branch -/
theorem k_if {c : Prop} [Decidable c] {A B : Prop} (h1 : c → A) (h2 : ¬ c → B) : if decide c = true then A else B := by
  by_cases h : c
  · rw [if_pos (decide_eq_true h)]
    exact h1 h
  · rw [if_neg (by rw [decide_eq_false h]; decide)]
    exact h2 h
theorem k_ifn {c : Prop} [Decidable c] {A B : Prop} (h1 : ¬ c → A) (h2 : c → B) : if (!decide c) = true then A else B := by
  by_cases h : c
  · rw [if_neg (by rw [decide_eq_true h]; decide)]
    exact h2 h
  · rw [if_pos (by rw [decide_eq_false h]; decide)]
    exact h1 h
theorem k_ifb {b : Bool} {A B : Prop} (h1 : b = true → A) (h2 : b = false → B) : if b = true then A else B := by
  cases b with
  | true => exact h1 rfl
  | false => exact h2 rfl
theorem k_ifnb {b : Bool} {A B : Prop} (h1 : b = false → A) (h2 : b = true → B) : if (!b) = true then A else B := by
  cases b with
  | true => exact h2 rfl
  | false => exact h1 rfl
theorem k_ifnd {c : Prop} [Decidable c] {A B : Prop} (h1 : ¬ c → A) (h2 : c → B) : if (!decide c) = true then A else B := k_ifn h1 h2
theorem k_ifT {A B : Prop} (h : A) : if true = true then A else B := iteT h
theorem k_ifF {A B : Prop} (h : B) : if false = true then A else B := iteF h
theorem k_ifnT {A B : Prop} (h : B) : if (!true) = true then A else B := iteF h
theorem k_ifnF {A B : Prop} (h : A) : if (!false) = true then A else B := iteT h
/-- calls, arguments, displays -/
theorem k_cb {r : List V → Hp → VK → Prop} {t : TA} (q : t σ H fun vs H1 => r vs H1 Q) : tCB r t σ H Q := q
theorem k_cons {t : TA} {Q : List V → Hp → Prop} (q : ta σ H fun x H1 => t σ H1 fun xs H2 => Q (x :: xs) H2) : tCons ta t σ H Q := q
theorem k_nil {Q : List V → Hp → Prop} (q : Q [] H) : tNil σ H Q := q
theorem k_callS {sp : Sp} {W : WX} {t : TA} (q : t σ H fun vs H1 => sp vs H1 Q (WE W σ)) : tCallS sp (WE W) t σ H Q := q
theorem k_call {sp : Sp} {t : TA} {E : XK} (q : t σ H fun vs H1 => sp vs H1 Q E) : tCall sp [] E t σ H Q := by
  show t σ H fun vs H1 => sp (vs ++ []) H1 Q E
  simp only [List.append_nil]
  exact q
def rTupX (xs : List V) (H : Hp) (Q : VK) : Prop := xs.length ≤ sizeLine ∧ ∀ p, H p = none → Q (.ref p) (upd H p (.tup xs))
def rLstX (xs : List V) (H : Hp) (Q : VK) : Prop := xs.length ≤ sizeLine ∧ ∀ p, H p = none → Q (.ref p) (upd H p (.lst xs))
theorem k_tupx {xs : List V} (q : ∀ p H2, H p = none → Same H H2 → H2 p = some (.tup xs) → Q (.ref p) H2) (c : xs.length ≤ sizeLine) : rTupX xs H Q := ⟨c, fun p hp => q p _ hp (same_new hp) upd_same⟩
theorem k_lstx {xs : List V} (q : ∀ p H2, H p = none → Same H H2 → H2 p = some (.lst xs) → Q (.ref p) H2) (c : xs.length ≤ sizeLine) : rLstX xs H Q := ⟨c, fun p hp => q p _ hp (same_new hp) upd_same⟩
theorem k_tup0 {t : TA} (q : t σ H fun xs H1 => rTupX xs H1 Q) : tTup t σ H Q := q
theorem k_lst0 {t : TA} (q : t σ H fun xs H1 => rLstX xs H1 Q) : tLst t σ H Q := q
/-- subscripts -/
theorem k_ixL {p : Addr} {xs : List V} {i : Int} (h : SqL K H p xs) (ha : atI xs i = some v) (q : Q v H) : rIx K (.ref p) (.int i) H Q := .inl ⟨p, xs, i, v, rfl, rfl, h, ha, q⟩
theorem k_ixT {p : Addr} {xs : List V} {i : Int} (h : SqT K H p xs) (ha : atI xs i = some v) (q : Q v H) : rIx K (.ref p) (.int i) H Q := .inr (.inl ⟨p, xs, i, v, rfl, rfl, h, ha, q⟩)
/-! statements -/
variable {D : Ends} {t u : TS} {g : TG}
theorem k_seq (q : t { D with nx := u D } σ H) : tSeq t u D σ H := q
theorem k_asg  (q : te σ H fun x H1 => g x σ H1 D.nx) : tAsg te g D σ H := q
theorem k_gn {Q : L2.St → Hp → Prop} (q : Q (σ.set i (some v)) H) : gName i v σ H Q := q
theorem k_gtup {a : Addr} {xs : List V} {n : Nat} {t : TGs} {Q : L2.St → Hp → Prop} (h : SqT K H a xs) (hl : xs.length = n) (q : t xs σ H Q) : gTup K n t (.ref a) σ H Q := ⟨a, xs, rfl, h, hl, q⟩
theorem k_gcons {t : TG} {u : TGs} {r : List V} {Q : L2.St → Hp → Prop} (q : t v σ H fun σ' H' => u r σ' H' Q) : gCons t u (v :: r) σ H Q := ⟨v, r, rfl, q⟩
theorem k_gnil {Q : L2.St → Hp → Prop} (q : Q σ H) : gNil [] σ H Q := ⟨rfl, q⟩
theorem k_drop (q : te σ H fun _ H1 => D.nx σ H1) : tDrop te D σ H := q
theorem k_ret (q : te σ H D.rt) : tRet te D σ H := q
theorem k_ifs (q : tt σ H fun c H1 => if c = true then t D σ H1 else u D σ H1) : tIfS tt t u D σ H := q
theorem k_next (q : D.nx σ H) : tNext D σ H := q
theorem k_par {ta : TA} (q : ta σ H fun vs H1 => ∃ v w, vs = [v, w] ∧ D.nx ((σ.set i (some v)).set j (some w)) H1) : tPar i j ta D σ H := q
theorem k_two {v w : V} {P : V → V → Prop} (q : P v w) : ∃ a b, [v, w] = [a, b] ∧ P a b := ⟨v, w, rfl, q⟩
theorem k_app {l : Addr} {xs : List V} {y : V} (h : H l = some (.lst xs)) (q : ∀ H', But l H H' → H' l = some (.lst (xs ++ [y])) → Q .non H') (c : xs.length < sizeLine) : tyV K "list" (.ref l) H ∧ rAppend (.ref l) [y] H Q :=
  ⟨.inl ⟨rfl, _, SqL.of h⟩, l, xs, y, rfl, rfl, h, c, q _ But.upd upd_same⟩
end
/-! ### the same, the written part by its name -/
section
variable {X : Cx} {K : PySem.W.Frag}
theorem op_addK (h : X.K = K) : OpR X (binaryOp .Add) (rAddU K) := h ▸ op_addU
theorem op_mulK (h : X.K = K) : OpR X (binaryOp .Mult) (rMulU K) := h ▸ op_mulU
theorem op_eqK {k : Nat} (h : X.K = K) (hr : Room k X.A) : OpR X (compareOp .Eq) (rEqU K) := h ▸ op_eqU hr
theorem op_neK {k : Nat} (h : X.K = K) (hr : Room k X.A) : OpR X (compareOp .NotEq) (rNeU K) := h ▸ op_neU hr
/-- in an except suite -/
theorem op_eqKS {k : Nat} {a : Addr} {pn : List (Addr × Obj)} (h : X.K = K) (hr : Room k X.A) : OpR (X.suite a pn) (compareOp .Eq) (rEqU K) := h ▸ op_eq.or ((op_eqD (X := X.suite a pn) (show X.A.units + 64 < cLine from hr.units)).or (op_eqL (X := X.suite a pn) (show X.A.units < cLine from hr.units0)))
theorem op_neKS {k : Nat} {a : Addr} {pn : List (Addr × Obj)} (h : X.K = K) (hr : Room k X.A) : OpR (X.suite a pn) (compareOp .NotEq) (rNeU K) := h ▸ op_ne.or ((op_neD (X := X.suite a pn) (show X.A.units + 64 < cLine from hr.units)).or (op_neL (X := X.suite a pn) (show X.A.units < cLine from hr.units0)))
theorem op_inK (h : X.K = K) : OpR X (compareOp .In) (rIn K false) := h ▸ op_in_seq
theorem op_niK (h : X.K = K) : OpR X (compareOp .NotIn) (rIn K true) := h ▸ op_notIn_seq
def rSlU (K : PySem.W.Frag) : V → Option Int → Option Int → Hp → VK → Prop := fun x lo hi H Q => rSlL K x lo hi H Q ∨ rSlS x lo hi H Q ∨ rSlA K x lo hi H Q
theorem sl_U {X : Cx} : SlR X (rSlU X.K) := sl_list.or (sl_str.or sl_tupA)
theorem sl_K (h : X.K = K) : SlR X (rSlU K) := h ▸ sl_U
theorem ix_K (h : X.K = K) : IxR X (rIx K) := h ▸ ix_seq
end
section
variable {σ : L2.St} {H : Hp} {Q : VK} {te : TE} {K : PySem.W.Frag}
/-! slices, an empty dict -/
theorem k_sl {r : V → Option Int → Option Int → Hp → VK → Prop} {tl th : TO} (q : te σ H fun x H1 => tl σ H1 fun lo H2 => th σ H2 fun hi H3 => r x lo hi H3 Q) : tSl r te tl th σ H Q := q
theorem k_part {Q : Option Int → Hp → Prop} (q : te σ H fun x H1 => ∃ i, x = .int i ∧ Q (some i) H1) : tPart te σ H Q := q
theorem k_noPart {Q : Option Int → Hp → Prop} (q : Q none H) : tNoPart σ H Q := q
theorem k_int {a : Int} {Q : Int → Prop} (q : Q a) : ∃ i, V.int a = .int i ∧ Q i := ⟨a, rfl, q⟩
theorem k_slL {a : Addr} {xs : List V} {lo hi : Option Int} (h : SqL K H a xs) (q : ∀ p H2, H p = none → Same H H2 → H2 p = some (.lst (cutV xs lo hi)) → Q (.ref p) H2) : rSlU K (.ref a) lo hi H Q := .inl ⟨a, xs, rfl, h, fun p hp => q p _ hp (same_new hp) upd_same⟩
theorem k_slS {z : Str} {lo hi : Option Int} (q : Q (.str (cutS z lo hi)) H) (c : z.length ≤ sizeLine) : rSlU K (.str z) lo hi H Q := .inr (.inl ⟨z, rfl, c, q⟩)
theorem k_slT {a : Addr} {xs : List V} {lo hi : Option Int} (h : SqT K H a xs) (c : ¬ (HT.sIx xs.length 0 lo = 0 ∧ HT.sIx xs.length xs.length hi = xs.length)) (q : ∀ p H2, H p = none → Same H H2 → H2 p = some (.tup (cutV xs lo hi)) → Q (.ref p) H2) : rSlU K (.ref a) lo hi H Q :=
  .inr (.inr ⟨a, xs, rfl, h, fun z => absurd z c, fun _ p hp => q p _ hp (same_new hp) upd_same⟩)
def rDictX (H : Hp) (Q : VK) : Prop := ∀ p, H p = none → Q (.ref p) (upd H p (.dK []))
theorem k_dict0 (q : rDictX H Q) : tDNewK σ H Q := q
theorem k_dict1 (q : ∀ p H2, H p = none → Same H H2 → H2 p = some (.dK []) → Q (.ref p) H2) : rDictX H Q := fun p hp => q p _ hp (same_new hp) upd_same
end
/-! ### built-ins by name -/
section
variable {X : Cx}
def rLenU (K : PySem.W.Frag) : List V → Hp → VK → Prop := fun xs H Q => ∃ x n, xs = [x] ∧ LenV K x H n ∧ Q (.int n) H
theorem call_lenU : CallR X (.builtin "len") (rLenU X.K) := call_len
def rAbsU : List V → Hp → VK → Prop := fun xs H Q => ∃ i, xs = [.int i] ∧ Q (.int (if i < 0 then -i else i)) H
theorem call_absU : CallR X (.builtin "abs") rAbsU := call_abs
def rMaxU : List V → Hp → VK → Prop := fun xs H Q => ∃ i j, xs = [.int i, .int j] ∧ Q (.int (if j > i then j else i)) H
theorem call_maxU (hc : X.calm = true) : CallR X (.builtin "max") rMaxU := call_max2 hc
def rMinU : List V → Hp → VK → Prop := fun xs H Q => ∃ i j, xs = [.int i, .int j] ∧ Q (.int (if j < i then j else i)) H
theorem call_minU (hc : X.calm = true) : CallR X (.builtin "min") rMinU := call_min2 hc
def rIntU : List V → Hp → VK → Prop := fun xs H Q => ((∃ i, xs = [.int i] ∧ Q (.int i) H) ∨ ∃ k, xs = [.bl k] ∧ Q (.int (if k then 1 else 0)) H) ∨ ∃ a n, xs = [.str a] ∧ PySem.intText? a = some n ∧ a.length ≤ 640 ∧ Q (.int n) H
theorem call_intU : CallR X (.type "int") rIntU := fun pins s σ H xs us Q I r h => h.elim (call_int1 pins s σ H xs us Q I r) (call_int_str pins s σ H xs us Q I r)
def rBoolU : List V → Hp → VK → Prop := fun xs H Q => (∃ i, xs = [.int i] ∧ Q (.bl (i != 0)) H) ∨ ∃ k, xs = [.bl k] ∧ Q (.bl k) H
theorem call_boolU : CallR X (.type "bool") rBoolU := call_bool1
def rStrU : List V → Hp → VK → Prop := fun xs H Q => ∃ i, xs = [.int i] ∧ i.natAbs.log2 < 1920 ∧ Q (.str (toString i)) H
theorem call_strU : CallR X (.type "str") rStrU := call_str_int
def rTupU (K : PySem.W.Frag) : List V → Hp → VK → Prop := fun xs H Q => ∃ p ys, xs = [.ref p] ∧ ((SqL K H p ys ∧ ∀ l, H l = none → Q (.ref l) (upd H l (.tup ys))) ∨ (SqT K H p ys ∧ Q (.ref p) H))
theorem call_tupU : CallR X (.type "tuple") (rTupU X.K) := call_tuple_of
def rLstU (K : PySem.W.Frag) : List V → Hp → VK → Prop := fun xs H Q => ∃ p ys, xs = [.ref p] ∧ (SqL K H p ys ∨ SqT K H p ys) ∧ ∀ l, H l = none → Q (.ref l) (upd H l (.lst ys))
theorem call_lstU : CallR X (.type "list") (rLstU X.K) := call_list_of
def rIsN : R2 := fun x y H Q => y = .non ∧ Q (.bl (decide (x = .non))) H
def rNotN : R2 := fun x y H Q => y = .non ∧ Q (.bl (!decide (x = .non))) H
theorem op_isNU : OpR X (compareOp .Is) rIsN := op_isN
theorem op_notNU : OpR X (compareOp .IsNot) rNotN := op_notN
end
section
variable {σ : L2.St} {H : Hp} {Q : VK} {K : PySem.W.Frag}
theorem k_lenL {p : Addr} {xs : List V} (q : Q (.int xs.length) H) (h : SqL K H p xs) : rLenU K [.ref p] H Q := ⟨.ref p, xs.length, rfl, .inl ⟨xs, h, rfl⟩, q⟩
theorem k_lenT {p : Addr} {xs : List V} (q : Q (.int xs.length) H) (h : SqT K H p xs) : rLenU K [.ref p] H Q := ⟨.ref p, xs.length, rfl, .inr ⟨xs, h, rfl⟩, q⟩
theorem k_lenS {x : Str} (q : Q (.int x.length) H) (h : x.length ≤ sizeLine) : rLenU K [.str x] H Q := ⟨.str x, x.length, rfl, ⟨h, rfl⟩, q⟩
theorem k_abs {a : Int} (q : Q (.int (a.natAbs : Int)) H) : rAbsU [.int a] H Q := ⟨a, rfl, by
  have e : (if a < 0 then -a else a) = (a.natAbs : Int) := by split <;> omega
  rw [e]
  exact q⟩
theorem k_max {a b : Int} (q : Q (.int (max a b)) H) : rMaxU [.int a, .int b] H Q := ⟨a, b, rfl, by
  have e : (if b > a then b else a) = max a b := by split <;> omega
  rw [e]
  exact q⟩
theorem k_min {a b : Int} (q : Q (.int (min a b)) H) : rMinU [.int a, .int b] H Q := ⟨a, b, rfl, by
  have e : (if b < a then b else a) = min a b := by split <;> omega
  rw [e]
  exact q⟩
theorem k_intI {a : Int} (q : Q (.int a) H) : rIntU [.int a] H Q := .inl (.inl ⟨a, rfl, q⟩)
theorem k_intB {b : Bool} (q : Q (.int (if b then 1 else 0)) H) : rIntU [.bl b] H Q := .inl (.inr ⟨b, rfl, q⟩)
theorem k_intS {a : Str} {n : Int} (h : PySem.intText? a = some n) (c : a.length ≤ 640) (q : Q (.int n) H) : rIntU [.str a] H Q := .inr ⟨a, n, rfl, h, c, q⟩
theorem k_boolI {a : Int} (q : Q (.bl (a != 0)) H) : rBoolU [.int a] H Q := .inl ⟨a, rfl, q⟩
theorem k_boolB {b : Bool} (q : Q (.bl b) H) : rBoolU [.bl b] H Q := .inr ⟨b, rfl, q⟩
theorem k_strI {a : Int} (q : Q (.str (toString a)) H) (c : a.natAbs.log2 < 1920) : rStrU [.int a] H Q := ⟨a, rfl, c, q⟩
theorem k_lstL {p : Addr} {xs : List V} (h : SqL K H p xs) (q : ∀ l H', H l = none → Same H H' → H' l = some (.lst xs) → Q (.ref l) H') : rLstU K [.ref p] H Q := ⟨p, xs, rfl, .inl h, fun l hl => q l _ hl (same_new hl) upd_same⟩
theorem k_lstT {p : Addr} {xs : List V} (h : SqT K H p xs) (q : ∀ l H', H l = none → Same H H' → H' l = some (.lst xs) → Q (.ref l) H') : rLstU K [.ref p] H Q := ⟨p, xs, rfl, .inr h, fun l hl => q l _ hl (same_new hl) upd_same⟩
theorem k_isN {x : V} (q : Q (.bl (decide (x = .non))) H) : rIsN x .non H Q := ⟨rfl, q⟩
theorem k_notN {x : V} (q : Q (.bl (!decide (x = .non))) H) : rNotN x .non H Q := ⟨rfl, q⟩
theorem k_powc {a b c : Int} (e : a ^ b.toNat = c) (hc : CPow a b) (q : Q (.int c) H) : rI CPow (fun i j => .int (i ^ j.toNat)) (.int a) (.int b) H Q := ⟨a, b, rfl, rfl, hc, by show Q (.int (a ^ b.toNat)) H; rw [e]; exact q⟩
theorem cpow {a b : Int} (h : 0 ≤ b) (h1 : b ≤ 1000000) (h2 : a.natAbs < 2 ^ 64) : CPow a b := ⟨h, h1, h2⟩
theorem k_mod {a b : Int} (hb : 0 < b) (q : Q (.int (a % b)) H) : rI (fun _ j => j ≠ 0) (fun i j => .int (i.fmod j)) (.int a) (.int b) H Q := ⟨a, b, rfl, rfl, by omega, by show Q (.int (a.fmod b)) H; rw [Int.fmod_eq_emod_of_nonneg a (by omega)]; exact q⟩
theorem k_log {b : Int} (h : b.natAbs < 2 ^ 64) : b.natAbs.log2 < 9000 := Nat.lt_of_lt_of_le (PySem.Flt.log2_lt_of (by decide) h) (by decide)
theorem k_div {a b : Int} (hb : 0 < b) (hl : b.natAbs.log2 < 9000) (q : Q (.int (a / b)) H) : rI CDivG (fun i j => .int (i.fdiv j)) (.int a) (.int b) H Q := ⟨a, b, rfl, rfl, ⟨by omega, PyProof.noPylong_of_log2 hl⟩, by show Q (.int (a.fdiv b)) H; rw [Int.fdiv_eq_ediv_of_nonneg a (by omega)]; exact q⟩
theorem k_mulB {a b : Int} {m n : Nat} (ha : a.natAbs < 2 ^ m) (hb : b.natAbs < 2 ^ n) (h : m + n ≤ 134217728) (q : Q (.int (a * b)) H) : rMulU K (.int a) (.int b) H Q := k_mulI q (mulx_ok ha hb h)
theorem k_pop {l : Addr} {xs : List V} {y : V} (h : H l = some (.lst (xs ++ [y]))) (q : ∀ H', But l H H' → H' l = some (.lst xs) → Q y H') : tyV K "list" (.ref l) H ∧ rPop (.ref l) [] H Q :=
  ⟨.inl ⟨rfl, _, SqL.of h⟩, l, _, y, rfl, rfl, h, by simp, q _ But.upd (by rw [List.dropLast_concat]; exact upd_same)⟩
theorem k_bm0 {T : String} {r : V → List V → Hp → VK → Prop} {te : TE} (q : te σ H fun x H1 => tyV K T x H1 ∧ r x [] H1 Q) : tBM0 K T r te σ H Q := q
theorem k_bm {T : String} {r : V → List V → Hp → VK → Prop} {te : TE} {t : TA} (q : te σ H fun x H1 => tyV K T x H1 ∧ t σ H1 fun xs H2 => r x xs H2 Q) : tBM K T r te t σ H Q := q
theorem k_app0 {l : Addr} {xs : List V} (h : H l = some (.lst xs)) : tyV K "list" (.ref l) H := .inl ⟨rfl, _, SqL.of h⟩
theorem k_app1 {l : Addr} {xs : List V} {y : V} (h : H l = some (.lst xs)) (c : xs.length < sizeLine) (q : ∀ H', But l H H' → H' l = some (.lst (xs ++ [y])) → Q .non H') : rAppend (.ref l) [y] H Q := ⟨l, xs, y, rfl, rfl, h, c, q _ But.upd upd_same⟩
def rRevX (K : PySem.W.Frag) (x : V) (H : Hp) (Q : VK) : Prop := ∃ a xs, x = .ref a ∧ SqL K H a xs ∧ ∀ p, H p = none → Q (.ref p) (upd H p (.lst xs.reverse))
theorem k_rev {te : TE} (q : te σ H fun x H1 => rRevX K x H1 Q) : tRevL K te σ H Q := q
theorem k_rev1 {p : Addr} {xs : List V} (h : SqL K H p xs) (q : ∀ l H', H l = none → Same H H' → H' l = some (.lst xs.reverse) → Q (.ref l) H') : rRevX K (.ref p) H Q := ⟨p, xs, rfl, h, fun l hl => q l _ hl (same_new hl) upd_same⟩
/-- isinstance -/
theorem k_isi {x c : V} {t u : Value} {b : Bool} (hc : ClsV c u) (ht : TyX K H x t) (hk : PySem.W.kitOne K t u = some b) (q : Q (.bl b) H) : rIsi K [x, c] H Q := ⟨x, c, t, u, b, rfl, hc, ht, hk, q⟩
theorem k_cut {t u : TS} {D : Ends} (M : L2.St → Hp → Prop) (h : t { D with nx := M } σ H) (k : ∀ σ' H', M σ' H' → u D σ' H') : C8.tCut t u D σ H := ⟨M, h, k⟩
theorem k_cut0 {t u : TS} {D : Ends} (h : t { D with nx := u D } σ H) : C8.tCut t u D σ H := ⟨_, h, fun _ _ q => q⟩
/-! loops -/
variable {D : Ends} {g : TG} {tb : TS} {j : Nat} {wi : TI}
def LoopI (J : It) (g : TG) (tb : TS) (D : Ends) (σ : L2.St) (H : Hp) : Prop := ∃ W : Nat → Nat → L2.St → Hp → Prop, (∃ m, W 0 m σ H) ∧ ∀ i m σ H, W i m σ H →
  (J.stop i H ∧ D.nx σ H) ∨ (J.go i H ∧ ∃ N : L2.St → Hp → Prop, (∀ σ' H', N σ' H' → ∃ m', m' < m ∧ W (i + 1) m' σ' H') ∧ ∀ x H', J.yld i H x H' → g x σ H' fun σ2 H2 => tb { D with nx := N, ct := N, bk := D.nx } σ2 H2)
theorem k_for (q : wi σ H fun J H1 => LoopI J g tb D σ H1) : tFor wi g tb D σ H := q
def rRng1 (vs : List V) (H : Hp) (R : It → Hp → Prop) : Prop := ∃ j : Int, vs = [.int j] ∧ -(2 ^ 62) ≤ j ∧ j < 2 ^ 62 ∧ R (Itr 0 j.toNat) H
def rRng2 (vs : List V) (H : Hp) (R : It → Hp → Prop) : Prop := ∃ i j : Int, vs = [.int i, .int j] ∧ (-(2 ^ 62) ≤ i ∧ i < 2 ^ 62 ∧ -(2 ^ 62) ≤ j ∧ j < 2 ^ 62) ∧ R (Itr i (j - i).toNat) H
def rItL (K : PySem.W.Frag) (x : V) (H : Hp) (R : It → Hp → Prop) : Prop := ∃ a, x = .ref a ∧ (∃ xs, SqL K H a xs) ∧ R (Itl K a) H
def rItT (K : PySem.W.Frag) (x : V) (H : Hp) (R : It → Hp → Prop) : Prop := ∃ a, x = .ref a ∧ (∃ xs, SqT K H a xs) ∧ R (Itt K a) H
theorem k_iRng1 {ta : TA} {R : It → Hp → Prop} (q : ta σ H fun vs H1 => rRng1 vs H1 R) : iRng1 ta σ H R := q
theorem k_iRng2 {ta : TA} {R : It → Hp → Prop} (q : ta σ H fun vs H1 => rRng2 vs H1 R) : iRng2 ta σ H R := q
theorem k_iList {tl : TE} {R : It → Hp → Prop} (q : tl σ H fun x H1 => rItL K x H1 R) : iList K tl σ H R := q
theorem k_iSeqU {tl : TE} {R : It → Hp → Prop} (q : tl σ H fun x H1 => rItU K x H1 R) : iSeqU K tl σ H R := q
theorem k_itUL {a : Addr} {xs : List V} {R : It → Hp → Prop} (h : SqL K H a xs) (q : R (Itl K a) H) : rItU K (.ref a) H R := ⟨a, rfl, .inl ⟨⟨xs, h⟩, q⟩⟩
theorem k_itUT {a : Addr} {xs : List V} {R : It → Hp → Prop} (h : SqT K H a xs) (q : R (Itt K a) H) : rItU K (.ref a) H R := ⟨a, rfl, .inr ⟨⟨xs, h⟩, q⟩⟩
theorem k_iTup {tl : TE} {R : It → Hp → Prop} (q : tl σ H fun x H1 => rItT K x H1 R) : iTup K tl σ H R := q
theorem k_rng1 {n : Int} {R : It → Hp → Prop} (c : -(2 ^ 62) ≤ n ∧ n < 2 ^ 62) (q : R (Itr 0 n.toNat) H) : rRng1 [.int n] H R := ⟨n, rfl, c.1, c.2, q⟩
theorem k_rng2 {m n : Int} {R : It → Hp → Prop} (c : -(2 ^ 62) ≤ m ∧ m < 2 ^ 62 ∧ -(2 ^ 62) ≤ n ∧ n < 2 ^ 62) (q : R (Itr m (n - m).toNat) H) : rRng2 [.int m, .int n] H R := ⟨m, n, rfl, c, q⟩
theorem k_itL {a : Addr} {xs : List V} {R : It → Hp → Prop} (h : SqL K H a xs) (q : R (Itl K a) H) : rItL K (.ref a) H R := ⟨a, rfl, ⟨xs, h⟩, q⟩
theorem k_itT {a : Addr} {xs : List V} {R : It → Hp → Prop} (h : SqT K H a xs) (q : R (Itt K a) H) : rItT K (.ref a) H R := ⟨a, rfl, ⟨xs, h⟩, q⟩
/-- for x in range(..) -/
theorem k_loopR {n : Nat} (P : Nat → L2.St → Hp → Prop) (h0 : P 0 σ H) (hs : ∀ (i : Nat) σ H, i < n → P i σ H → tb { D with nx := P (i + 1), ct := P (i + 1), bk := D.nx } (σ.set j (some (.int (i : Int)))) H)
    (hd : ∀ σ H, P n σ H → D.nx σ H) : LoopI (Itr 0 n) (gName j) tb D σ H := for_range P h0 (fun i σ H hi p => by
      show tb _ (σ.set j (some (.int (0 + (i : Int))))) H
      rw [Int.zero_add]
      exact hs i σ H hi p) hd
theorem k_loopR2 {lo : Int} {n : Nat} (P : Nat → L2.St → Hp → Prop) (h0 : P 0 σ H) (hs : ∀ (i : Nat) σ H, i < n → P i σ H → tb { D with nx := P (i + 1), ct := P (i + 1), bk := D.nx } (σ.set j (some (.int (lo + (i : Int))))) H)
    (hd : ∀ σ H, P n σ H → D.nx σ H) : LoopI (Itr lo n) (gName j) tb D σ H := for_range P h0 hs hd
theorem k_loopL {a : Addr} {xs : List V} (P : Nat → L2.St → Hp → Prop) (h0 : P 0 σ H) (hl : ∀ i σ H, i ≤ xs.length → P i σ H → SqL K H a xs)
    (hs : ∀ (i : Nat) x σ H, xs[i]? = some x → P i σ H → g x σ H fun σ2 H2 => tb { D with nx := P (i + 1), ct := P (i + 1), bk := D.nx } σ2 H2) (hd : ∀ σ H, P xs.length σ H → D.nx σ H) : LoopI (Itl K a) g tb D σ H := for_list P h0 hl hs hd
theorem k_loopT {a : Addr} {xs : List V} (P : Nat → L2.St → Hp → Prop) (h0 : P 0 σ H) (hl : ∀ i σ H, i ≤ xs.length → P i σ H → SqT K H a xs)
    (hs : ∀ (i : Nat) x σ H, xs[i]? = some x → P i σ H → g x σ H fun σ2 H2 => tb { D with nx := P (i + 1), ct := P (i + 1), bk := D.nx } σ2 H2) (hd : ∀ σ H, P xs.length σ H → D.nx σ H) : LoopI (Itt K a) g tb D σ H := for_tup P h0 hl hs hd
theorem k_loopU {a : Addr} {xs : List V} (hS : SqL K H a xs ∨ SqT K H a xs) (P : Nat → L2.St → Hp → Prop) (h0 : P 0 σ H) (hl : ∀ i σ' H', P i σ' H' → Same H H')
    (hs : ∀ (i : Nat) x σ H, xs[i]? = some x → P i σ H → g x σ H fun σ2 H2 => tb { D with nx := P (i + 1), ct := P (i + 1), bk := D.nx } σ2 H2) (hd : ∀ σ H, P xs.length σ H → D.nx σ H) : rItU K (.ref a) H fun J H1 => LoopI J g tb D σ H1 := by
  rcases hS with hS | hS
  · exact k_itUL hS (k_loopL P h0 (fun i σ' H' _ p => seqL_same (hl i σ' H' p) hS) hs hd)
  · exact k_itUT hS (k_loopT P h0 (fun i σ' H' _ p => seqT_same (hl i σ' H' p) hS) hs hd)
/-- while: P with a number that falls -/
def Less (P : Nat → L2.St → Hp → Prop) (m : Nat) : L2.St → Hp → Prop := fun σ H => ∃ m', m' < m ∧ P m' σ H
theorem k_while {tc : TT} (P : Nat → L2.St → Hp → Prop) (m : Nat) (h0 : P m σ H)
    (hs : ∀ m σ H, P m σ H → tc σ H fun b H1 => if b = true then ∃ N : L2.St → Hp → Prop, (∀ σ' H', N σ' H' → ∃ m', m' < m ∧ P m' σ' H') ∧ tb { D with nx := N, ct := N, bk := D.nx } σ H1 else D.nx σ H1) : tWhile tc tb D σ H := ⟨P, ⟨m, h0⟩, hs⟩
theorem k_wN {P : Nat → L2.St → Hp → Prop} {m : Nat} (q : tb { D with nx := Less P m, ct := Less P m, bk := D.nx } σ H) : ∃ N : L2.St → Hp → Prop, (∀ σ' H', N σ' H' → ∃ m', m' < m ∧ P m' σ' H') ∧ tb { D with nx := N, ct := N, bk := D.nx } σ H := ⟨_, fun _ _ h => h, q⟩
end
/-! more steps -/
section
variable {σ : L2.St} {H : Hp} {Q : VK} {v : V} {te to ti : TE} {K : PySem.W.Frag} {D : Ends} {i : Nat}
theorem k_aug {ip : TIp} (h : σ[i]? = some (some v)) (q : te σ H fun y H1 => ip v y H1 fun z H2 => D.nx (σ.set i (some z)) H2) : tAug i te ip D σ H := ⟨v, h, q⟩
theorem k_ip {f : Int → Int → Int} {a b : Int} (q : Q (.int (f a b)) H) : ipI f (.int a) (.int b) H Q := ⟨a, b, rfl, rfl, q⟩
theorem k_gsub {t : TSet} {Q : L2.St → Hp → Prop} (q : to σ H fun o H1 => ti σ H1 fun i H2 => t o i v H2 fun H3 => Q σ H3) : gSub to ti t v σ H Q := q
theorem k_setL {p : Addr} {xs : List V} {k : Int} {j : Nat} {Q : Hp → Prop} (h : H p = some (.lst xs)) (hj : ixN xs.length k = some j) (q : ∀ H', But p H H' → H' p = some (.lst (xs.set j v)) → Q H') : rSetL (.ref p) (.int k) v H Q := ⟨p, xs, k, j, rfl, rfl, h, hj, q _ But.upd upd_same⟩
theorem ixN_nat {n j : Nat} (h : j < n) : ixN n (j : Int) = some j := by
  unfold ixN
  rw [if_pos (by omega), if_pos (by omega)]
  rfl
theorem k_m1 {r : V → List V → Hp → VK → Prop} (q : to σ H fun x H1 => (∃ a, x = .str a) ∧ te σ H1 fun y H2 => r x [y] H2 Q) : tM1 r to te σ H Q := q
theorem k_m0 {r : V → List V → Hp → VK → Prop} (q : to σ H fun x H1 => (∃ a, x = .str a) ∧ r x [] H1 Q) : tM0 r to σ H Q := q
theorem k_isS {a : Str} {B : Prop} (q : B) : (∃ b, V.str a = .str b) ∧ B := ⟨⟨a, rfl⟩, q⟩
def rJoinU (K : PySem.W.Frag) : V → List V → Hp → VK → Prop := fun x xs H Q => ∃ a p, ∃ ys : List Str, x = .str a ∧ xs = [.ref p] ∧ (SqL K H p (ys.map V.str) ∨ SqT K H p (ys.map V.str)) ∧ (ys.map (·.length)).sum + ys.length * a.length ≤ 16777216 ∧ Q (.str (Txt.join a ys)) H
theorem mt_joinK {X : Cx} (h : X.K = K) : MtR X "str.join" (rJoinU K) := h ▸ mt_join
theorem k_join {a : Str} {p : Addr} {ys : List Str} (h : SqL K H p (ys.map V.str) ∨ SqT K H p (ys.map V.str)) (c : (ys.map (·.length)).sum + ys.length * a.length ≤ 16777216) (q : Q (.str (Txt.join a ys)) H) : rJoinU K (.str a) [.ref p] H Q := ⟨a, p, ys, rfl, rfl, h, c, q⟩
theorem k_ixS {z : Str} {i : Int} {c : Nat} (hz : z.length ≤ sizeLine) (h : atI z.cps.toList i = some c) (q : Q (.str ⟨#[c]⟩) H) : rIx K (.str z) (.int i) H Q := .inr (.inr ⟨z, i, c, rfl, rfl, hz, h, q⟩)
theorem k_sum {a : Addr} {ns : List Int} (h : SqL K H a (ns.map V.int)) (q : Q (.int ns.sum) H) : rSum K [.ref a] H Q := ⟨a, ns, rfl, h, q⟩
end
/-- in, not in: of flat things, of data, of a text in a text -/
def rInU (K : PySem.W.Frag) : R2 := fun x y H Q => rIn K false x y H Q ∨ rInD K x y H Q ∨ (∃ i j, x = .str i ∧ y = .str j ∧ Q (.bl (!(Builtin.Str.occurrences j i 0 j.length 1).isEmpty)) H)
def rNiU (K : PySem.W.Frag) : R2 := fun x y H Q => rIn K true x y H Q ∨ rNotInD K x y H Q ∨ (∃ i j, x = .str i ∧ y = .str j ∧ Q (.bl (!(!(Builtin.Str.occurrences j i 0 j.length 1).isEmpty))) H)
theorem Room.un65 {k : Nat} {A : Around} (r : Room k A) : A.units + 65 < cLine := by have := r.un; omega
theorem op_inUK {X : Cx} {K : PySem.W.Frag} {k : Nat} (h : X.K = K) (hr : Room k X.A) : OpR X (compareOp .In) (rInU K) := h ▸ op_in_seq.or ((op_inD (Room.un65 hr)).or op_in_str)
theorem op_niUK {X : Cx} {K : PySem.W.Frag} {k : Nat} (h : X.K = K) (hr : Room k X.A) : OpR X (compareOp .NotIn) (rNiU K) := h ▸ op_notIn_seq.or ((op_notInD (Room.un65 hr)).or op_notIn_str)
section
variable {H : Hp} {Q : VK} {K : PySem.W.Frag}
theorem k_in {x : V} {p : Addr} {xs : List V} {b : Bool} (h : SqL K H p xs ∨ SqT K H p xs) (hx : flatV x = true) (ha : xs.all flatV = true) (e : inV x xs = b) (q : Q (.bl b) H) : rInU K x (.ref p) H Q := .inl (k_in0 h hx ha e q)
theorem k_ni {x : V} {p : Addr} {xs : List V} {b : Bool} (h : SqL K H p xs ∨ SqT K H p xs) (hx : flatV x = true) (ha : xs.all flatV = true) (e : inV x xs = b) (q : Q (.bl (!b)) H) : rNiU K x (.ref p) H Q := .inl (k_ni0 h hx ha e q)
theorem k_inD {x y : V} {d : PyData} {ds : List PyData} (hx : Dp K H x d) (hy : Dp K H y (.list ds)) (s1 : SeqAt.shaped d = true) (s2 : SeqAt.shaped (.list ds) = true) (q : Q (.bl (ds.any fun z => PyData.eqv z d)) H) : rInU K x y H Q := .inr (.inl ⟨d, ds, hx, hy, s1, s2, q⟩)
theorem k_niD {x y : V} {d : PyData} {ds : List PyData} (hx : Dp K H x d) (hy : Dp K H y (.list ds)) (s1 : SeqAt.shaped d = true) (s2 : SeqAt.shaped (.list ds) = true) (q : Q (.bl (!ds.any fun z => PyData.eqv z d)) H) : rNiU K x y H Q := .inr (.inl ⟨d, ds, hx, hy, s1, s2, q⟩)
theorem k_inS {x y : Str} (q : Q (.bl (!(Builtin.Str.occurrences y x 0 y.length 1).isEmpty)) H) : rInU K (.str x) (.str y) H Q := .inr (.inr ⟨x, y, rfl, rfl, q⟩)
theorem k_niS {x y : Str} (q : Q (.bl (!(!(Builtin.Str.occurrences y x 0 y.length 1).isEmpty))) H) : rNiU K (.str x) (.str y) H Q := .inr (.inr ⟨x, y, rfl, rfl, q⟩)
end
/-- a dict of one pair, its key a text -/
def rDisp1 (p : Addr) (x y : V) (H : Hp) (Q : VK) : Prop := H p = some (.dK []) ∧ ∃ kvs : List (Key × V), [(x, y)] = kvs.map (fun kv => (kV kv.1, kv.2)) ∧ kvs.length ≤ 15 ∧ Q (.ref p) (upd H p (.dK (mergeK [] kvs)))
theorem k_disp1 {σ : L2.St} {H : Hp} {Q : VK} {tk tv : TE} (q : ∀ p H1, H p = none → Same H H1 → H1 p = some (.dK []) → tk σ H1 fun x H2 => tv σ H2 fun y H3 => rDisp1 p x y H3 Q) : tDisp [(tk, tv)] σ H Q := fun p hp => q p _ hp (same_new hp) upd_same
theorem k_disp1x {p : Addr} {z : Str} {y : V} {H : Hp} {Q : VK} (h : H p = some (.dK [])) (q : ∀ H', But p H H' → H' p = some (.dK [(.inr z, y)]) → Q (.ref p) H') : rDisp1 p (.str z) y H Q := ⟨h, [(.inr z, y)], rfl, by simp, q _ But.upd upd_same⟩
theorem k_ev {te : TE} {g : TG} {D : Ends} {σ : L2.St} {H : Hp} (P : V → Hp → Prop) (h : ∀ Q : VK, (∀ v H', P v H' → Q v H') → te σ H Q) (q : ∀ v H', P v H' → g v σ H' D.nx) : tAsg te g D σ H := h _ q
theorem k_evT {tt : TT} {t u : TS} {D : Ends} {σ : L2.St} {H : Hp} (P : Bool → Hp → Prop) (h : ∀ Q : Bool → Hp → Prop, (∀ b H', P b H' → Q b H') → tt σ H Q) (q : ∀ b H', P b H' → if b = true then t D σ H' else u D σ H') : tIfS tt t u D σ H := h _ q
/-! ### list comprehensions -/
section
variable {σ : L2.St} {H : Hp} {Q : VK} {K : PySem.W.Frag} {g : TG} {tt : TT} {te : TE} {vs : List Nat} {wi : TI}
def LcB (D : Addr) (g : TG) (tt : TT) (te : TE) (vs : List Nat) (σ : L2.St) (x : V) (H : Hp) (N : Hp → Prop) : Prop := g x (wipe σ vs) H fun σ2 H2 => wipe σ2 vs = wipe σ vs ∧ tt σ2 H2 fun b H3 =>
  if b = true then te σ2 H3 fun y H4 => ∃ acc, H4 D = some (.lst acc) ∧ acc.length < sizeLine ∧ N (upd H4 D (.lst (acc ++ [y]))) else N H3
def LcX (J : It) (g : TG) (tt : TT) (te : TE) (vs : List Nat) (σ : L2.St) (H : Hp) (Q : VK) : Prop := ∀ D, H D = none → ∃ W : Nat → Nat → Hp → Prop, (∃ m, W 0 m (upd H D (.lst []))) ∧ ∀ i m H, W i m H →
  (J.stop i H ∧ Q (.ref D) H) ∨ (J.go i H ∧ ∃ Nx : Hp → Prop, (∀ H', Nx H' → ∃ m', m' < m ∧ W (i + 1) m' H') ∧ ∀ x H', J.yld i H x H' → LcB D g tt te vs σ x H' Nx)
theorem k_lc (q : wi σ H fun J H1 => LcX J g tt te vs σ H1 Q) : tLc wi g tt te vs σ H Q := q
/-- one turn: the element kept, or not -/
theorem k_lcY {y : V} {D : Addr} {acc : List V} {P : Hp → Prop} (h : H D = some (.lst acc)) (hz : acc.length < sizeLine) (q : ∀ H', But D H H' → H' D = some (.lst (acc ++ [y])) → P H') : ∃ acc, H D = some (.lst acc) ∧ acc.length < sizeLine ∧ P (upd H D (.lst (acc ++ [y]))) :=
  ⟨acc, h, hz, q _ But.upd upd_same⟩
theorem k_lcU {a : Addr} {xs : List V} (hS : SqL K H a xs ∨ SqT K H a xs) (P : Addr → Nat → List V → Hp → Prop) (h0 : ∀ D H', H D = none → Same H H' → H' D = some (.lst []) → P D 0 [] H') (hl : ∀ D i ys H', H D = none → P D i ys H' → Same H H')
    (hs : ∀ D (i : Nat) x ys H', H D = none → xs[i]? = some x → P D i ys H' → H' D = some (.lst ys) → LcB D g tt te vs σ x H' fun H'' => ∃ zs, P D (i + 1) zs H'' ∧ H'' D = some (.lst zs))
    (hd : ∀ D ys H', H D = none → P D xs.length ys H' → H' D = some (.lst ys) → Q (.ref D) H') : rItU K (.ref a) H fun J H1 => LcX J g tt te vs σ H1 Q := by
  rcases hS with hS | hS
  · exact k_itUL hS fun D hD => lc_list (fun i H' => ∃ ys, P D i ys H' ∧ H' D = some (.lst ys)) ⟨[], h0 D _ hD (same_new hD) upd_same, upd_same⟩ (fun i H' _ ⟨ys, p, _⟩ => seqL_same (hl D i ys H' hD p) hS)
      (fun i x H' hx ⟨ys, p, e⟩ => hs D i x ys H' hD hx p e) fun H' ⟨ys, p, e⟩ => hd D ys H' hD p e
  · exact k_itUT hS fun D hD => lc_tup (fun i H' => ∃ ys, P D i ys H' ∧ H' D = some (.lst ys)) ⟨[], h0 D _ hD (same_new hD) upd_same, upd_same⟩ (fun i H' _ ⟨ys, p, _⟩ => seqT_same (hl D i ys H' hD p) hS)
      (fun i x H' hx ⟨ys, p, e⟩ => hs D i x ys H' hD hx p e) fun H' ⟨ys, p, e⟩ => hd D ys H' hD p e
/-- a list walked while other things change -/
theorem k_lcLb {σ : L2.St} {H : Hp} {Q : VK} {K : PySem.W.Frag} {g : TG} {tt : TT} {te : TE} {vs : List Nat} {a : Addr} {xs : List V} {P : Addr → Nat → List V → Hp → Prop} (h0 : ∀ D H', H D = none → Same H H' → H' D = some (.lst []) → P D 0 [] H') (hl : ∀ D i ys H', H D = none → P D i ys H' → SqL K H' a xs)
    (hs : ∀ D (i : Nat) x ys H', H D = none → xs[i]? = some x → P D i ys H' → H' D = some (.lst ys) → LcB D g tt te vs σ x H' fun H'' => ∃ zs, P D (i + 1) zs H'' ∧ H'' D = some (.lst zs))
    (hd : ∀ D ys H', H D = none → P D xs.length ys H' → H' D = some (.lst ys) → Q (.ref D) H') : LcX (Itl K a) g tt te vs σ H Q := fun D hD =>
  lc_list (fun i H' => ∃ ys, P D i ys H' ∧ H' D = some (.lst ys)) ⟨[], h0 D _ hD (same_new hD) upd_same, upd_same⟩ (fun i H' _ ⟨ys, p, _⟩ => hl D i ys H' hD p)
    (fun i x H' hx ⟨ys, p, e⟩ => hs D i x ys H' hD hx p e) fun H' ⟨ys, p, e⟩ => hd D ys H' hD p e
theorem k_lcR {lo : Int} {n : Nat} (P : Addr → Nat → List V → Hp → Prop) (h0 : ∀ D H', H D = none → Same H H' → H' D = some (.lst []) → P D 0 [] H')
    (hs : ∀ D (i : Nat) ys H', H D = none → i < n → P D i ys H' → H' D = some (.lst ys) → LcB D g tt te vs σ (.int (lo + (i : Int))) H' fun H'' => ∃ zs, P D (i + 1) zs H'' ∧ H'' D = some (.lst zs))
    (hd : ∀ D ys H', H D = none → P D n ys H' → H' D = some (.lst ys) → Q (.ref D) H') : LcX (Itr lo n) g tt te vs σ H Q := fun D hD =>
  lc_range (fun i H' => ∃ ys, P D i ys H' ∧ H' D = some (.lst ys)) ⟨[], h0 D _ hD (same_new hD) upd_same, upd_same⟩ (fun i H' hi ⟨ys, p, e⟩ => hs D i ys H' hD hi p e) fun H' ⟨ys, p, e⟩ => hd D ys H' hD p e
/-- a turn begins: the target a name -/
theorem k_lcB {D : Addr} {j : Nat} {x : V} {N : Hp → Prop} (hw : wipe ((wipe σ vs).set j (some x)) vs = wipe σ vs) (q : tt ((wipe σ vs).set j (some x)) H fun b H3 => if b = true then te ((wipe σ vs).set j (some x)) H3 fun y H4 => ∃ acc, H4 D = some (.lst acc) ∧ acc.length < sizeLine ∧ N (upd H4 D (.lst (acc ++ [y]))) else N H3) :
    LcB D (gName j) tt te vs σ x H N := ⟨hw, q⟩
/-- a comprehension's turn, its target a tuple -/
theorem k_lcT {D : Addr} {x : V} {N : Hp → Prop} (q : g x (wipe σ vs) H fun σ2 H2 => wipe σ2 vs = wipe σ vs ∧ tt σ2 H2 fun b H3 =>
    if b = true then te σ2 H3 fun y H4 => ∃ acc, H4 D = some (.lst acc) ∧ acc.length < sizeLine ∧ N (upd H4 D (.lst (acc ++ [y]))) else N H3) : LcB D g tt te vs σ x H N := q
/-- no test -/
theorem k_yes {Q : Bool → Hp → Prop} (q : Q true H) : tYes σ H Q := q
def rRgX (a b : Int) (H : Hp) (Q : VK) : Prop := RgOk a b ∧ ∀ q, H q = none → Q (.ref q) (upd H q (.lst (rgV a b)))
theorem k_listRg {tr : L2.St → Hp → (Int → Int → Hp → Prop) → Prop} (q : tr σ H fun a b H1 => rRgX a b H1 Q) : tLstRg tr σ H Q := q
theorem k_rg1 {ta : TE} {R : Int → Int → Hp → Prop} (q : ta σ H fun x H1 => ∃ n, x = .int n ∧ R 0 n H1) : tRg1 ta σ H R := q
theorem k_rgX {a b : Int} (c : 0 ≤ a ∧ a ≤ 1000000 ∧ 0 ≤ b ∧ b ≤ 1000000) (q : ∀ l H', H l = none → Same H H' → H' l = some (.lst (rgV a b)) → Q (.ref l) H') : rRgX a b H Q := ⟨RgOk.of_le (by omega) (by omega) (by omega) (by omega), fun l hl => q l _ hl (same_new hl) upd_same⟩
end
def rIsBl : R2 := fun x y H Q => ∃ a b, x = .bl a ∧ y = .bl b ∧ Q (.bl (decide (a = b))) H
def rNotBl : R2 := fun x y H Q => ∃ a b, x = .bl a ∧ y = .bl b ∧ Q (.bl (!decide (a = b))) H
theorem op_isBlU {X : Cx} : OpR X (compareOp .Is) rIsBl := op_is_bl
theorem op_notBlU {X : Cx} : OpR X (compareOp .IsNot) rNotBl := op_isnot_bl
theorem k_isBl {a b : Bool} {H : Hp} {Q : VK} (q : Q (.bl (decide (a = b))) H) : rIsBl (.bl a) (.bl b) H Q := ⟨a, b, rfl, rfl, q⟩
theorem k_notBl {a b : Bool} {H : Hp} {Q : VK} (q : Q (.bl (!decide (a = b))) H) : rNotBl (.bl a) (.bl b) H Q := ⟨a, b, rfl, rfl, q⟩
theorem k_glst {K : PySem.W.Frag} {a : Addr} {xs : List V} {n : Nat} {t : TGs} {σ : L2.St} {H : Hp} {Q : L2.St → Hp → Prop} (h : SqL K H a xs) (hl : xs.length = n) (q : t xs σ H Q) : gLst K n t (.ref a) σ H Q := ⟨a, xs, rfl, h, hl, q⟩
theorem k_ext1 {l b : Addr} {xs zs : List V} {H : Hp} {Q : VK} (h : H l = some (.lst xs)) (g : H b = some (.lst zs)) (c : xs.length + zs.length ≤ sizeLine) (q : ∀ H', But l H H' → H' l = some (.lst (xs ++ zs)) → Q .non H') : rExtend (.ref l) [.ref b] H Q := ⟨l, b, xs, zs, rfl, rfl, h, g, c, q _ But.upd upd_same⟩
/-- a tuple and one more -/
theorem k_addT1 {K : PySem.W.Frag} {H : Hp} {Q : VK} {a b : Addr} {xs : List V} {y : V} (ha : SqT K H a xs) (hb : SqT K H b [y]) (c : xs.length + 1 ≤ sizeLine) (q : ∀ p H', Same H H' → SqT K H' p (xs ++ [y]) → Q (.ref p) H') : rAddU K (.ref a) (.ref b) H Q :=
  .inr (.inr (.inr (.inl ⟨a, b, xs, [y], rfl, rfl, ha, hb, c, fun e => by subst e; exact q b H (Same.refl H) hb, fun _ e => (by cases e), fun _ _ p hp => q p _ (same_new hp) (SqT.of upd_same)⟩)))
/-! len(set(t)), t a tuple of ints, none twice -/
def tLenSetT (K : PySem.W.Frag) (ta : TE) : TE := fun σ H Q => ta σ H fun x H1 => ∃ (l : Addr) (ns : List Int), x = .ref l ∧ SqT K H1 l (ns.map V.int) ∧ ns.Nodup ∧ ns.length ≤ 4000 ∧ Q (.int (ns.length : Nat)) H1
theorem ints_vals : ∀ {ns : List Int} {us : List Value}, Vals (ns.map V.int) us → PyProof.Rows.IntsAre us ns
  | [], _, .nil => .nil
  | n :: ns, _, .cons r t => by
    obtain ⟨k, rfl⟩ := r
    exact .cons n k (ints_vals t)
theorem pe_lenSetT {X : Cx} {K : PySem.W.Frag} {a : Expr} {ta : TE} {p p2 q pos : Pos} (hK : X.K = K) (hg : Gl X "len") (hm : X.mg "len" = none) (hg2 : Gl X "set") (hm2 : X.mg "set" = none) (ha : PE X a ta) (hc : X.calm = true := by rfl)
    (na : starEach [a] X.env = (false, eval a X.env) :: starEach [] X.env := by rfl) : PE X (.Call (.Name "len" p) [.Call (.Name "set" p2) [a] [] q] [] pos) (tLenSetT K ta) := by
  subst hK
  refine ⟨fun pins s σ H Q I h => ?_⟩
  refine Call_ (ld_blt I hg hm boot_len ?_)
  refine PyProof.Rows.callWith_builtin1 (PyProof.Rows.args_cons ?_ rfl) rfl rfl
  refine Call_ (ld_blt I hg2 hm2 boot_set ?_)
  refine PyProof.Rows.callWith_type1 (PyProof.Rows.args_cons (thn (ha.run pins s σ H _ I h) fun v s1 ⟨x, H1, I1, r1, q1⟩ => PyProof.Rows.args_nil ?_) na) na rfl
  obtain ⟨l, ns, rfl, hq, hnd, hl, q1⟩ := q1
  cases r1
  obtain ⟨its, r, pt, hz⟩ := I1.tuple hq
  refine call_set_tupI ns (I1.ok.hd hc) pt (by simpa using ints_vals r) (by unfold scanBound; omega) fun h' tk c hS _ hk => ?_
  refine PyProof.Rows.args_nil ?_
  obtain ⟨o, es, ep, t, ho, hex, hd, g, nd, hm3, hb, hf, hn, _⟩ := hS
  have I2 : Inv X pins σ H1 { s1 with heap := h', toks := tk } := I1.kept hk
  have hp : (es.toList.map keyOf).Perm ns := (List.perm_ext_iff_of_nodup nd hnd).mpr fun k => by
    have := hm3 k
    rw [← this]
    simp
  have hlen : es.size = ns.length := by
    have := hp.length_eq
    rw [List.length_map, Array.length_toList] at this
    exact this
  exact call_len_set ho hex hd hf (by rw [hlen]; omega) ⟨.int ns.length, H1, I2.tok _, ⟨_, by rw [hlen]⟩, q1⟩
def rLenSetT (K : PySem.W.Frag) (x : V) (H1 : Hp) (Q : VK) : Prop := ∃ (l : Addr) (ns : List Int), x = .ref l ∧ SqT K H1 l (ns.map V.int) ∧ ns.Nodup ∧ ns.length ≤ 4000 ∧ Q (.int (ns.length : Nat)) H1
theorem k_lenSetT {K : PySem.W.Frag} {ta : TE} {σ : L2.St} {H : Hp} {Q : VK} (q : ta σ H fun x H1 => rLenSetT K x H1 Q) : tLenSetT K ta σ H Q := q
theorem k_lenSetTx {K : PySem.W.Frag} {H : Hp} {Q : VK} {l : Addr} {ns : List Int} (h : SqT K H l (ns.map V.int)) (nd : ns.Nodup) (c : ns.length ≤ 4000) (q : Q (.int (ns.length : Nat)) H) : rLenSetT K (.ref l) H Q := ⟨l, ns, rfl, h, nd, c, q⟩
/-! count of data -/
def rCntL (K : PySem.W.Frag) : V → List V → Hp → VK → Prop := fun x xs H Q => ∃ (p : Addr) (y : V) (d : PyData) (ds : List PyData), x = .ref p ∧ xs = [y] ∧ Dp K H (.ref p) (.list ds) ∧ Dp K H y d ∧ PyData.plainAll ds = true ∧ d.plain = true ∧ PyData.depthAll ds ≤ 32 ∧
  Q (.int ((ds.countP fun z => PyData.eqv z d : Nat) : Int)) H
theorem mt_cntL {X : Cx} {k : Nat} {K : PySem.W.Frag} (h : X.K = K) (hr : Room k X.A) : MtR X "list.count" (rCntL K) := by
  subst h
  intro pins s σ H x xs v us Q I rx rxs h
  obtain ⟨p, y, d, ds, rfl, rfl, hl, hy, pl, pd, dp, q⟩ := h
  cases rx
  cases rxs with
  | cons ry rt =>
    rename_i uy ut
    cases rt
    obtain ⟨bs, r1⟩ := Dp.reads I d y uy hy ry
    cases hl with
    | lst hs ha =>
      obtain ⟨its, rv, pl2, hlen⟩ := I.list hs
      obtain ⟨as, h4⟩ := Dp.readsAll I ds _ its ha rv
      refine PySem.SeqAt.count_list_data pl2.isList (show ReadsAll s.heap its.toArray.toList ds as from h4) r1 pl pd (by have := hr.units; omega) ⟨.int ((ds.countP fun z => PyData.eqv z d : Nat) : Int), H, I.tok _, ⟨_, rfl⟩, q⟩
theorem k_cntL {H : Hp} {Q : VK} {K : PySem.W.Frag} {p : Addr} {y : V} {d : PyData} {ds : List PyData} (hl : Dp K H (.ref p) (.list ds)) (hy : Dp K H y d) (pl : PyData.plainAll ds = true) (pd : d.plain = true) (dp : PyData.depthAll ds ≤ 32)
    (q : Q (.int ((ds.countP fun z => PyData.eqv z d : Nat) : Int)) H) : rCntL K (.ref p) [y] H Q := ⟨p, y, d, ds, rfl, rfl, hl, hy, pl, pd, dp, q⟩
/-- a list, repeated -/
theorem k_mulR {H : Hp} {Q : VK} {K : PySem.W.Frag} {l : Addr} {k : Int} {xs : List V} (h : H l = some (.lst xs)) (c : -(2 ^ 63) ≤ k ∧ k < 2 ^ 63 ∧ xs.length * k.toNat ≤ sizeLine) (q : ∀ p H', H p = none → Same H H' → H' p = some (.lst (List.replicate k.toNat xs).flatten) → Q (.ref p) H') : rMulU K (.ref l) (.int k) H Q :=
  .inr (.inl ⟨l, k, xs, rfl, rfl, h, c.1, c.2.1, c.2.2, fun p hp => q p _ hp (same_new hp) upd_same⟩)
/-! ### walks that lay a new pair at each turn: enumerate, zip -/
structure PairIt (J : It) (n : Nat) (u v : Nat → V) (Ok : Hp → Prop) : Prop where
  go : ∀ i H, Ok H → i < n → J.go i H
  stop : ∀ H, Ok H → J.stop n H
  yld : ∀ i H x H', Ok H → i < n → J.yld i H x H' → ∃ T, x = .ref T ∧ H T = none ∧ H' = upd H T (.tup [u i, v i])
section
variable {σ : L2.St} {H : Hp} {Q : VK} {K : PySem.W.Frag} {g : TG} {tt : TT} {te : TE} {vs : List Nat} {J : It} {n : Nat} {u v : Nat → V} {Ok : Hp → Prop} {D : Ends} {tb : TS} {ta : TA}
theorem k_loopP (pi : PairIt J n u v Ok) (P : Nat → L2.St → Hp → Prop) (h0 : P 0 σ H) (hl : ∀ i σ' H', P i σ' H' → Ok H')
    (hs : ∀ (i : Nat) T σ' H1 H2, i < n → P i σ' H1 → H1 T = none → Same H1 H2 → H2 T = some (.tup [u i, v i]) → g (.ref T) σ' H2 fun σ2 H2 => tb { D with nx := P (i + 1), ct := P (i + 1), bk := D.nx } σ2 H2) (hd : ∀ σ' H', P n σ' H' → D.nx σ' H') : LoopI J g tb D σ H := by
  refine ⟨fun i m σ' H' => m = n - i ∧ i ≤ n ∧ P i σ' H', ⟨n, by simp, Nat.zero_le _, h0⟩, ?_⟩
  rintro i m σ' H' ⟨rfl, hi, p⟩
  have ok := hl i σ' H' p
  by_cases c : i < n
  · refine .inr ⟨pi.go i H' ok c, P (i + 1), fun σ2 H2 q => ⟨n - (i + 1), by omega, rfl, c, q⟩, fun x H2 y => ?_⟩
    obtain ⟨T, rfl, hT, rfl⟩ := pi.yld i H' x H2 ok c y
    exact hs i T σ' H' _ c p hT (same_new hT) upd_same
  · have e : i = n := by omega
    subst e
    exact .inl ⟨pi.stop H' ok, hd σ' H' p⟩
theorem k_lcP (pi : PairIt J n u v Ok) (P : Addr → Nat → List V → Hp → Prop) (h0 : ∀ D H', H D = none → Same H H' → H' D = some (.lst []) → P D 0 [] H') (hl : ∀ D i ys H', H D = none → P D i ys H' → Ok H')
    (hs : ∀ D (i : Nat) T ys H1 H2, H D = none → i < n → P D i ys H1 → H1 T = none → Same H1 H2 → H2 T = some (.tup [u i, v i]) → H2 D = some (.lst ys) → LcB D g tt te vs σ (.ref T) H2 fun H'' => ∃ zs, P D (i + 1) zs H'' ∧ H'' D = some (.lst zs))
    (hd : ∀ D ys H', H D = none → P D n ys H' → H' D = some (.lst ys) → Q (.ref D) H') : LcX J g tt te vs σ H Q := fun D hD => by
  refine ⟨fun i m H' => m = n - i ∧ i ≤ n ∧ ∃ ys, P D i ys H' ∧ H' D = some (.lst ys), ⟨n, by simp, Nat.zero_le _, [], h0 D _ hD (same_new hD) upd_same, upd_same⟩, ?_⟩
  rintro i m H' ⟨rfl, hi, ys, p, e⟩
  have ok := hl D i ys H' hD p
  by_cases c : i < n
  · refine .inr ⟨pi.go i H' ok c, fun H'' => ∃ zs, P D (i + 1) zs H'' ∧ H'' D = some (.lst zs), fun H2 ⟨zs, q, e2⟩ => ⟨n - (i + 1), by omega, rfl, c, zs, q, e2⟩, fun x H2 y => ?_⟩
    obtain ⟨T, rfl, hT, rfl⟩ := pi.yld i H' x H2 ok c y
    exact hs D i T ys H' _ hD c p hT (same_new hT) upd_same (same_new hT _ _ e)
  · have ei : i = n := by omega
    subst ei
    exact .inl ⟨pi.stop H' ok, hd D ys H' hD p e⟩
theorem get_some {xs : List V} {i : Nat} (h : i < xs.length) : xs[i]? = some (xs.getD i .non) := by
  rw [List.getElem?_eq_getElem h]
  simp [h]
theorem enum_it {a : Addr} {xs : List V} : PairIt (Ite K a) xs.length (fun i => .int (i : Nat)) (fun i => xs.getD i .non) (fun H => SqL K H a xs) where
  go := fun i H h c => ⟨xs, _, h, get_some c⟩
  stop := fun H h => ⟨xs, h, Nat.le_refl _⟩
  yld := fun i H x H' h c ⟨T, y, e, hT, eH, hy⟩ => ⟨T, e, hT, by
    have := hy xs h
    rw [get_some c] at this
    rw [eH, Option.some.inj this]⟩
theorem zip_it {a b : Addr} {xs ys : List V} (hl : xs.length = ys.length) : PairIt (Itz K a b) xs.length (fun i => xs.getD i .non) (fun i => ys.getD i .non) (fun H => SqL K H a xs ∧ SqL K H b ys) where
  go := fun i H h c => ⟨xs, ys, _, _, h.1, h.2, get_some c, get_some (by omega)⟩
  stop := fun H h => ⟨xs, ys, h.1, h.2, .inl (Nat.le_refl _)⟩
  yld := fun i H x H' h c ⟨T, y, z, e, hT, eH, hy, hz⟩ => ⟨T, e, hT, by
    have e1 := hy xs h.1
    have e2 := hz ys h.2
    rw [get_some c] at e1
    rw [get_some (by omega)] at e2
    rw [eH, Option.some.inj e1, Option.some.inj e2]⟩
def rEnum (K : PySem.W.Frag) (vs : List V) (H1 : Hp) (R : It → Hp → Prop) : Prop := ∃ a xs, vs = [.ref a] ∧ SqL K H1 a xs ∧ R (Ite K a) H1
theorem k_iEnum {R : It → Hp → Prop} (q : ta σ H fun vs H1 => rEnum K vs H1 R) : iEnum K ta σ H R := q
theorem k_enumx {a : Addr} {xs : List V} {R : It → Hp → Prop} (h : SqL K H a xs) (q : R (Ite K a) H) : rEnum K [.ref a] H R := ⟨a, xs, rfl, h, q⟩
end
/-! the written part by its name, in comprehensions too -/
section
variable {X : Cx} {K : PySem.W.Frag}
theorem callK {f : Value} {r : PySem.W.Frag → List V → Hp → VK → Prop} (h : X.K = K) (c : CallR X f (r X.K)) : CallR X f (r K) := h ▸ c
theorem pe_fldK {e : Expr} {ta : TE} {f : Str} {pos : Pos} (h : X.K = K) (he : PE X e ta) (hb : attributeBase e f X.env (eval e X.env) = eval e X.env) : PE X (.Attribute e f pos) (tFld K ta f) := h ▸ pe_fld he hb
theorem pe_bm0K {T id : String} {name : Str} {o : Expr} {to : TE} {r : V → List V → Hp → VK → Prop} {apos cpos : Pos} (h : X.K = K) (pa : PlainAttrs T) (slot : Slot T name id) (hty : typeOf (.builtin id) = pure (.type "method_descriptor")) (hm : MtR X id r) (ho : PE X o to)
    (hbase : attributeBase o name X.env (eval o X.env) = eval o X.env := by rfl) (hline : (apos.endLine == cpos.line) = true := by rfl) : PE X (.Call (.Attribute o name apos) [] [] cpos) (tBM0 K T r to) := h ▸ pe_bm0 pa slot hty hm ho hbase hline
theorem pe_bmK {T id : String} {name : Str} {o e : Expr} {es : List Expr} {to : TE} {t : TA} {r : V → List V → Hp → VK → Prop} {apos cpos : Pos} (h : X.K = K) (pa : PlainAttrs T) (slot : Slot T name id) (hty : typeOf (.builtin id) = pure (.type "method_descriptor")) (hm : MtR X id r) (ho : PE X o to) (ha : PA X (e :: es) t)
    (hbase : attributeBase o name X.env (eval o X.env) = eval o X.env := by rfl)
    (hfew : ((backTo cpos (starEach (e :: es) X.env)).all (fun x => !x.1) && (backToKw cpos (keywordEach [] X.env)).all (fun x => x.1.isSome)
      && decide ((e :: es).length + ([] : List Keyword).length + (if ([] : List Keyword).isEmpty then 0 else 1) < 30)) = true := by rfl)
    (hline : (apos.endLine == cpos.line) = true := by rfl) (hs : starEach (e :: es) X.env = (false, eval e X.env) :: starEach es X.env := by rfl) (hplain : (backTo cpos (starEach es X.env)).any (·.1) = false := by rfl) :
    PE X (.Call (.Attribute o name apos) (e :: es) [] cpos) (tBM K T r to t) := h ▸ pe_bm pa slot hty hm ho ha hbase hfew hline hs hplain
end
/-! X(e).f, X an exception with a field -/
section
variable {X : Cx} {e : Expr} {t : L2.St → Hp → XK → Prop} {C : Addr} {f : Str} {pos : Pos}
def tMkF (C : Addr) (f : Str) (t : L2.St → Hp → XK → Prop) : TE := fun σ H Q => t σ H fun cls d H1 => ∃ (dd : Addr) (fs : List (Str × V)) (v : V), cls = .ref C ∧ d = some dd ∧ H1 dd = some (.xd fs) ∧ fs.lookup f = some v ∧ Q v H1
theorem pe_mkF (T : XfC X.K C) (hno : PySem.W.findIn X.K (.ref C) f = some none) (he : PMk X e t) (hb : attributeBase e f X.env (eval e X.env) = eval e X.env := by rfl) : PE X (.Attribute e f pos) (tMkF C f t) := by
  refine ⟨fun pins s σ H Q I h => ?_⟩
  refine attr_of hb (thn (he pins s σ H _ I h) fun u s1 hh => ?_)
  obtain ⟨a, oe, vs, sI, H1, cls, d, ex, J, k, hne, ha, hz, hd, h1, na, os, ag, r, dd, fs, v, ec, ed, ea, l, q⟩ := hh
  subst ex
  subst ec
  subst ed
  have J2 := J.kept (h' := s1.heap) (t' := s1.toks) k
  have I1 : Inv X pins σ H1 s1 := ⟨J2.ok, os.trans J2.os, ag, J2.base, J2.loc, J2.cell, J2.free, J2.freeC, J2.pin, J2.hok, J2.len⟩
  have hx : ObjOk X.prog X.w H1 s1.heap dd (.xd fs) := I1.hok dd _ ea
  obtain ⟨mA, hns, hr⟩ := hx
  obtain ⟨od, ho, hl⟩ := lookIn_ns hns
  obtain ⟨u, hu, ru⟩ := RelO.some_of (v := v) (o := mA f) (by rw [← l]; exact hr f)
  have J : PySem.W.InstAt s1.heap a oe C (some od) := ⟨ha, hz.1, by unfold PySem.W.notCls; rw [hd] <;> rfl, by rw [hz.2]; exact ho⟩
  exact HandSPX.exc_get I1.kIn J T.ga T.gg T.exC (PySem.W.findObj_own T.hdC hno rfl (by rw [hl, hu])) (handed_of ru) ⟨v, H1, I1.tok _, ru, q⟩
theorem k_mkF {sp : Sp} {ta : TA} {σ : L2.St} {H : Hp} {Q : VK} (q : ta σ H fun vs H1 => rMkO C sp vs H1 fun cls d H1 => ∃ (dd : Addr) (fs : List (Str × V)) (v : V), cls = .ref C ∧ d = some dd ∧ H1 dd = some (.xd fs) ∧ fs.lookup f = some v ∧ Q v H1) : tMkF C f (tMkO C sp [] ta) σ H Q := q
theorem k_mkFx {v : V} {H1 : Hp} {Q : VK} (k : ∀ H2, Same H1 H2 → Q v H2) : rMkO C (spXI C f) [v] H1 fun cls d H1 => ∃ (dd : Addr) (fs : List (Str × V)) (v : V), cls = .ref C ∧ d = some dd ∧ H1 dd = some (.xd fs) ∧ fs.lookup f = some v ∧ Q v H1 :=
  k_mkx fun d H2 _ s hd => ⟨d, _, v, rfl, rfl, hd, by simp [List.lookup], k H2 s⟩
/-- tuples of ints, < -/
theorem op_ltTK {K : PySem.W.Frag} {k : Nat} (h : X.K = K) (hr : Room k X.A) : OpR X (compareOp .Lt) (rLtT K) := h ▸ op_ltT (by have := hr.units; omega)
theorem k_ltT {K : PySem.W.Frag} {H : Hp} {Q : VK} {a b : Addr} {ns ms : List Int} (ha : SqT K H a (ns.map V.int)) (hb : SqT K H b (ms.map V.int)) (q : Q (.bl (HT.lexLt ns ms)) H) : rLtT K (.ref a) (.ref b) H Q := ⟨a, b, ns, ms, rfl, rfl, ha, hb, q⟩
theorem k_clear {H : Hp} {Q : VK} {l : Addr} {xs : List V} (h : H l = some (.lst xs)) (q : ∀ H', But l H H' → H' l = some (.lst []) → Q .non H') : rClear (.ref l) [] H Q := ⟨l, xs, rfl, rfl, h, q _ But.upd upd_same⟩
end
/-- while, its test by what it gives -/
theorem k_whileT {tc : TT} {tb : TS} {D : Ends} {σ : L2.St} {H : Hp} (P : Nat → L2.St → Hp → Prop) (R : Nat → L2.St → Bool → Hp → Prop) (m : Nat) (h0 : P m σ H) (ht : ∀ m σ H, P m σ H → ∀ Q : Bool → Hp → Prop, (∀ b H', R m σ b H' → Q b H') → tc σ H Q)
    (hb : ∀ m σ H, R m σ true H → tb { D with nx := Less P m, ct := Less P m, bk := D.nx } σ H) (hd : ∀ m σ H, R m σ false H → D.nx σ H) : tWhile tc tb D σ H := k_while P m h0 fun m σ H p => ht m σ H p _ fun b H' r => by
  cases b with
  | true => exact k_ifT (k_wN (hb m σ H' r))
  | false => exact k_ifF (hd m σ H' r)
/-! a tuple and a list walked side by side -/
def Itm (K : PySem.W.Frag) (a b : Addr) : It where
  go i H := ∃ xs ys x y, SqT K H a xs ∧ SqL K H b ys ∧ xs[i]? = some x ∧ ys[i]? = some y
  yld i H v H' := ∃ T x y, v = .ref T ∧ H T = none ∧ H' = upd H T (.tup [x, y]) ∧ (∀ xs, SqT K H a xs → xs[i]? = some x) ∧ ∀ ys, SqL K H b ys → ys[i]? = some y
  stop i H := ∃ xs ys, SqT K H a xs ∧ SqL K H b ys ∧ xs.length = i ∧ ys.length = i
def ZmSt (z TI TO i1 i2 a b : Addr) (i : Nat) (h : Heap) : Prop := IsZip h z TI TO .none ∧ IsTupOf2 h TI (.ref i1) (.ref i2) ∧ (∃ x y, IsTupOf2 h TO x y) ∧ h.IsTupleIter i1 a i ∧ h.IsListIter i2 b i
theorem zm_obj {z TI TO i1 i2 a b : Addr} {i : Nat} {h : Heap} (st : ZmSt z TI TO i1 i2 a b i h) {c : Addr} (hc : c ∈ [z, TI, TO, i1, i2]) : ∃ o, h.get? c = some o ∧ ∀ v, o.data ≠ .cell v := by
  obtain ⟨s1, s2, ⟨_, _, s3⟩, ⟨o4, e4, _, d4⟩, ⟨o5, e5, _, d5⟩⟩ := st
  simp only [List.mem_cons, List.not_mem_nil, or_false] at hc
  rcases hc with rfl | rfl | rfl | rfl | rfl
  · exact ⟨_, s1, fun _ => nofun⟩
  · exact ⟨_, s2, fun _ => nofun⟩
  · exact ⟨_, s3, fun _ => nofun⟩
  · exact ⟨o4, e4, fun _ z => by rw [d4] at z; cases z⟩
  · exact ⟨o5, e5, fun _ z => by rw [d5] at z; cases z⟩
theorem turn_zipM {P : Program} {w : World} {K : PySem.W.Frag} {elts : List Expr} {kk : Nat} {tpos : Pos} {a b z TI TO i1 i2 : Addr} (S : ZipSep2 z TI TO i1 i2 [i1, a] [i2, b]) (ha : a ≠ i1) (hb : b ≠ i2) :
    Turn P w K (.Tuple elts kk tpos) (Itm K a b) [z, TI, TO, i1, i2] z (ZmSt z TI TO i1 i2 a b) where
  mem := by simp
  obj := fun i h st c hc => zm_obj st hc
  keep := fun i h h' st k => ⟨k z (by simp) _ st.1, k TI (by simp) _ st.2.1, (let ⟨x, y, e⟩ := st.2.2.1; ⟨x, y, k TO (by simp) _ e⟩), st.2.2.2.1.at fun o q => k i1 (by simp) o q, st.2.2.2.2.at fun o q => k i2 (by simp) o q⟩
  item := by
    intro X hP hw hK hc i pins s σ H E I hf st hg
    subst hP hw hK
    obtain ⟨xs, ys, x, y, qx, qy, ex, ey⟩ := hg
    obtain ⟨us, ru, pu, _⟩ := I.tuple qx
    obtain ⟨vs, rv, pv, _⟩ := I.list qy
    have hh : X.A.in1.handled = none := I.ok.hd hc
    have lu : i < us.length := by rw [← ru.length]; exact (List.getElem?_eq_some_iff.mp ex).1
    have lv : i < vs.length := by rw [← rv.length]; exact (List.getElem?_eq_some_iff.mp ey).1
    have W := WalksT.zipD2 (prog := X.prog) (w := X.w) (A := X.A) S (Draws.tuple hh i1 a ha us.toArray) (Draws.list hh i2 b hb vs.toArray)
    refine W.item i s _ E (by simp; omega) ⟨st.1, st.2.1, st.2.2.1, ⟨st.2.2.2.1, pu⟩, ⟨st.2.2.2.2, pv.isList⟩⟩ fun T vals h' tk hP hT ht hm hk => ?_
    obtain ⟨u, v, hu, hv, rfl⟩ := hP
    obtain ⟨u', hu', r1⟩ := ru.get ex
    obtain ⟨v', hv', r2⟩ := rv.get ey
    obtain rfl : u' = u := Option.some.inj (hu'.symm.trans (by simpa using hu))
    obtain rfl : v' = v := Option.some.inj (hv'.symm.trans (by simpa using hv))
    refine ⟨.ref T, rfl, W.go elts kk tpos i T { s with heap := h', toks := tk } _ E hm fun h2 st2 hk2 => ?_⟩
    have new : ObjOk X.prog X.w (upd H T (.tup [x, y])) h2 T (.tup [x, y]) := ⟨by show 2 ≤ sizeLine; decide, [u', v'], .cons r1 (.cons r2 .nil), ht.at fun o e => hk2 T o (W.apart i T h' hm) e⟩
    have I1 := I.turnedNew (t' := tk) (ch := [z, TI, TO, i1, i2]) (fun c o n e => hk2 c o (fun q => n (by simp at q ⊢; rcases q with h | h | h | h <;> simp [h])) (hk c o (fun q => n (by simp at q ⊢; rcases q with h | h | h | h <;> simp [h])) e)) hf hT new
    refine ⟨.ref T, _, I1, rfl, ⟨T, x, y, rfl, I.hok.fresh hT, rfl, fun l hl => by rw [I.tuple_inj hl qx]; exact ex, fun l hl => by rw [I.list_inj hl qy]; exact ey⟩, ⟨st2.1, st2.2.1, st2.2.2.1, st2.2.2.2.1.1, st2.2.2.2.2.1⟩, fun c hcm => ?_⟩
    obtain ⟨o, e, _⟩ := zm_obj st hcm
    rw [upd_ne (Nat.ne_of_lt (Nat.lt_of_lt_of_le (Heap.lt_size e) hT))]
    exact (hf c hcm).1
  done := by
    intro X hP hw hK hc i pins s σ H E I hf st hg
    subst hP hw hK
    obtain ⟨xs, ys, qx, qy, ex, ey⟩ := hg
    obtain ⟨us, ru, pu, _⟩ := I.tuple qx
    obtain ⟨vs, rv, pv, _⟩ := I.list qy
    have hh : X.A.in1.handled = none := I.ok.hd hc
    have lu : us.length = i := by rw [← ru.length]; exact ex
    have lv : vs.length = i := by rw [← rv.length]; exact ey
    have W := WalksT.zipD2 (prog := X.prog) (w := X.w) (A := X.A) S (Draws.tuple hh i1 a ha us.toArray) (Draws.list hh i2 b hb vs.toArray)
    rw [show min us.toArray.size vs.toArray.size = i by simp; omega] at W
    exact W.done s _ E ⟨st.1, st.2.1, st.2.2.1, ⟨st.2.2.2.1, pu⟩, ⟨st.2.2.2.2, pv.isList⟩⟩ fun h' tk hk => ⟨rfl, I.turnedL (t' := tk) (ch := [z, TI, TO, i1, i2]) (fun c o n e => hk c o (fun q => n (by simp at q ⊢; rcases q with h | h | h | h <;> simp [h])) e) hf⟩
  self := fun A i s Q E st h => wpAny_pyIter_zip st.1 h
def rZipM (K : PySem.W.Frag) (vs : List V) (H1 : Hp) (R : It → Hp → Prop) : Prop := ∃ a b xs ys, vs = [.ref a, .ref b] ∧ SqT K H1 a xs ∧ SqL K H1 b ys ∧ R (Itm K a b) H1
def iZipM (K : PySem.W.Frag) (ta : TA) : TI := fun σ H R => ta σ H fun vs H1 => rZipM K vs H1 R
theorem pi_zipM {X : Cx} {K : PySem.W.Frag} {e e2 : Expr} {ta : TA} {p pos tpos : Pos} {elts : List Expr} {kk : Nat} (h : X.K = K) (hg : Gl X "zip") (hm : X.mg "zip" = none) (ha : PA X [e, e2] ta)
    (hs : starEach [e, e2] X.env = (false, eval e X.env) :: starEach [e2] X.env := by rfl) (hpl : (backTo pos (starEach [e2] X.env)).any (·.1) = false := by rfl) :
    PI X (.Tuple elts kk tpos) (.Call (.Name "zip" p) [e, e2] [] pos) (iZipM K ta) := by
  subst h
  refine ⟨fun pins s σ H R I h => Call_ (ld_blt I hg hm PyProof.Rows.boot_zip (PyProof.Rows.callWith_type1 (thn (ha.run pos pins s σ H _ I h) fun us s1 z => ?_) hs hpl))⟩
  obtain ⟨vs, H1, I1, r1, a, b, xs, ys, rfl, qx, qy, q⟩ := z
  cases r1 with
  | cons ra rr =>
    obtain ⟨ub, rfl, rb⟩ := vals1 rr
    cases ra
    cases rb
    obtain ⟨us, ru, pu, _⟩ := I1.tuple qx
    obtain ⟨vs, rv, pv, _⟩ := I1.list qy
    have la : a < s1.heap.objs.size := by obtain ⟨_, e, _⟩ := id pu; exact Heap.lt_size e
    refine zip_begins2 (begins_tuple a us.toArray) (begins_list b vs.toArray) pu pv.isList fun h' hz hTI hTO g1 g2 hsz hk => wpAny_pyIter_zip hz ?_
    have S := zip_sep2 (N := s1.heap.objs.size) (fp1 := [a]) (fp2 := [b]) (fun c hc => by rw [List.mem_singleton.mp hc]; exact la) (fun c hc => by rw [List.mem_singleton.mp hc]; exact pv.lt)
    refine ⟨_, _, _, _, H1, rfl, I1.kept (t' := s1.toks) hk, turn_zipM S (Nat.ne_of_lt la) (Nat.ne_of_lt (Nat.lt_succ_of_lt pv.lt)), ⟨hz, hTI, ⟨_, _, hTO⟩, ⟨_, g1, rfl, rfl⟩, ⟨_, g2, rfl, rfl⟩⟩, fun c hc => ?_, q⟩
    have hle : s1.heap.objs.size ≤ c := by
      simp only [List.mem_cons, List.not_mem_nil, or_false] at hc
      rcases hc with rfl | rfl | rfl | rfl | rfl
      · exact Nat.le_add_right _ 4
      · exact Nat.le_add_right _ 2
      · exact Nat.le_add_right _ 3
      · exact Nat.le_refl _
      · exact Nat.le_add_right _ 1
    exact I1.fpOk hle (I1.hok.fresh hle)
theorem k_iZipM {K : PySem.W.Frag} {ta : TA} {σ : L2.St} {H : Hp} {R : It → Hp → Prop} (q : ta σ H fun vs H1 => rZipM K vs H1 R) : iZipM K ta σ H R := q
theorem k_zipMx {K : PySem.W.Frag} {H : Hp} {R : It → Hp → Prop} {a b : Addr} {xs ys : List V} (hx : SqT K H a xs) (hy : SqL K H b ys) (q : R (Itm K a b) H) : rZipM K [.ref a, .ref b] H R := ⟨a, b, xs, ys, rfl, hx, hy, q⟩
theorem zipM_it {K : PySem.W.Frag} {a b : Addr} {xs ys : List V} (hl : xs.length = ys.length) : PairIt (Itm K a b) xs.length (fun i => xs.getD i .non) (fun i => ys.getD i .non) (fun H => SqT K H a xs ∧ SqL K H b ys) where
  go := fun i H h c => ⟨xs, ys, _, _, h.1, h.2, get_some c, get_some (by omega)⟩
  stop := fun H h => ⟨xs, ys, h.1, h.2, rfl, hl.symm⟩
  yld := fun i H x H' h c ⟨T, y, z, e, hT, eH, hy, hz⟩ => ⟨T, e, hT, by
    have e1 := hy xs h.1
    have e2 := hz ys h.2
    rw [get_some c] at e1
    rw [get_some (by omega)] at e2
    rw [eH, Option.some.inj e1, Option.some.inj e2]⟩
/-! a list and a tuple walked side by side -/
def Itn (K : PySem.W.Frag) (a b : Addr) : It where
  go i H := ∃ xs ys x y, SqL K H a xs ∧ SqT K H b ys ∧ xs[i]? = some x ∧ ys[i]? = some y
  yld i H v H' := ∃ T x y, v = .ref T ∧ H T = none ∧ H' = upd H T (.tup [x, y]) ∧ (∀ xs, SqL K H a xs → xs[i]? = some x) ∧ ∀ ys, SqT K H b ys → ys[i]? = some y
  stop i H := ∃ xs ys, SqL K H a xs ∧ SqT K H b ys ∧ xs.length = i ∧ ys.length = i
def ZnSt (z TI TO i1 i2 a b : Addr) (i : Nat) (h : Heap) : Prop := IsZip h z TI TO .none ∧ IsTupOf2 h TI (.ref i1) (.ref i2) ∧ (∃ x y, IsTupOf2 h TO x y) ∧ h.IsListIter i1 a i ∧ h.IsTupleIter i2 b i
theorem zn_obj {z TI TO i1 i2 a b : Addr} {i : Nat} {h : Heap} (st : ZnSt z TI TO i1 i2 a b i h) {c : Addr} (hc : c ∈ [z, TI, TO, i1, i2]) : ∃ o, h.get? c = some o ∧ ∀ v, o.data ≠ .cell v := by
  obtain ⟨s1, s2, ⟨_, _, s3⟩, ⟨o4, e4, _, d4⟩, ⟨o5, e5, _, d5⟩⟩ := st
  simp only [List.mem_cons, List.not_mem_nil, or_false] at hc
  rcases hc with rfl | rfl | rfl | rfl | rfl
  · exact ⟨_, s1, fun _ => nofun⟩
  · exact ⟨_, s2, fun _ => nofun⟩
  · exact ⟨_, s3, fun _ => nofun⟩
  · exact ⟨o4, e4, fun _ z => by rw [d4] at z; cases z⟩
  · exact ⟨o5, e5, fun _ z => by rw [d5] at z; cases z⟩
theorem turn_zipN {P : Program} {w : World} {K : PySem.W.Frag} {elts : List Expr} {kk : Nat} {tpos : Pos} {a b z TI TO i1 i2 : Addr} (S : ZipSep2 z TI TO i1 i2 [i1, a] [i2, b]) (ha : a ≠ i1) (hb : b ≠ i2) :
    Turn P w K (.Tuple elts kk tpos) (Itn K a b) [z, TI, TO, i1, i2] z (ZnSt z TI TO i1 i2 a b) where
  mem := by simp
  obj := fun i h st c hc => zn_obj st hc
  keep := fun i h h' st k => ⟨k z (by simp) _ st.1, k TI (by simp) _ st.2.1, (let ⟨x, y, e⟩ := st.2.2.1; ⟨x, y, k TO (by simp) _ e⟩), st.2.2.2.1.at fun o q => k i1 (by simp) o q, st.2.2.2.2.at fun o q => k i2 (by simp) o q⟩
  item := by
    intro X hP hw hK hc i pins s σ H E I hf st hg
    subst hP hw hK
    obtain ⟨xs, ys, x, y, qx, qy, ex, ey⟩ := hg
    obtain ⟨us, ru, pu, _⟩ := I.list qx
    obtain ⟨vs, rv, pv, _⟩ := I.tuple qy
    have hh : X.A.in1.handled = none := I.ok.hd hc
    have lu : i < us.length := by rw [← ru.length]; exact (List.getElem?_eq_some_iff.mp ex).1
    have lv : i < vs.length := by rw [← rv.length]; exact (List.getElem?_eq_some_iff.mp ey).1
    have W := WalksT.zipD2 (prog := X.prog) (w := X.w) (A := X.A) S (Draws.list hh i1 a ha us.toArray) (Draws.tuple hh i2 b hb vs.toArray)
    refine W.item i s _ E (by simp; omega) ⟨st.1, st.2.1, st.2.2.1, ⟨st.2.2.2.1, pu.isList⟩, ⟨st.2.2.2.2, pv⟩⟩ fun T vals h' tk hP hT ht hm hk => ?_
    obtain ⟨u, v, hu, hv, rfl⟩ := hP
    obtain ⟨u', hu', r1⟩ := ru.get ex
    obtain ⟨v', hv', r2⟩ := rv.get ey
    obtain rfl : u' = u := Option.some.inj (hu'.symm.trans (by simpa using hu))
    obtain rfl : v' = v := Option.some.inj (hv'.symm.trans (by simpa using hv))
    refine ⟨.ref T, rfl, W.go elts kk tpos i T { s with heap := h', toks := tk } _ E hm fun h2 st2 hk2 => ?_⟩
    have new : ObjOk X.prog X.w (upd H T (.tup [x, y])) h2 T (.tup [x, y]) := ⟨by show 2 ≤ sizeLine; decide, [u', v'], .cons r1 (.cons r2 .nil), ht.at fun o e => hk2 T o (W.apart i T h' hm) e⟩
    have I1 := I.turnedNew (t' := tk) (ch := [z, TI, TO, i1, i2]) (fun c o n e => hk2 c o (fun q => n (by simp at q ⊢; rcases q with h | h | h | h <;> simp [h])) (hk c o (fun q => n (by simp at q ⊢; rcases q with h | h | h | h <;> simp [h])) e)) hf hT new
    refine ⟨.ref T, _, I1, rfl, ⟨T, x, y, rfl, I.hok.fresh hT, rfl, fun l hl => by rw [I.list_inj hl qx]; exact ex, fun l hl => by rw [I.tuple_inj hl qy]; exact ey⟩, ⟨st2.1, st2.2.1, st2.2.2.1, st2.2.2.2.1.1, st2.2.2.2.2.1⟩, fun c hcm => ?_⟩
    obtain ⟨o, e, _⟩ := zn_obj st hcm
    rw [upd_ne (Nat.ne_of_lt (Nat.lt_of_lt_of_le (Heap.lt_size e) hT))]
    exact (hf c hcm).1
  done := by
    intro X hP hw hK hc i pins s σ H E I hf st hg
    subst hP hw hK
    obtain ⟨xs, ys, qx, qy, ex, ey⟩ := hg
    obtain ⟨us, ru, pu, _⟩ := I.list qx
    obtain ⟨vs, rv, pv, _⟩ := I.tuple qy
    have hh : X.A.in1.handled = none := I.ok.hd hc
    have lu : us.length = i := by rw [← ru.length]; exact ex
    have lv : vs.length = i := by rw [← rv.length]; exact ey
    have W := WalksT.zipD2 (prog := X.prog) (w := X.w) (A := X.A) S (Draws.list hh i1 a ha us.toArray) (Draws.tuple hh i2 b hb vs.toArray)
    rw [show min us.toArray.size vs.toArray.size = i by simp; omega] at W
    exact W.done s _ E ⟨st.1, st.2.1, st.2.2.1, ⟨st.2.2.2.1, pu.isList⟩, ⟨st.2.2.2.2, pv⟩⟩ fun h' tk hk => ⟨rfl, I.turnedL (t' := tk) (ch := [z, TI, TO, i1, i2]) (fun c o n e => hk c o (fun q => n (by simp at q ⊢; rcases q with h | h | h | h <;> simp [h])) e) hf⟩
  self := fun A i s Q E st h => wpAny_pyIter_zip st.1 h
def rZipN (K : PySem.W.Frag) (vs : List V) (H1 : Hp) (R : It → Hp → Prop) : Prop := ∃ a b xs ys, vs = [.ref a, .ref b] ∧ SqL K H1 a xs ∧ SqT K H1 b ys ∧ R (Itn K a b) H1
def iZipN (K : PySem.W.Frag) (ta : TA) : TI := fun σ H R => ta σ H fun vs H1 => rZipN K vs H1 R
theorem pi_zipN {X : Cx} {K : PySem.W.Frag} {e e2 : Expr} {ta : TA} {p pos tpos : Pos} {elts : List Expr} {kk : Nat} (h : X.K = K) (hg : Gl X "zip") (hm : X.mg "zip" = none) (ha : PA X [e, e2] ta)
    (hs : starEach [e, e2] X.env = (false, eval e X.env) :: starEach [e2] X.env := by rfl) (hpl : (backTo pos (starEach [e2] X.env)).any (·.1) = false := by rfl) :
    PI X (.Tuple elts kk tpos) (.Call (.Name "zip" p) [e, e2] [] pos) (iZipN K ta) := by
  subst h
  refine ⟨fun pins s σ H R I h => Call_ (ld_blt I hg hm PyProof.Rows.boot_zip (PyProof.Rows.callWith_type1 (thn (ha.run pos pins s σ H _ I h) fun us s1 z => ?_) hs hpl))⟩
  obtain ⟨vs, H1, I1, r1, a, b, xs, ys, rfl, qx, qy, q⟩ := z
  cases r1 with
  | cons ra rr =>
    obtain ⟨ub, rfl, rb⟩ := vals1 rr
    cases ra
    cases rb
    obtain ⟨us, ru, pu, _⟩ := I1.list qx
    obtain ⟨vs, rv, pv, _⟩ := I1.tuple qy
    have lb : b < s1.heap.objs.size := by obtain ⟨_, e, _⟩ := id pv; exact Heap.lt_size e
    refine zip_begins2 (begins_list a us.toArray) (begins_tuple b vs.toArray) pu.isList pv fun h' hz hTI hTO g1 g2 hsz hk => wpAny_pyIter_zip hz ?_
    have S := zip_sep2 (N := s1.heap.objs.size) (fp1 := [a]) (fp2 := [b]) (fun c hc => by rw [List.mem_singleton.mp hc]; exact pu.lt) (fun c hc => by rw [List.mem_singleton.mp hc]; exact lb)
    refine ⟨_, _, _, _, H1, rfl, I1.kept (t' := s1.toks) hk, turn_zipN S (Nat.ne_of_lt pu.lt) (Nat.ne_of_lt (Nat.lt_succ_of_lt lb)), ⟨hz, hTI, ⟨_, _, hTO⟩, ⟨_, g1, rfl, rfl⟩, ⟨_, g2, rfl, rfl⟩⟩, fun c hc => ?_, q⟩
    have hle : s1.heap.objs.size ≤ c := by
      simp only [List.mem_cons, List.not_mem_nil, or_false] at hc
      rcases hc with rfl | rfl | rfl | rfl | rfl
      · exact Nat.le_add_right _ 4
      · exact Nat.le_add_right _ 2
      · exact Nat.le_add_right _ 3
      · exact Nat.le_refl _
      · exact Nat.le_add_right _ 1
    exact I1.fpOk hle (I1.hok.fresh hle)
theorem k_iZipN {K : PySem.W.Frag} {ta : TA} {σ : L2.St} {H : Hp} {R : It → Hp → Prop} (q : ta σ H fun vs H1 => rZipN K vs H1 R) : iZipN K ta σ H R := q
theorem k_zipNx {K : PySem.W.Frag} {H : Hp} {R : It → Hp → Prop} {a b : Addr} {xs ys : List V} (hx : SqL K H a xs) (hy : SqT K H b ys) (q : R (Itn K a b) H) : rZipN K [.ref a, .ref b] H R := ⟨a, b, xs, ys, rfl, hx, hy, q⟩
theorem zipN_it {K : PySem.W.Frag} {a b : Addr} {xs ys : List V} (hl : xs.length = ys.length) : PairIt (Itn K a b) xs.length (fun i => xs.getD i .non) (fun i => ys.getD i .non) (fun H => SqL K H a xs ∧ SqT K H b ys) where
  go := fun i H h c => ⟨xs, ys, _, _, h.1, h.2, get_some c, get_some (by omega)⟩
  stop := fun H h => ⟨xs, ys, h.1, h.2, rfl, hl.symm⟩
  yld := fun i H x H' h c ⟨T, y, z, e, hT, eH, hy, hz⟩ => ⟨T, e, hT, by
    have e1 := hy xs h.1
    have e2 := hz ys h.2
    rw [get_some c] at e1
    rw [get_some (by omega)] at e2
    rw [eH, Option.some.inj e1, Option.some.inj e2]⟩
/-! a tuple made of a list, known to be bare; its count -/
def SqF (H : Hp) (a : Addr) (xs : List V) : Prop := ∃ o, H a = some (.frz o (.tup xs)) ∧ o.dict = none
theorem SqF.sq {K : PySem.W.Frag} {H : Hp} {a : Addr} {xs : List V} (h : SqF H a xs) : SqT K H a xs := let ⟨o, e, _⟩ := h; .inl (.inr ⟨o, e⟩)
theorem SqF.same {H H' : Hp} (e : Same H H') {a : Addr} {xs : List V} (h : SqF H a xs) : SqF H' a xs := let ⟨o, g, d⟩ := h; ⟨o, e _ _ g, d⟩
theorem SqF.but {H H' : Hp} {l : Addr} {ys : List V} (e : But l H H') (hl : H l = some (.lst ys)) {a : Addr} {xs : List V} (h : SqF H a xs) : SqF H' a xs := let ⟨o, g, d⟩ := h; ⟨o, e _ _ (ne_of g hl (by intro z; cases z)) g, d⟩
def rTupF (K : PySem.W.Frag) : List V → Hp → VK → Prop := fun xs H Q => ∃ p ys, xs = [.ref p] ∧ SqL K H p ys ∧ ∀ l o, H l = none → o.dict = none → Q (.ref l) (upd H l (.frz o (.tup ys)))
theorem call_tupF {X : Cx} : CallR X (.type "tuple") (rTupF X.K) := by
  rintro pins s σ H xs us Q I r ⟨p, ys, rfl, hq, q⟩
  obtain ⟨u, rfl, rx⟩ := vals1 r
  cases rx
  obtain ⟨its, ri, pl, hz⟩ := I.list hq
  have hlen := ri.length
  refine call_tuple_list pl.isList (fun h' kp => ?_) (by simp only [List.size_toArray]; omega)
  have I1 := I.kept (t' := s.toks) kp
  have e := Heap.get?_push_size h' (o := { cls := .type "tuple", data := .seq its.toArray }) rfl
  exact ⟨.ref h'.objs.size, _, I1.laid (t' := s.toks) (fun b o e => Heap.get?_push_of_some _ e) (Nat.le_refl _) (show ObjOk X.prog X.w _ _ _ (.frz _ (.tup ys)) from ⟨e, hz, its, ri, IsTup.new _ _⟩), rfl, q _ _ (I1.hok.fresh (Nat.le_refl _)) rfl⟩
def rTupV (K : PySem.W.Frag) : List V → Hp → VK → Prop := fun xs H Q => rTupU K xs H Q ∨ rTupF K xs H Q
theorem call_tupV {X : Cx} : CallR X (.type "tuple") (rTupV X.K) := fun pins s σ H xs us Q I r h => h.elim (call_tupU pins s σ H xs us Q I r) (call_tupF pins s σ H xs us Q I r)
theorem k_tupF {K : PySem.W.Frag} {H : Hp} {Q : VK} {p : Addr} {xs : List V} (h : SqL K H p xs) (q : ∀ l H', H l = none → Same H H' → SqF H' l xs → Q (.ref l) H') : rTupV K [.ref p] H Q := .inr ⟨p, xs, rfl, h, fun l o hl d => q l _ hl (same_new hl) ⟨o, upd_same, d⟩⟩
theorem k_tupL {K : PySem.W.Frag} {H : Hp} {Q : VK} {p : Addr} {xs : List V} (h : SqL K H p xs) (q : ∀ l H', H l = none → Same H H' → H' l = some (.tup xs) → Q (.ref l) H') : rTupV K [.ref p] H Q := .inl ⟨p, xs, rfl, .inl ⟨h, fun l hl => q l _ hl (same_new hl) upd_same⟩⟩
theorem k_tupT {K : PySem.W.Frag} {H : Hp} {Q : VK} {p : Addr} {xs : List V} (h : SqT K H p xs) (q : Q (.ref p) H) : rTupV K [.ref p] H Q := .inl ⟨p, xs, rfl, .inr ⟨h, q⟩⟩
def rCntT (K : PySem.W.Frag) (x y : V) (H : Hp) (Q : VK) : Prop := ∃ p xs d ds, x = .ref p ∧ SqT K H p xs ∧ DpAll K H xs ds ∧ Dp K H y d ∧ PyData.plainAll ds = true ∧ d.plain = true ∧ PyData.depthAll ds ≤ 32 ∧ Q (.int ((ds.countP fun z => PyData.eqv z d : Nat) : Int)) H
def rBare (x : V) (H : Hp) (P : Prop) : Prop := (∃ p xs, x = .ref p ∧ SqF H p xs) ∧ P
def tCntT (K : PySem.W.Frag) (to te : TE) : TE := fun σ H Q => to σ H fun x H1 => rBare x H1 (te σ H1 fun y H2 => rCntT K x y H2 Q)
theorem pe_cntT {X : Cx} {K : PySem.W.Frag} {k : Nat} {o e : Expr} {to te : TE} {apos cpos : Pos} (h : X.K = K) (hr : Room k X.A) (ho : PE X o to) (he : PE X e te)
    (hb : attributeBase o "count" X.env (eval o X.env) = eval o X.env := by rfl)
    (hw : ((backTo cpos (starEach [e] X.env)).all (fun x => !x.1) && (backToKw cpos (keywordEach [] X.env)).all (fun x => x.1.isSome) && decide ([e].length + ([] : List Keyword).length + (if ([] : List Keyword).isEmpty then 0 else 1) < 30)) = true := by rfl)
    (hn : (apos.endLine == cpos.line) = true := by rfl) (hs : starEach [e] X.env = (false, eval e X.env) :: starEach [] X.env := by rfl) :
    PE X (.Call (.Attribute o "count" apos) [e] [] cpos) (tCntT K to te) := by
  subst h
  refine ⟨fun pins s σ H Q I h => wpAny_Call_method_late hb hw hn rfl (thn (ho.run pins s σ H _ I h) fun v s1 z => ?_)⟩
  obtain ⟨x, H1, I1, r1, ⟨p, xs, rfl, ob, ep, dn⟩, q⟩ := z
  cases r1
  obtain ⟨hp, _, its, _, o2, e2, c2, _⟩ := I1.hok p _ ep
  obtain rfl : ob = o2 := Option.some.inj (hp.symm.trans e2)
  refine ⟨"tuple", "tuple.count", PySem.F.plainAttrs_tuple, PySem.F.slot_tuple_count, PySem.F.type_tuple_count, ⟨_, hp, c2⟩, fun a ea => ?_, ?_⟩
  · cases ea
    exact ⟨_, hp, dn⟩
  rw [hs]
  refine Calls.callWith_builtin rfl (Calls.evalArgs_plain (Calls.spliced_cons (thn (he.run pins s1 σ H1 _ I1 q) fun u s2 z => Calls.spliced_nil ?_)))
  obtain ⟨y, H2, I2, r2, p2, ys, d, ds, ex, hq, da, dy, pl, pd, dp, q2⟩ := z
  cases ex
  obtain ⟨vs, rv, pt, _⟩ := I2.tuple hq
  obtain ⟨as, h4⟩ := Dp.readsAll I2 ds _ vs da rv
  obtain ⟨bs, h5⟩ := Dp.reads I2 d y u dy r2
  exact PySem.SeqAt.count_tuple_data pt (show ReadsAll s2.heap vs.toArray.toList ds as from h4) h5 pl pd (by have := hr.units; omega) ⟨.int ((ds.countP fun z => PyData.eqv z d : Nat) : Int), H2, I2.tok _, ⟨_, rfl⟩, q2⟩
theorem k_cntT {K : PySem.W.Frag} {to te : TE} {σ : L2.St} {H : Hp} {Q : VK} (q : to σ H fun x H1 => rBare x H1 (te σ H1 fun y H2 => rCntT K x y H2 Q)) : tCntT K to te σ H Q := q
theorem k_bare {p : Addr} {xs : List V} {H : Hp} {P : Prop} (h : SqF H p xs) (q : P) : rBare (.ref p) H P := ⟨⟨p, xs, rfl, h⟩, q⟩
theorem k_cntTx {K : PySem.W.Frag} {H : Hp} {Q : VK} {p : Addr} {xs : List V} {y : V} {d : PyData} {ds : List PyData} (hq : SqT K H p xs) (da : DpAll K H xs ds) (dy : Dp K H y d) (pl : PyData.plainAll ds = true) (pd : d.plain = true) (dp : PyData.depthAll ds ≤ 32)
    (q : Q (.int ((ds.countP fun z => PyData.eqv z d : Nat) : Int)) H) : rCntT K (.ref p) y H Q := ⟨p, xs, d, ds, rfl, hq, da, dy, pl, pd, dp, q⟩
/-! sorted, insert -/
def rSortU (K : PySem.W.Frag) : List V → Hp → VK → Prop := rSorted K
theorem k_sorted {K : PySem.W.Frag} {H : Hp} {Q : VK} {a : Addr} {ns : List Int} (h : SqL K H a (ns.map V.int)) (c : ns.length < 64) (q : ∀ (ms : List Int) p H', H p = none → Same H H' → ms.Perm ns → ms.Pairwise (· ≤ ·) → H' p = some (.lst (ms.map V.int)) → Q (.ref p) H') : rSorted K [.ref a] H Q :=
  ⟨a, ns, rfl, h, c, fun ms p pm pw hp => q ms p _ hp (same_new hp) pm pw upd_same⟩
def rIns : V → List V → Hp → VK → Prop := fun x vs H Q => ∃ (l : Addr) (xs : List V) (i : Int) (y : V), x = .ref l ∧ vs = [.int i, y] ∧ H l = some (.lst xs) ∧ xs.length < sizeLine ∧ 0 ≤ i ∧ i < 2 ^ 63 ∧ Q .non (upd H l (.lst (xs.take i.toNat ++ [y] ++ xs.drop i.toNat)))
theorem mt_insU {X : Cx} : MtR X "list.insert" rIns := mt_insert
theorem k_ins {l : Addr} {xs : List V} {i : Int} {y : V} {H : Hp} {Q : VK} (h : H l = some (.lst xs)) (c : xs.length < sizeLine) (i0 : 0 ≤ i) (i1 : i < 2 ^ 63) (q : ∀ H', But l H H' → H' l = some (.lst (xs.take i.toNat ++ [y] ++ xs.drop i.toNat)) → Q .non H') : rIns (.ref l) [.int i, y] H Q := ⟨l, xs, i, y, rfl, rfl, h, c, i0, i1, q _ But.upd upd_same⟩
theorem pmkOK {X : Cx} {K : PySem.W.Frag} {e : Expr} {es : List Expr} {ta : TA} {p pos : Pos} {x : Str} {ps : List Str} {sp : Sp} {j k : Nat} (hK : X.K = K) (c : XCl X.prog X.w K X.mg X.base k x ps sp) (hr : Room j X.A) (hk : k + 1 ≤ j) (ha : PA X (e :: es) ta) (hg : Gl X x := by rfl)
    (hdb : (x == ("__debug__" : Str)) = false := by decide) (hs : starEach (e :: es) X.env = (false, eval e X.env) :: starEach es X.env := by rfl) (hpl : (backTo pos (starEach es X.env)).any (·.1) = false := by rfl) :
    PMk X (.Call (.Name x p) (e :: es) [] pos) (tMkO (He.ga K x) sp [] ta) := by
  subst hK
  exact pmkO c hr hk ha hg hdb hs hpl
/-! the head's hook: what the names reach, the interpreter's statics (a class's own attributes are read by them), and a word more -/
def reachS (g : Addr → Option Obj) (n : Nat) : List Addr := He.asD g n ++ [PySem.cStatics]
def obsS (n : Nat) (fa : List He.Fa) (fn : List He.DefD) (ex : PySem.W.Frag → Bool) (g : Addr → Option Obj) : He.AlD × Bool := (He.obsD fa fn (He.frT g (reachS g n)), ex (He.frT g (reachS g n)))
def hookS (n : Nat) (fa : List He.Fa) (fn : List He.DefD) (ex : PySem.W.Frag → Bool) : PySem.W.Hook where
  α := He.AlD × Bool
  obs s := obsS n fa fn ex s.heap.get?
  val _ := (He.valD fn, true)
  says _ h := ∃ K : PySem.W.Frag, K.In h ∧ He.SaysD fa fn K ∧ ex K = true
  of _ _ e := ⟨_, He.frT_in, congrArg (fun z : He.AlD × Bool => z.1) e, congrArg (fun z : He.AlD × Bool => z.2) e⟩
  keeps := fun _ _ _ ⟨K, hK, c⟩ k => ⟨K, PySem.W.Frag.In.keeps hK k, c⟩
theorem obsS_eq {n : Nat} {fa : List He.Fa} {fn : List He.DefD} {ex : PySem.W.Frag → Bool} {g : Addr → Option Obj} {s : Shared} (h : ∀ a, g a = s.heap.get? a) : obsS n fa fn ex g = (hookS n fa fn ex).obs s := by
  obtain rfl : g = s.heap.get? := funext h
  rfl
/-- the same, its addresses given -/
def obsA (as : List Addr) (fa : List He.Fa) (fn : List He.DefD) (ex : PySem.W.Frag → Bool) (g : Addr → Option Obj) : He.AlD × Bool := (He.obsD fa fn (He.frT g as), ex (He.frT g as))
def hookA (as : List Addr) (fa : List He.Fa) (fn : List He.DefD) (ex : PySem.W.Frag → Bool) : PySem.W.Hook where
  α := He.AlD × Bool
  obs s := obsA as fa fn ex s.heap.get?
  val _ := (He.valD fn, true)
  says _ h := ∃ K : PySem.W.Frag, K.In h ∧ He.SaysD fa fn K ∧ ex K = true
  of _ _ e := ⟨_, He.frT_in, congrArg (fun z : He.AlD × Bool => z.1) e, congrArg (fun z : He.AlD × Bool => z.2) e⟩
  keeps := fun _ _ _ ⟨K, hK, c⟩ k => ⟨K, PySem.W.Frag.In.keeps hK k, c⟩
theorem obsA_eq {as : List Addr} {fa : List He.Fa} {fn : List He.DefD} {ex : PySem.W.Frag → Bool} {g : Addr → Option Obj} {s : Shared} (h : ∀ a, g a = s.heap.get? a) : obsA as fa fn ex g = (hookA as fa fn ex).obs s := by
  obtain rfl : g = s.heap.get? := funext h
  rfl
/-! is None, of what is known -/
section
variable {A B : Prop} {a : Addr} {x : Str}
theorem k_nonT (h : A) : if decide (V.non = V.non) = true then A else B := by simpa using h
theorem k_nonF (h : B) : if (!decide (V.non = V.non)) = true then A else B := by simpa using h
theorem k_refT (h : B) : if decide (V.ref a = V.non) = true then A else B := by simpa using h
theorem k_refF (h : A) : if (!decide (V.ref a = V.non)) = true then A else B := by simpa using h
theorem k_blT {b : Bool} (h : B) : if decide (V.bl b = V.non) = true then A else B := by simpa using h
theorem k_blF {b : Bool} (h : A) : if (!decide (V.bl b = V.non)) = true then A else B := by simpa using h
theorem k_strT (h : B) : if decide (V.str x = V.non) = true then A else B := by simpa using h
theorem k_strF (h : A) : if (!decide (V.str x = V.non)) = true then A else B := by simpa using h
end
/-! isinstance of instances, popping at a place -/
structure InsT (K : PySem.W.Frag) (C : Addr) : Prop where
  ha : PySem.W.findIn K (.ref C) "__class__" = some (some (.builtin "object.__class__"))
  hn : PySem.W.specialIn K (.builtin "object.__class__") "__get__" = some (some (.builtin "getset_descriptor.__get__"))
  ht : PySem.W.takesIn K (.builtin "object.__class__") = some true
  hm : PySem.W.mroIn K C (.type "object") = some true
def insB (K : PySem.W.Frag) (x : Str) : Bool := He.eqO (PySem.W.findIn K (.ref (He.ga K x)) "__class__") (some (some (.builtin "object.__class__"))) && (He.eqO (PySem.W.specialIn K (.builtin "object.__class__") "__get__") (some (some (.builtin "getset_descriptor.__get__"))) &&
  (decide (PySem.W.takesIn K (.builtin "object.__class__") = some true) && decide (PySem.W.mroIn K (He.ga K x) (.type "object") = some true)))
theorem insB_ok {K : PySem.W.Frag} {x : Str} (h : insB K x = true) : InsT K (He.ga K x) := by
  obtain ⟨h1, h⟩ := He.ba h
  obtain ⟨h2, h⟩ := He.ba h
  obtain ⟨h3, h4⟩ := He.ba h
  exact ⟨He.eqO_ok h1, He.eqO_ok h2, of_decide_eq_true h3, of_decide_eq_true h4⟩
theorem k_isIns {K : PySem.W.Frag} {H : Hp} {Q : VK} {a C D dx : Addr} {fs : List (Str × V)} {b : Bool} (h : H a = some (.ins C dx fs)) (cl : Cls K C) (t : InsT K C) (hk : PySem.W.kitOne K (.ref C) (.ref D) = some b) (q : Q (.bl b) H) : rIsi K [.ref a, .ref D] H Q :=
  k_isi (.own D) (.base (.ins h cl t.ha t.hn t.ht t.hm)) hk q
theorem k_popAt {l : Addr} {xs : List V} {y : V} {j : Nat} {H : Hp} {Q : VK} (h : H l = some (.lst xs)) (hj : xs[j]? = some y) (c : xs.length ≤ 1000000) (q : ∀ H', But l H H' → H' l = some (.lst (xs.eraseIdx j)) → Q y H') : rPopAt (.ref l) [.int (j : Int)] H Q := by
  have hlt := (List.getElem?_eq_some_iff.mp hj).1
  refine ⟨l, xs, (j : Int), j, y, rfl, rfl, h, by omega, by omega, ?_, hj, q _ But.upd upd_same⟩
  unfold seqIndex?
  rw [if_neg (show ¬ ((j : Int) < 0) by omega)]
  simp [hlt]
/-! zip of two lists, of two tuples -/
def rZipU (K : PySem.W.Frag) (vs : List V) (H1 : Hp) (R : It → Hp → Prop) : Prop := ∃ a b xs ys, vs = [.ref a, .ref b] ∧ ((SqL K H1 a xs ∧ SqL K H1 b ys ∧ R (Itz K a b) H1) ∨ (SqT K H1 a xs ∧ SqT K H1 b ys ∧ R (RZ.ItzT K a b) H1))
def iZipU (K : PySem.W.Frag) (ta : TA) : TI := fun σ H R => ta σ H fun vs H1 => rZipU K vs H1 R
theorem pi_zipU {X : Cx} {K : PySem.W.Frag} {e e2 : Expr} {ta : TA} {p pos tpos : Pos} {elts : List Expr} {kk : Nat} (h : X.K = K) (hg : Gl X "zip") (hm : X.mg "zip" = none) (ha : PA X [e, e2] ta)
    (hs : starEach [e, e2] X.env = (false, eval e X.env) :: starEach [e2] X.env := by rfl) (hpl : (backTo pos (starEach [e2] X.env)).any (·.1) = false := by rfl) :
    PI X (.Tuple elts kk tpos) (.Call (.Name "zip" p) [e, e2] [] pos) (iZipU K ta) := h ▸ RZ.pi_zipA hg hm ha hs hpl
theorem k_iZipU {K : PySem.W.Frag} {ta : TA} {σ : L2.St} {H : Hp} {R : It → Hp → Prop} (q : ta σ H fun vs H1 => rZipU K vs H1 R) : iZipU K ta σ H R := q
theorem k_zipLx {K : PySem.W.Frag} {H : Hp} {R : It → Hp → Prop} {a b : Addr} {xs ys : List V} (hx : SqL K H a xs) (hy : SqL K H b ys) (q : R (Itz K a b) H) : rZipU K [.ref a, .ref b] H R := ⟨a, b, xs, ys, rfl, .inl ⟨hx, hy, q⟩⟩
theorem k_zipTx {K : PySem.W.Frag} {H : Hp} {R : It → Hp → Prop} {a b : Addr} {xs ys : List V} (hx : SqT K H a xs) (hy : SqT K H b ys) (q : R (RZ.ItzT K a b) H) : rZipU K [.ref a, .ref b] H R := ⟨a, b, xs, ys, rfl, .inr ⟨hx, hy, q⟩⟩
theorem zipT_it {K : PySem.W.Frag} {a b : Addr} {xs ys : List V} (hl : xs.length = ys.length) : PairIt (RZ.ItzT K a b) xs.length (fun i => xs.getD i .non) (fun i => ys.getD i .non) (fun H => SqT K H a xs ∧ SqT K H b ys) where
  go := fun i H h c => ⟨xs, ys, _, _, h.1, h.2, get_some c, get_some (by omega)⟩
  stop := fun H h => ⟨xs, ys, h.1, h.2, .inl (Nat.le_refl _)⟩
  yld := fun i H x H' h c ⟨T, y, z, e, hT, eH, hy, hz⟩ => ⟨T, e, hT, by
    have e1 := hy xs h.1
    have e2 := hz ys h.2
    rw [get_some c] at e1
    rw [get_some (by omega)] at e2
    rw [eH, Option.some.inj e1, Option.some.inj e2]⟩
/-! texts: walked, cut at a sign, begun by one -/
section
variable {X : Cx} {σ : L2.St} {H : Hp} {Q : VK} {K : PySem.W.Frag} {g : TG} {tt : TT} {te : TE} {vs : List Nat} {tb : TS} {D : Ends}
def rItS (v : V) (H1 : Hp) (R : It → Hp → Prop) : Prop := ∃ x, v = .str x ∧ R (Its x) H1
theorem k_iStr {R : It → Hp → Prop} (q : te σ H fun v H1 => rItS v H1 R) : iStr te σ H R := q
theorem k_itS {x : Str} {R : It → Hp → Prop} (q : R (Its x) H) : rItS (.str x) H R := ⟨x, rfl, q⟩
theorem k_lcS {z : List Nat} (P : Addr → Nat → List V → Hp → Prop) (h0 : ∀ D H', H D = none → Same H H' → H' D = some (.lst []) → P D 0 [] H')
    (hs : ∀ D (i : Nat) c ys H', H D = none → z[i]? = some c → P D i ys H' → H' D = some (.lst ys) → LcB D g tt te vs σ (.str (SX.S [c])) H' fun H'' => ∃ zs, P D (i + 1) zs H'' ∧ H'' D = some (.lst zs))
    (hd : ∀ D ys H', H D = none → P D z.length ys H' → H' D = some (.lst ys) → Q (.ref D) H') : LcX (Its (SX.S z)) g tt te vs σ H Q := fun D hD => by
  refine ⟨fun i m H' => m = z.length - i ∧ i ≤ z.length ∧ ∃ ys, P D i ys H' ∧ H' D = some (.lst ys), ⟨z.length, by simp, Nat.zero_le _, [], h0 D _ hD (same_new hD) upd_same, upd_same⟩, ?_⟩
  rintro i m H' ⟨rfl, hi, ys, p, e⟩
  by_cases c : i < z.length
  · refine .inr ⟨by show i < (SX.S z).cps.size; simpa using c, fun H'' => ∃ zs, P D (i + 1) zs H'' ∧ H'' D = some (.lst zs), fun H2 ⟨zs, q, e2⟩ => ⟨z.length - (i + 1), by omega, rfl, c, zs, q, e2⟩, fun x H2 y => ?_⟩
    obtain ⟨rfl, d, hd, rfl⟩ := y
    exact hs D i d ys H2 hD (by simpa using hd) p e
  · have ei : i = z.length := by omega
    subst ei
    exact .inl ⟨by show (SX.S z).cps.size ≤ _; simp, hd D ys H' hD p e⟩
theorem k_loopS {z : List Nat} (P : Nat → L2.St → Hp → Prop) (h0 : P 0 σ H) (hs : ∀ (i : Nat) c σ H, z[i]? = some c → P i σ H → g (.str (SX.S [c])) σ H fun σ2 H2 => tb { D with nx := P (i + 1), ct := P (i + 1), bk := D.nx } σ2 H2) (hd : ∀ σ H, P z.length σ H → D.nx σ H) : LoopI (Its (SX.S z)) g tb D σ H := by
  refine ⟨fun i m σ' H' => m = z.length - i ∧ i ≤ z.length ∧ P i σ' H', ⟨z.length, by simp, Nat.zero_le _, h0⟩, ?_⟩
  rintro i m σ' H' ⟨rfl, hi, p⟩
  by_cases c : i < z.length
  · refine .inr ⟨by show i < (SX.S z).cps.size; simpa using c, P (i + 1), fun σ2 H2 q => ⟨z.length - (i + 1), by omega, rfl, c, q⟩, fun x H2 y => ?_⟩
    obtain ⟨rfl, d, hd, rfl⟩ := y
    exact hs i d σ' H2 (by simpa using hd) p
  · have ei : i = z.length := by omega
    subst ei
    exact .inl ⟨by show (SX.S z).cps.size ≤ _; simp, hd σ' H' p⟩
def rSplit : V → List V → Hp → VK → Prop := fun x xs H Q => ∃ a b, x = .str a ∧ xs = [.str b] ∧ (b.length == 0) = false ∧ a.length + 2 ≤ sizeLine ∧ rNewStrs (Txt.split a b) H Q
theorem mt_splitU : MtR X "str.split" rSplit := mt_split
theorem k_split {a : List Nat} {c : Nat} (hc : c < 256) (h : a.length + 2 ≤ sizeLine) (q : ∀ p H', H p = none → Same H H' → H' p = some (.lst ((TL.spl [c] 0 [] a).map fun z => V.str (SX.S z))) → Q (.ref p) H') : rSplit (.str (SX.S a)) [.str (SX.S [c])] H Q := by
  refine ⟨_, _, rfl, rfl, rfl, by rw [SX.S_len]; exact h, fun p hp => q p _ hp (same_new hp) ?_⟩
  rw [upd_same, SX.split_S (by simp) (by simp [hc]), List.map_map]
  rfl
def rStarts : V → List V → Hp → VK → Prop := fun x xs H Q => ∃ a b, x = .str a ∧ xs = [.str b] ∧ Q (.bl (Txt.startswith a b)) H
theorem mt_startsU : MtR X "str.startswith" rStarts := mt_startswith
theorem starts_one (a : List Nat) (c : Nat) : Txt.startswith (SX.S a) (SX.S [c]) = decide (a.head? = some c) := by
  rw [Bool.eq_iff_iff, decide_eq_true_eq]
  have h := PySem.StrLaws.subAt_one (SX.S a) c 0
  show (decide (0 + (SX.S [c]).length ≤ (SX.S a).length) && Builtin.Str.subAt (SX.S a) (SX.S [c]) 0) = true ↔ _
  rw [Bool.and_eq_true, decide_eq_true_eq]
  refine Iff.trans h ?_
  show a[0]? = some c ↔ _
  rw [List.head?_eq_getElem?]
theorem k_starts {a : List Nat} {c : Nat} (q : Q (.bl (decide (a.head? = some c))) H) : rStarts (.str (SX.S a)) [.str (SX.S [c])] H Q := ⟨_, _, rfl, rfl, by rw [starts_one]; exact q⟩
theorem k_all {a : Addr} {bs : List Bool} (h : SqL K H a (bs.map V.bl)) (q : Q (.bl (bs.all id)) H) : rAll K [.ref a] H Q := ⟨a, bs, rfl, h, q⟩
theorem k_inC {c : Nat} {a : List Nat} (q : Q (.bl (decide (c ∈ a))) H) : rInU K (.str (SX.S [c])) (.str (SX.S a)) H Q := k_inS (by rw [SX.in_one]; exact q)
theorem k_niC {c : Nat} {a : List Nat} (q : Q (.bl (!decide (c ∈ a))) H) : rNiU K (.str (SX.S [c])) (.str (SX.S a)) H Q := k_niS (by rw [SX.in_one]; exact q)
/-- text slices -/
theorem k_slFrom {a : List Nat} {i : Nat} (c : a.length ≤ sizeLine) (q : Q (.str (SX.S (a.drop i))) H) : rSlU K (.str (SX.S a)) (some (i : Int)) none H Q := k_slS (by rw [C8.cutS_slice, SX.slice_from (by omega)]; exact q) (by rw [SX.S_len]; exact c)
theorem k_slTo {a : List Nat} {i : Nat} (c : a.length ≤ sizeLine) (q : Q (.str (SX.S (a.take i))) H) : rSlU K (.str (SX.S a)) none (some (i : Int)) H Q := k_slS (by rw [C8.cutS_slice, SX.slice_to (by omega)]; exact q) (by rw [SX.S_len]; exact c)
end
/-! how often, and where, a sign stands in a text -/
section
variable {X : Cx} {H : Hp} {Q : VK} {K : PySem.W.Frag}
def rCntS : V → List V → Hp → VK → Prop := fun x xs H Q => ∃ a b, x = .str a ∧ xs = [.str b] ∧ Q (.int (Txt.count a b)) H
theorem mt_cntS : MtR X "str.count" rCntS := mt_count
theorem cnt_is (c : Nat) : ∀ l : List Nat, PyProof.Rows.cnt c l = (l.countP (· == c) : Int)
  | [] => rfl
  | n :: r => by
    rw [PyProof.Rows.cnt_cons, cnt_is c r, List.countP_cons]
    by_cases h : n = c <;> simp [h] <;> omega
theorem k_cntS {a : List Nat} {c : Nat} (q : Q (.int (a.countP (· == c) : Int)) H) : rCntS (.str (SX.S a)) [.str (SX.S [c])] H Q := ⟨_, _, rfl, rfl, by
  have e : Txt.count (SX.S a) (SX.S [c]) = (a.countP (· == c) : Int) := (PyProof.Rows.count_cnt (SX.S a) c).trans (cnt_is c a)
  rw [e]
  exact q⟩
def rIdxS : V → List V → Hp → VK → Prop := fun x xs H Q => ∃ a b i rest, x = .str a ∧ xs = [.str b] ∧ Builtin.Str.occurrences a b 0 a.length 1 = i :: rest ∧ Q (.int (i : Nat)) H
theorem mt_idxS : MtR X "str.index" rIdxS := mt_sindex
theorem fig_occ {c : Nat} (h : 48 ≤ c ∧ c ≤ 57) : Builtin.Str.occurrences (Str.ofString "0123456789") (SX.S [c]) 0 (Str.ofString "0123456789").length 1 = [c - 48] := by
  have k : ∀ d : Fin 10, Builtin.Str.occurrences (Str.ofString "0123456789") (SX.S [48 + d.1]) 0 (Str.ofString "0123456789").length 1 = [d.1] := by decide +kernel
  have := k ⟨c - 48, by omega⟩
  rwa [show 48 + (⟨c - 48, by omega⟩ : Fin 10).1 = c by show 48 + (c - 48) = c; omega] at this
theorem k_idxFig {c : Nat} (h : 48 ≤ c ∧ c ≤ 57) (q : Q (.int ((c - 48 : Nat) : Int)) H) : rIdxS (.str (Str.ofString "0123456789")) [.str (SX.S [c])] H Q := ⟨_, _, _, _, rfl, rfl, fig_occ h, q⟩
end
/-! a dict that is asked for None, too -/
def optIs : Option Key → Value → Bool
  | none, .none => true
  | none, _ => false
  | some k, v => keyIs k v
theorem optIs_none {v : Value} (h : optIs none v = true) : v = .none := by
  cases v <;> first | rfl | exact absurd h Bool.false_ne_true
theorem optIs_some {k : Key} {v : Value} (h : optIs (some k) v = true) : keyIs k v = true := h
theorem key_none {k : Key} (h : keyIs k Value.none = true) : False := by
  rcases keyIs_shape h with ⟨i, t, _, e⟩ | ⟨x, t, _, e⟩ <;> cases e
def optH (w : World) : Option Key → Int
  | none => NestedKey.hash w .none
  | some k => keyH w k
theorem hash_none {prog : Program} {w : World} {A : Around} {E : Value → Shared → Prop} {s : Shared} {Q : Int → Shared → Prop} (h : Q (optH w none) { s with toks := s.toks + 1 }) : wpAny (model prog w) A (pyHash .none) Q E s :=
  PySem.W.pyHash_slot (T := "NoneType") rfl PySem.F.slot_NoneType_hash PySem.F.entry_NoneType_hash (PySem.F.args_NoneType_hash_1 _) (beq_builtin_none _) (.inl rfl) (wpAny_bind (wpAny_pure (wpAny_bind (wpAny_mkInt (wpAny_pure ⟨_, _, rfl, h⟩)))))
theorem eq_opt {prog : Program} {w : World} {A : Around} {E : Value → Shared → Prop} {s : Shared} : ∀ {a b : Option Key} {u v : Value} {Q : Bool → Shared → Prop}, optIs a u = true → optIs b v = true → Q (decide (a = b)) s → wpAny (model prog w) A (PySem.eqBool u v) Q E s
  | none, none, u, v, Q, hu, hv, h => by
    rw [optIs_none hu, optIs_none hv]
    exact SeqAt.EqAt.same _ _ _ _ _ h
  | none, some k, u, v, Q, hu, hv, h => by
    rw [optIs_none hu]
    rcases keyIs_shape (optIs_some hv) with ⟨i, t, _, e⟩ | ⟨x, t, _, e⟩ <;> subst e
    · exact SeqAt.EqAt.none_int i t _ _ _ _ h
    · exact SeqAt.EqAt.none_str x t _ _ _ _ h
  | some k, none, u, v, Q, hu, hv, h => by
    rw [optIs_none hv]
    rcases keyIs_shape (optIs_some hu) with ⟨i, t, _, e⟩ | ⟨x, t, _, e⟩ <;> subst e
    · exact SeqAt.EqAt.int_none i t _ _ _ _ h
    · exact SeqAt.EqAt.str_none x t _ _ _ _ h
  | some a, some b, u, v, Q, hu, hv, h => (mixKind prog w).eqBool (a := a) (b := b) (optIs_some hu) (optIs_some hv) (by
    have e : decide (a = b) = decide (some a = some b) := by by_cases c : a = b <;> simp [c]
    rw [e]
    exact h)
def optKind (prog : Program) (w : World) : PySem.KeyKind prog w (Option Key) where
  is := optIs
  hash := optH w
  inj := fun v a b ha hb => by
    cases a with
    | none =>
      cases b with
      | none => rfl
      | some k => rw [optIs_none ha] at hb; exact (key_none hb).elim
    | some j =>
      cases b with
      | none => rw [optIs_none hb] at ha; exact (key_none ha).elim
      | some k => exact congrArg some ((mixKind prog w).inj v j k ha hb)
  byValue := fun k v h => by
    cases k with
    | none => rw [optIs_none h]; rfl
    | some k => exact (mixKind prog w).byValue k v h
  pyHash := fun {A E s k v Q} hv h => by
    cases k with
    | none => rw [optIs_none hv]; exact hash_none h
    | some k => exact (mixKind prog w).pyHash (k := k) hv h
  eqBool := fun hu hv h => eq_opt hu hv h
  «strs» := fun k x t v h => by
    cases k with
    | none => exact absurd h Bool.false_ne_true
    | some k => exact (mixKind prog w).strs k x t v h
theorem map_opt {prog : Program} {w : World} {h : Heap} {a : Addr} {f : Key → Option Value} (m : h.MapOf (mixKind prog w) a f) : h.MapOf (optKind prog w) a (fun k => k.bind f) := by
  obtain ⟨o, es, ep, ho, hc, hd, hk, hf⟩ := m
  refine ⟨o, es, ep, ho, hc, hd, fun e he => let ⟨k, h1, h2⟩ := hk e he; ⟨some k, h1, h2⟩, fun k => ?_⟩
  cases k with
  | some k => exact hf k
  | none =>
    show findBy optIs es none = none
    unfold findBy
    rw [Array.find?_eq_none.mpr, Option.map_none]
    intro e he q
    obtain ⟨k, h1, _⟩ := hk e he
    rw [optIs_none q] at h1
    exact key_none h1
def rGetN (x y z : V) (H : Hp) (Q : VK) : Prop := ∃ a kvs, x = .ref a ∧ H a = some (.dK kvs) ∧ ((y = .non ∧ Q z H) ∨ ∃ k, y = kV k ∧ Q ((valV kvs k).getD z) H)
def tGetN (td ty tx : TE) : TE := fun σ H Q => td σ H fun x H1 => ∃ a, x = .ref a ∧ IsD H1 a ∧ ty σ H1 fun y H2 => tx σ H2 fun z H3 => rGetN x y z H3 Q
theorem pe_getN {X : Cx} {k : Nat} {o e f : Expr} {td ty tx : TE} {apos cpos : Pos} (hr : Room k X.A) (ho : PE X o td) (he : PE X e ty) (hf : PE X f tx)
    (m1 : attributeBase o "get" X.env (eval o X.env) = eval o X.env := by rfl)
    (m2 : ((backTo cpos (starEach [e, f] X.env)).all (fun x => !x.1) && (backToKw cpos (keywordEach [] X.env)).all (fun x => x.1.isSome) && decide (([e, f] : List Expr).length + ([] : List Keyword).length + (if ([] : List Keyword).isEmpty then 0 else 1) < 30)) = true := by rfl)
    (m3 : (apos.endLine == cpos.line) = true := by rfl) (m4 : backTo cpos (starEach [e, f] X.env) = [(false, eval e X.env), (false, eval f X.env)] := by rfl) :
    PE X (.Call (.Attribute o "get" apos) [e, f] [] cpos) (tGetN td ty tx) := by
  refine ⟨fun pins s σ H Q I h => ?_⟩
  refine wpAny_Call_method m1 m2 m3 PySem.F.plainAttrs_dict PySem.F.slot_dict_get PySem.F.type_dict_get (thn (ho.run pins s σ H _ I h) fun u s1 ⟨x, H1, I1, rx, a, ex, d, q1⟩ => ?_)
  subst ex
  obtain rfl : u = Value.ref a := rx
  obtain ⟨t1, t2, _⟩ := isD_at I1 d
  refine ⟨t1, t2, ?_⟩
  rw [m4]
  refine Calls.callWith_builtin rfl (Calls.evalArgs_plain (Calls.spliced_cons (thn (he.run pins s1 σ H1 _ I1 q1) fun iv s2 ⟨y, H2, I2, ry, q2⟩ =>
    Calls.spliced_cons (thn (hf.run pins s2 σ H2 _ I2 q2) fun fv s3 ⟨z, H3, I3, rz, b, kvs, eb, eh, q3⟩ => Calls.spliced_nil ?_))))
  obtain rfl : a = b := V.ref.inj eb
  rcases q3 with ⟨ey, q3⟩ | ⟨k, ey, q3⟩
  · subst ey
    obtain rfl : iv = Value.none := ry
    obtain ⟨_, hd, vs, _, dd⟩ := dk_rd I3.hok (.inl eh)
    exact call_meetsIn PySem.F.slot_dict_get dd.typeIs PySem.F.entry_dict_get (PySem.F.args_dict_get_3 _ _ _) (meets_dict_get_default (optKind X.prog X.w) (k := none) (key := .none) a rfl hd fv) ⟨_, map_opt dd.mapOf, ⟨z, H3, I3.tok _, rz, q3⟩⟩
  · exact d_get2 (by have := hr.units; omega) I3 (.inl ⟨kvs, k, .inl eh, ey, rfl⟩) ry rz fun w' s4 I4 rw' => ⟨_, H3, I4, rw', q3⟩
theorem k_getN {td ty tx : TE} {σ : L2.St} {H : Hp} {Q : VK} (q : td σ H fun x H1 => ∃ a, x = .ref a ∧ IsD H1 a ∧ ty σ H1 fun y H2 => tx σ H2 fun z H3 => rGetN x y z H3 Q) : tGetN td ty tx σ H Q := q
theorem k_getD {a : Addr} {kvs : List (Key × V)} {H : Hp} {P : Prop} (h : H a = some (.dK kvs)) (q : P) : ∃ b, V.ref a = .ref b ∧ IsD H b ∧ P := ⟨a, rfl, .inl ⟨kvs, .inl h⟩, q⟩
theorem k_getNone {a : Addr} {kvs : List (Key × V)} {z : V} {H : Hp} {Q : VK} (h : H a = some (.dK kvs)) (q : Q z H) : rGetN (.ref a) .non z H Q := ⟨a, kvs, rfl, h, .inl ⟨rfl, q⟩⟩
theorem k_getStr {a : Addr} {kvs : List (Key × V)} {z : V} {t : Str} {H : Hp} {Q : VK} (h : H a = some (.dK kvs)) (q : Q ((valV kvs (.inr t)).getD z) H) : rGetN (.ref a) (.str t) z H Q := ⟨a, kvs, rfl, h, .inr ⟨.inr t, rfl, q⟩⟩
/-- a dict of two pairs, their keys texts -/
def rDisp2 (p : Addr) (x y x2 y2 : V) (H : Hp) (Q : VK) : Prop := H p = some (.dK []) ∧ ∃ kvs : List (Key × V), [(x, y), (x2, y2)] = kvs.map (fun kv => (kV kv.1, kv.2)) ∧ kvs.length ≤ 15 ∧ Q (.ref p) (upd H p (.dK (mergeK [] kvs)))
theorem k_disp2 {σ : L2.St} {H : Hp} {Q : VK} {tk tv tk2 tv2 : TE} (q : ∀ p H1, H p = none → Same H H1 → H1 p = some (.dK []) → tk σ H1 fun x H2 => tv σ H2 fun y H3 => tk2 σ H3 fun x2 H4 => tv2 σ H4 fun y2 H5 => rDisp2 p x y x2 y2 H5 Q) : tDisp [(tk, tv), (tk2, tv2)] σ H Q := fun p hp => q p _ hp (same_new hp) upd_same
theorem k_disp2x {p : Addr} {z z2 : Str} {y y2 : V} {H : Hp} {Q : VK} (h : H p = some (.dK [])) (n : z2 ≠ z) (q : ∀ H', But p H H' → H' p = some (.dK [(.inr z, y), (.inr z2, y2)]) → Q (.ref p) H') : rDisp2 p (.str z) y (.str z2) y2 H Q := ⟨h, [(.inr z, y), (.inr z2, y2)], rfl, by simp, q _ But.upd (by
  have n2 : ¬ z = z2 := fun e => n e.symm
  rw [upd_same]
  simp [mergeK, putK, n2])⟩
theorem k_addG {K : PySem.W.Frag} {H : Hp} {Q : VK} {a b : Addr} {xs ys : List V} (ha : SqL K H a xs) (hb : SqL K H b ys) (q : ∀ p H', H p = none → Same H H' → H' p = some (.lst (xs ++ ys)) → Q (.ref p) H') (c : xs.length + ys.length ≤ sizeLine) : rAddU K (.ref a) (.ref b) H Q :=
  .inr (.inr (.inr (.inr ⟨a, b, xs, ys, rfl, rfl, ha, hb, c, fun p hp => q p _ hp (same_new hp) upd_same⟩)))
/-! C(..) whose __init__ may raise -/
section
variable {X : Cx} {W : WX} {e : Expr} {es : List Expr} {p pos : Pos} {t : TA} {C x : Str} {ps : List Str} {sp : Sp} {j k : Nat}
def tMakeS (C : Addr) (sp : Sp) (E : L2.St → XK) (t : TA) : TE := fun σ H Q => t σ H fun vs H1 => rMake C sp vs H1 Q (E σ)
theorem pmakeS {K : PySem.W.Frag} (hK : X.K = K) (c : KCl X.prog X.w K X.mg X.base k C ps sp) (hr : Room j X.A) (hk : k + 1 ≤ j) (tk : Takes X W) (ha : PA X (e :: es) t) (hg : Gl X C := by rfl)
    (hdb : (C == ("__debug__" : Str)) = false := by decide) (hst : starEach (e :: es) X.env = (false, eval e X.env) :: starEach es X.env := by rfl) (hpl : (backTo pos (starEach es X.env)).any (·.1) = false := by rfl) :
    PE X (.Call (.Name C p) (e :: es) [] pos) (tMakeS (He.ga K C) sp (WE W) t) := by
  subst hK
  obtain ⟨f, fd, M, F, hm, b⟩ := c.ex
  refine ⟨fun pins s σ H Q I h => wpAny_Call_Name_kw (ld_glob I hg hm ?_ hdb)⟩
  refine PySem.W.callWith_K (h₀ := X.base) I.ok.mod.kin M.kp (thn (ha.run pos pins s σ H _ I h) fun us s1 ⟨vs, H1, I1, r, q⟩ => ⟨I1.kIn, ?_⟩) hst hpl
  have q2 := q (s1.heap.objs.size + 1) s1.heap.objs.size (I1.hok.fresh (Nat.le_succ _)) (I1.hok.fresh (Nat.le_refl _)) (Nat.ne_of_lt (Nat.lt_succ_self _))
  have J := Inv.made (C := He.ga X.K C) I1
  have r2 : Vals (V.ref (s1.heap.objs.size + 1) :: vs) (Value.ref (s1.heap.objs.size + 1) :: us) := .cons rfl r
  have hl : (Value.ref (s1.heap.objs.size + 1) :: us).length = ps.length := by
    rw [← r2.length]
    exact F.len _ _ _ _ q2
  have bb := b _ (Value.ref (s1.heap.objs.size + 1) :: us) J.kIn (by rw [List.append_nil]; exact hl)
  rw [List.append_nil] at bb
  refine wpAny_call (make_map (f := f) I1.kIn M.makes M.init (beq_iff_eq.mp M.fn) (codeAny_mono (F.run _ X.stack _ _ ⟨Value.ref (s1.heap.objs.size + 1) :: us, []⟩ _ _ _ _ ((hr.mono hk).make (He.ga X.K C) us []) (J.env0.make (He.ga X.K C) us []) bb r2 q2) fun rr s' z => ?_))
  cases rr with
  | error er => exact passAt tk σ pins _ _ er s' J z
  | ok fl =>
    cases fl with
    | ret u =>
      obtain ⟨v, H', I3, rv, ev, q3⟩ := J.after z
      subst ev
      exact ⟨rv, ⟨V.ref (s1.heap.objs.size + 1), H', I3, rfl, q3⟩⟩
    | next => exact z.elim
    | brk => exact z.elim
    | cont => exact z.elim
theorem k_makeS {σ : L2.St} {H : Hp} {Q : VK} {C : Addr} (q : t σ H fun vs H1 => rMake C sp vs H1 Q (WE W σ)) : tMakeS C sp (WE W) t σ H Q := q
end
/-- tuples stay while an instance changes -/
theorem seqT_butI {K : PySem.W.Frag} {H H' : Hp} {l C dx : Addr} {fs : List (Str × V)} (e : But l H H') (hl : H l = some (.ins C dx fs)) {a : Addr} {xs : List V} (h : SqT K H a xs) : SqT K H' a xs := by
  rcases h with (h | ⟨o, h⟩) | h
  · exact .inl (.inl (e _ _ (ne_of h hl (by intro z; cases z)) h))
  · exact .inl (.inr ⟨o, e _ _ (ne_of h hl (by intro z; cases z)) h⟩)
  · exact .inr h
/-! reversed(range(n)) -/
def rRevR (x : V) (H1 : Hp) (R : It → Hp → Prop) : Prop := ∃ n : Int, x = .int n ∧ (-(2 ^ 62) ≤ (0 : Int) ∧ (0 : Int) < 2 ^ 62 ∧ -(2 ^ 62) ≤ n ∧ n < 2 ^ 62 ∧ R (Itc (0 + (((n - 0).toNat : Nat) : Int) - 1) (-1) (n - 0).toNat) H1)
theorem k_revR {te : TE} {σ : L2.St} {H : Hp} {R : It → Hp → Prop} (q : te σ H fun x H1 => rRevR x H1 R) : iRevR (tRg1 te) σ H R := q
theorem k_revX {n : Nat} {H : Hp} {R : It → Hp → Prop} (c : n < 1000000) (q : R (Itc ((n : Int) - 1) (-1) n) H) : rRevR (.int (n : Int)) H R := by
  refine ⟨n, rfl, by omega, by omega, by omega, by omega, ?_⟩
  rw [Int.sub_zero, Int.toNat_natCast, Int.zero_add]
  exact q
theorem k_loopRev {σ : L2.St} {H : Hp} {D : Ends} {tb : TS} {j n : Nat} (P : Nat → L2.St → Hp → Prop) (h0 : P 0 σ H) (hs : ∀ (i : Nat) σ H, i < n → P i σ H → tb { D with nx := P (i + 1), ct := P (i + 1), bk := D.nx } (σ.set j (some (.int ((n - 1 - i : Nat) : Int)))) H)
    (hd : ∀ σ H, P n σ H → D.nx σ H) : LoopI (Itc ((n : Int) - 1) (-1) n) (gName j) tb D σ H := for_rangeC P h0 (fun i σ H hi p => by
      show tb _ (σ.set j (some (.int ((n : Int) - 1 + (i : Nat) * (-1))))) H
      rw [show (n : Int) - 1 + (i : Nat) * (-1) = ((n - 1 - i : Nat) : Int) by omega]
      exact hs i σ H hi p) hd
/-! a tuple's things, numbered -/
def Iet (K : PySem.W.Frag) (a : Addr) : It where
  go i H := ∃ xs x, SqT K H a xs ∧ xs[i]? = some x
  yld i H v H' := ∃ T x, v = .ref T ∧ H T = none ∧ H' = upd H T (.tup [.int (i : Nat), x]) ∧ ∀ xs, SqT K H a xs → xs[i]? = some x
  stop i H := ∃ xs, SqT K H a xs ∧ xs.length = i
def EtSt (e it a : Addr) (i : Nat) (h : Heap) : Prop := (∃ old, IsEnum h e it (i : Int) old) ∧ h.IsTupleIter it a i ∧ e ≠ it
theorem et_obj {e it a : Addr} {i : Nat} {h : Heap} (st : EtSt e it a i h) {c : Addr} (hc : c ∈ [e, it]) : ∃ o, h.get? c = some o ∧ ∀ v, o.data ≠ .cell v := by
  obtain ⟨⟨_, s1⟩, ⟨o4, e4, _, d4⟩, _⟩ := st
  simp only [List.mem_cons, List.not_mem_nil, or_false] at hc
  rcases hc with rfl | rfl
  · exact ⟨_, s1, fun _ => nofun⟩
  · exact ⟨o4, e4, fun _ z => by rw [d4] at z; cases z⟩
theorem turn_enumT {P : Program} {w : World} {K : PySem.W.Frag} {elts : List Expr} {kk : Nat} {tpos : Pos} {a e it : Addr} (ne : e ≠ it) (nea : e ≠ a) (ha : a ≠ it) :
    Turn P w K (.Tuple elts kk tpos) (Iet K a) [e, it] e (EtSt e it a) where
  mem := by simp
  obj := fun i h st c hc => et_obj st hc
  keep := fun i h h' st k => ⟨(let ⟨old, z⟩ := st.1; ⟨old, k e (by simp) _ z⟩), st.2.1.at fun o q => k it (by simp) o q, st.2.2⟩
  item := by
    intro X hP hw hK hc i pins s σ H E I hf st hg
    subst hP hw hK
    obtain ⟨xs, x, qx, ex⟩ := hg
    obtain ⟨us, ru, pu, _⟩ := I.tuple qx
    have hh : X.A.in1.handled = none := I.ok.hd hc
    have lu : i < us.length := by rw [← ru.length]; exact (List.getElem?_eq_some_iff.mp ex).1
    have W := WalksT.enumerateD (prog := X.prog) (w := X.w) (A := X.A) (Draws.tuple hh it a ha us.toArray) e ne (by simp [ne, nea]) (by simp)
    refine W.item i s _ E (by simpa using lu) ⟨st.1, st.2.1, pu⟩ fun T vals h' tk hP hT ht hm hk => ?_
    obtain ⟨t, u, hu, rfl⟩ := hP
    obtain ⟨u', hu', r1⟩ := ru.get ex
    obtain rfl : u' = u := Option.some.inj (hu'.symm.trans (by simpa using hu))
    refine ⟨.ref T, rfl, W.go elts kk tpos i T { s with heap := h', toks := tk } _ E hm fun h2 st2 hk2 => ?_⟩
    have new : ObjOk X.prog X.w (upd H T (.tup [.int (i : Nat), x])) h2 T (.tup [.int (i : Nat), x]) := ⟨by show 2 ≤ sizeLine; decide, [.int i t, u'], .cons ⟨_, rfl⟩ (.cons r1 .nil), ht.at fun o e => hk2 T o (W.apart i T h' hm) e⟩
    have I1 := I.turnedNew (t' := tk) (ch := [e, it]) (fun c o n e => hk2 c o n (hk c o n e)) hf hT new
    refine ⟨.ref T, _, I1, rfl, ⟨T, x, rfl, I.hok.fresh hT, rfl, fun l hl => by rw [I.tuple_inj hl qx]; exact ex⟩, ⟨?_, st2.2.1, st.2.2⟩, fun c hcm => ?_⟩
    · obtain ⟨old, z⟩ := st2.1
      exact ⟨old, by rw [show ((i + 1 : Nat) : Int) = ((i : Nat) : Int) + 1 by omega]; simpa using z⟩
    obtain ⟨o, e, _⟩ := et_obj st hcm
    rw [upd_ne (Nat.ne_of_lt (Nat.lt_of_lt_of_le (Heap.lt_size e) hT))]
    exact (hf c hcm).1
  done := by
    intro X hP hw hK hc i pins s σ H E I hf st hg
    subst hP hw hK
    obtain ⟨xs, qx, ex⟩ := hg
    obtain ⟨us, ru, pu, _⟩ := I.tuple qx
    have hh : X.A.in1.handled = none := I.ok.hd hc
    have lu : us.length = i := by rw [← ru.length]; exact ex
    have W := WalksT.enumerateD (prog := X.prog) (w := X.w) (A := X.A) (Draws.tuple hh it a ha us.toArray) e ne (by simp [ne, nea]) (by simp)
    rw [show us.toArray.size = i by simpa using lu] at W
    exact W.done s _ E ⟨st.1, st.2.1, pu⟩ fun h' tk hk => ⟨rfl, I.turnedL (t' := tk) (ch := [e, it]) (fun c o n z => hk c o n z) hf⟩
  self := fun A i s Q E st h => let ⟨⟨_, z⟩, _⟩ := st; wpAny_pyIter_enum z h
set_option maxHeartbeats 1000000 in
theorem enum_new {v : Value} {ob : Obj} {Bh : Heap → Prop} (B : Begins v ob Bh) :
    Meets (Builtin.«enumerate.__new__» ⟨[.type "enumerate", v], []⟩) (fun _ R z => Bh z.heap ∧
      R (.ok (.ret (.ref (z.heap.push ob).objs.size))) { z with heap := (z.heap.push ob).push { cls := .type "enumerate", data := .fields #[.none, .bool false, .ref z.heap.objs.size, rawInt 0, .none, .none] } }) :=
  .of_wp fun P w A R z g => by
    obtain ⟨hp, gs, dp, tk, os⟩ := z
    obtain ⟨b, g⟩ := g
    have _u := sub_enumerate
    have begun : ∀ {A2 : Around} {X : Value → Shared → Prop} {Y : Value → Shared → Prop}, Y (.ref hp.objs.size) ⟨hp.push ob, gs, dp, tk, os⟩ → wpAny (model P w) A2 (pyIter v) Y X ⟨hp, gs, dp, tk, os⟩ := fun q => B.iter P w _ _ ⟨hp, gs, dp, tk, os⟩ _ b q
    wp_walk using begun
    refine wpAny_stack_any fun _ => wpAny_pure ?_
    split
    · rename_i c _ _ _ _ _
      cases (c == Value.type "enumerate") <;> (wp_walk using begun; exact ⟨_, rfl, g⟩)
    · wp_walk using begun
      exact ⟨_, rfl, g⟩
theorem enum_made {P : Program} {w : World} {A : Around} {E : Value → Shared → Prop} {z : Shared} {v : Value} {ob : Obj} {Bh : Heap → Prop} {Q : Value → Shared → Prop} (B : Begins v ob Bh) (b : Bh z.heap)
    (q : ∀ h', IsEnum h' (z.heap.objs.size + 1) z.heap.objs.size 0 .none → h'.get? z.heap.objs.size = some ob → (∀ c o, z.heap.get? c = some o → h'.get? c = some o) → Q (.ref (z.heap.objs.size + 1)) { z with heap := h' }) :
    wpAny (model P w) A (call (.type "enumerate") [v]) Q E z := by
  refine callType_new F.called_enumerate (by decide) (F.typeCall_enumerate_1 _) (F.newCall_enumerate_1 _) (fun o => F.args_object_init_2 o _) F.entry_enumerate_new (enum_new B) ⟨b, ?_⟩
  have n1 : (z.heap.push ob).objs.size = z.heap.objs.size + 1 := Heap.size_push ..
  show _ ∧ _
  rw [n1]
  have he : IsEnum ((z.heap.push ob).push { cls := .type "enumerate", data := .fields #[.none, .bool false, .ref z.heap.objs.size, rawInt 0, .none, .none] }) (z.heap.objs.size + 1) z.heap.objs.size 0 .none := by
    have t := Heap.get?_push_size (z.heap.push ob) (o := { cls := .type "enumerate", data := .fields #[.none, .bool false, .ref z.heap.objs.size, rawInt 0, .none, .none] }) rfl
    rwa [n1] at t
  exact ⟨⟨_, he, rfl⟩, q _ he (Heap.get?_push_of_some _ (Heap.get?_push_size _ B.free)) fun c o x => Heap.get?_push_of_some _ (Heap.get?_push_of_some _ x)⟩
def rEnumT (K : PySem.W.Frag) (vs : List V) (H1 : Hp) (R : It → Hp → Prop) : Prop := ∃ a xs, vs = [.ref a] ∧ SqT K H1 a xs ∧ R (Iet K a) H1
def iEnumT (K : PySem.W.Frag) (ta : TA) : TI := fun σ H R => ta σ H fun vs H1 => rEnumT K vs H1 R
theorem pi_enumT {X : Cx} {K : PySem.W.Frag} {e : Expr} {ta : TA} {p pos tpos : Pos} {elts : List Expr} {kk : Nat} (h : X.K = K) (hg : Gl X "enumerate") (hm : X.mg "enumerate" = none) (ha : PA X [e] ta) (hs : starEach [e] X.env = [(false, eval e X.env)] := by rfl) :
    PI X (.Tuple elts kk tpos) (.Call (.Name "enumerate" p) [e] [] pos) (iEnumT K ta) := by
  subst h
  refine ⟨fun pins s σ H R I h => Call_ (ld_blt I hg hm boot_enumerate (PyProof.Rows.callWith_type1 (thn (ha.run pos pins s σ H _ I h) fun us s1 z => ?_) hs rfl))⟩
  obtain ⟨vs, H1, I1, r1, a, xs, rfl, qx, q⟩ := z
  obtain ⟨ua, rfl, ra⟩ := vals1 r1
  cases ra
  obtain ⟨us, ru, pu, _⟩ := I1.tuple qx
  have la : a < s1.heap.objs.size := by obtain ⟨_, e, _⟩ := id pu; exact Heap.lt_size e
  refine enum_made (begins_tuple a us.toArray) pu fun h' he g1 hk => wpAny_pyIter_enum he ?_
  refine ⟨_, _, _, _, H1, rfl, I1.kept (t' := s1.toks) hk, turn_enumT (Nat.succ_ne_self _) (Nat.ne_of_gt (Nat.lt_succ_of_lt la)) (Nat.ne_of_lt la), ⟨⟨_, he⟩, ⟨_, g1, rfl, rfl⟩, Nat.succ_ne_self _⟩, fun c hc => ?_, q⟩
  have hle : s1.heap.objs.size ≤ c := by
    simp only [List.mem_cons, List.not_mem_nil, or_false] at hc
    rcases hc with rfl | rfl
    · exact Nat.le_add_right _ 1
    · exact Nat.le_refl _
  exact I1.fpOk hle (I1.hok.fresh hle)
theorem k_iEnumT {K : PySem.W.Frag} {ta : TA} {σ : L2.St} {H : Hp} {R : It → Hp → Prop} (q : ta σ H fun vs H1 => rEnumT K vs H1 R) : iEnumT K ta σ H R := q
theorem k_enumTx {K : PySem.W.Frag} {H : Hp} {R : It → Hp → Prop} {a : Addr} {xs : List V} (hx : SqT K H a xs) (q : R (Iet K a) H) : rEnumT K [.ref a] H R := ⟨a, xs, rfl, hx, q⟩
theorem enumT_it {K : PySem.W.Frag} {a : Addr} {xs : List V} : PairIt (Iet K a) xs.length (fun i => .int (i : Nat)) (fun i => xs.getD i .non) (fun H => SqT K H a xs) where
  go := fun i H h c => ⟨xs, _, h, get_some c⟩
  stop := fun H h => ⟨xs, h, rfl⟩
  yld := fun i H x H' h c ⟨T, y, e, hT, eH, hy⟩ => ⟨T, e, hT, by
    have := hy xs h
    rw [get_some c] at this
    rw [eH, Option.some.inj this]⟩
end Gx
/-! what never changes stays: tuples, things known, functions -/
namespace Gx
open PySem PySem.Spec PyProof.Rows L2
def Fixt : HO → Prop
  | .tup _ => True
  | .frz _ _ => True
  | .ext _ => True
  | _ => False
def Imm (H H' : Hp) : Prop := ∀ a o, H a = some o → Fixt o → H' a = some o
theorem Imm.refl (H : Hp) : Imm H H := fun _ _ h _ => h
theorem Imm.trans {H H1 H2 : Hp} (a : Imm H H1) (b : Imm H1 H2) : Imm H H2 := fun c o h f => b c o (a c o h f) f
theorem imm_same {H H' : Hp} (e : Same H H') : Imm H H' := fun a o h _ => e a o h
theorem imm_but {H H' : Hp} {l : Addr} {ys : List V} (e : But l H H') (hl : H l = some (.lst ys)) : Imm H H' := fun a o h f => e a o (ne_of h hl (by rintro rfl; exact f)) h
theorem imm_butI {H H' : Hp} {l C dx : Addr} {fs : List (Str × V)} (e : But l H H') (hl : H l = some (.ins C dx fs)) : Imm H H' := fun a o h f => e a o (ne_of h hl (by rintro rfl; exact f)) h
theorem seqT_imm {K : PySem.W.Frag} {H H' : Hp} (e : Imm H H') {a : Addr} {xs : List V} (h : SqT K H a xs) : SqT K H' a xs := by
  rcases h with (h | ⟨o, h⟩) | h
  · exact .inl (.inl (e _ _ h trivial))
  · exact .inl (.inr ⟨o, e _ _ h trivial⟩)
  · exact .inr h
/-- all but two stay -/
def But2 (l m : Addr) (H H' : Hp) : Prop := ∀ a o, a ≠ l → a ≠ m → H a = some o → H' a = some o
theorem But2.refl (l m : Addr) (H : Hp) : But2 l m H H := fun _ _ _ _ h => h
theorem But2.of {H H' : Hp} {l m : Addr} (e : Same H H') : But2 l m H H' := fun a o _ _ h => e a o h
theorem But2.trans {H H1 H2 : Hp} {l m : Addr} (a : But2 l m H H1) (b : But2 l m H1 H2) : But2 l m H H2 := fun c o n1 n2 h => b c o n1 n2 (a c o n1 n2 h)
theorem But2.left {H H' : Hp} {l m : Addr} (e : But l H H') : But2 l m H H' := fun a o n _ h => e a o n h
theorem But2.right {H H' : Hp} {l m : Addr} (e : But m H H') : But2 l m H H' := fun a o _ n h => e a o n h
theorem But2.imm {H H' : Hp} {l m C dx : Addr} {fs : List (Str × V)} {ys : List V} (e : But2 l m H H') (hl : H l = some (.ins C dx fs)) (hm : H m = some (.lst ys)) : Imm H H' := fun a o h f => e a o (ne_of h hl (by rintro rfl; exact f)) (ne_of h hm (by rintro rfl; exact f)) h
/-- what is new here may change -/
theorem But2.same {H H1 H2 : Hp} {l m : Addr} (nl : H l = none) (nm : H m = none) (a : Same H H1) (b : But2 l m H1 H2) : Same H H2 := fun c o h => b c o (ne_of_none h nl) (ne_of_none h nm) (a c o h)
end Gx
/-! a list that will not change any more is known from now on -/
namespace Gx
open PySem PySem.Spec PyProof.Rows L2
theorem inv_frz {X : Cx} {pins : List (Addr × Obj)} {σ : L2.St} {H : Hp} {s : Shared} {l : Addr} {xs : List V} (I : Inv X pins σ H s) (h : H l = some (.lst xs)) : ∃ o, Inv X pins σ (upd H l (.frz o (.lst xs))) s := by
  obtain ⟨hl, its, n, r, e⟩ := id (I.hok l _ h)
  have nl : ∀ {b u}, H b = some u → (∀ ys, u ≠ .lst ys) → b ≠ l := fun {b u} q n z => by
    rw [z, h] at q
    exact n _ (Option.some.inj q).symm
  have I2 := I.un (H' := upd H l (.frz { cls := .type "list", data := .seq its.toArray n } (.lst xs))) (h' := s.heap) (t' := s.toks) ⟨fun b o q _ _ _ => q, fun b o q _ _ _ => ⟨o.slots, q⟩, fun b o q n _ => by rw [upd_ne (fun z => by rw [z, h] at n; cases n)]; exact n, fun b o q _ => ⟨o, q⟩,
    fun b ys q => by rw [upd_ne (nl q (by intro ys z; cases z))]; exact q, fun b o u q => by rw [upd_ne (nl q (by intro ys z; cases z))]; exact q, fun b ps q => ⟨#[], by rw [upd_ne (nl q (by intro ys z; cases z)), q]; simp⟩⟩ (fun b u q => by
    by_cases hb : b = l
    · rw [hb, upd_same] at q
      cases q
      rw [hb]
      exact ⟨e, hl, its, n, r, e⟩
    · rw [upd_ne hb] at q
      exact (I.hok b u q).stay (fun _ _ _ q => q) (fun c q => by rw [upd_ne (nl q (by intro ys z; cases z))]; exact q) fun c ys q => by rw [upd_ne (nl q (by intro ys z; cases z))]; exact q)
  exact ⟨_, I2⟩
def rFrz (v : V) (H1 : Hp) (Q : VK) : Prop := ∃ l xs, v = .ref l ∧ H1 l = some (.lst xs) ∧ ∀ o, Q v (upd H1 l (.frz o (.lst xs)))
def tFrz (te : TE) : TE := fun σ H Q => te σ H fun v H1 => rFrz v H1 Q
theorem pe_frz {X : Cx} {e : Expr} {te : TE} (h : PE X e te) : PE X e (tFrz te) := by
  refine ⟨fun pins s σ H Q I q => thn (h.run pins s σ H _ I q) fun u s1 ⟨v, H1, I1, r, l, xs, ev, hl, q1⟩ => ?_⟩
  obtain ⟨o, I2⟩ := inv_frz I1 hl
  exact ⟨v, _, I2, r, q1 o⟩
theorem k_frz {te : TE} {σ : L2.St} {H : Hp} {Q : VK} (q : te σ H fun v H1 => rFrz v H1 Q) : tFrz te σ H Q := q
theorem k_frzx {l : Addr} {xs : List V} {H : Hp} {Q : VK} (h : H l = some (.lst xs)) (q : ∀ o H', But l H H' → H' l = some (.frz o (.lst xs)) → Q (.ref l) H') : rFrz (.ref l) H Q := ⟨l, xs, rfl, h, fun o => q o _ But.upd upd_same⟩
/-- while a list is put away, tuples stay -/
theorem SqL.frz {K : PySem.W.Frag} {H : Hp} {l : Addr} {o : Obj} {xs : List V} (h : H l = some (.frz o (.lst xs))) : SqL K H l xs := .inl (.inr ⟨o, h⟩)
theorem frz_imm {H H' : Hp} (e : Imm H H') {l : Addr} {o : Obj} {u : HO} (h : H l = some (.frz o u)) : H' l = some (.frz o u) := e _ _ h trivial
end Gx
namespace Gx
open PySem PySem.Spec PyProof.Rows L2
/-! ### xs[lo:hi:c], c a number; ts[::-1], ts a tuple -/
def stV (xs : List V) (lo hi : Option Int) (c : Int) : List V := (sliceRange (sliceBounds lo hi (some c) xs.length).1 (sliceBounds lo hi (some c) xs.length).2.1 (sliceBounds lo hi (some c) xs.length).2.2).filterMap (xs[·]?)
theorem vals_pick : ∀ {xs : List V} {us : List Value} (idx : List Nat), Vals xs us → Vals (idx.filterMap (xs[·]?)) (idx.filterMap (us[·]?))
  | _, _, [], _ => .nil
  | xs, us, i :: r, h => by
    have ih := vals_pick r h
    have key : ∀ {xs : List V} {us : List Value} (i : Nat), Vals xs us → (xs[i]? = none ∧ us[i]? = none) ∨ ∃ x u, xs[i]? = some x ∧ us[i]? = some u ∧ RelV x u := fun {xs us} i h => by
      induction h generalizing i with
      | nil => exact .inl ⟨rfl, rfl⟩
      | cons a _ ih =>
        cases i with
        | zero => exact .inr ⟨_, _, rfl, rfl, a⟩
        | succ i => exact ih i
    rcases key i h with ⟨h1, h2⟩ | ⟨x, u, h1, h2, h3⟩
    · rw [List.filterMap_cons, List.filterMap_cons, h1, h2]
      exact ih
    · rw [List.filterMap_cons, List.filterMap_cons, h1, h2]
      exact .cons h3 ih
theorem stV_len {xs : List V} {lo hi : Option Int} {c : Int} (c0 : 0 < c) : (stV xs lo hi c).length ≤ xs.length := by
  unfold stV
  refine Nat.le_trans (List.length_filterMap_le ..) (sliceRange_length_le _ _ _ xs.length ?_ ?_)
  · intro _
    cases lo <;> cases hi <;> simp [sliceBounds, c0] <;> omega
  · intro z
    exact absurd (show (sliceBounds lo hi (some c) xs.length).2.2 > 0 from c0) z
def rStX (K : PySem.W.Frag) (x : V) (lo hi : Option Int) (c : Int) (H : Hp) (Q : VK) : Prop := ∃ a xs, x = .ref a ∧ SqL K H a xs ∧ ∀ p, H p = none → Q (.ref p) (upd H p (.lst (stV xs lo hi c)))
def tSlSt (K : PySem.W.Frag) (te : TE) (tl th : TO) (c : Int) : TE := fun σ H Q => te σ H fun x H1 => tl σ H1 fun lo H2 => th σ H2 fun hi H3 => rStX K x lo hi c H3 Q
theorem pe_slStep {X : Cx} {e : Expr} {lo hi : Option Expr} {te : TE} {tl th : TO} {c : Int} {k : Nat} {p1 p3 pos : Pos} (he : PE X e te) (hl : PO X lo tl) (hu : PO X hi th) (c0 : 0 < c) : PE X (.Subscript e (.Slice lo hi (some (.Constant (.int c) k p1)) p3) pos) (tSlSt X.K te tl th c) := by
  refine ⟨fun pins s σ H Q I h => ?_⟩
  refine Subscript_ (thn (he.run pins s σ H _ I h) fun v s1 ⟨x, H1, I1, r1, q1⟩ => ?_)
  have hst : PO X (some (.Constant (.int c) k p1)) (tPart (tC (.int c))) := po_some pe_int
  refine wpAny_Slice (thn (hl.run pins s1 σ H1 _ I1 q1) fun vl s2 ⟨l, H2, I2, pl, q2⟩ => ?_)
  refine thn (hu.run pins s2 σ H2 _ I2 q2) fun vu s3 ⟨u, H3, I3, pu, q3⟩ => ?_
  obtain ⟨a, xs, ex, hx, q⟩ := q3
  subst ex
  cases r1
  refine thn (hst.run pins s3 σ H3 (fun o H4 => o = some c ∧ H4 = H3) I3 ⟨c, rfl, rfl, rfl⟩) fun vs s4 ⟨o, H4, I4, ps, eo, e4⟩ => ?_
  subst eo e4
  have I5 : Inv X pins σ H4 { s4 with heap := s4.heap.push { cls := .type "slice", data := .fields #[vl, vu, vs] } } := I4.kept (t' := s4.toks) fun b ob q => Heap.get?_push_of_some _ q
  obtain ⟨its, r, ht, hz⟩ := I5.list hx
  have hlen := r.length
  show wpAny (model X.prog X.w) X.A (subscriptTail e (.Slice lo hi (some (.Constant (.int c) k p1)) p3) (.ref a) (.ref s4.heap.objs.size)) (EP X pins σ Q) X.xe { s4 with heap := s4.heap.push { cls := .type "slice", data := .fields #[vl, vu, vs] } }
  refine tail_any (ops := [.ref a, .ref s4.heap.objs.size]) ht.isList.typeIs (PySem.slot_list_getitem.lookup) ?_ (by with_unfolding_all rfl)
  refine wpAny_getItem_list_slice ht.isList (Heap.IsSliceOf.new _ vl vu vs) pl pu ps (fun z => by have := Option.some.inj z; omega) ?_ (by rw [List.size_toArray]; omega)
  have ep : slicePick its.toArray l u (some c) = ((sliceRange (sliceBounds l u (some c) xs.length).1 (sliceBounds l u (some c) xs.length).2.1 (sliceBounds l u (some c) xs.length).2.2).filterMap (its[·]?)).toArray := by
    unfold slicePick
    rw [List.size_toArray, ← hlen]
    congr 1
    congr 1
    funext i
    simp
  rw [ep]
  have vp := vals_pick (sliceRange (sliceBounds l u (some c) xs.length).1 (sliceBounds l u (some c) xs.length).2.1 (sliceBounds l u (some c) xs.length).2.2) r
  refine ⟨.ref _, _, I5.laid (t' := s4.toks) (o := .lst (stV xs l u c)) (fun b ob q => Heap.get?_push_of_some _ q) (Nat.le_refl _) ?_, rfl, q _ (I5.hok.fresh (Nat.le_refl _))⟩
  refine ⟨?_, _, 0, vp, Heap.get?_push_size _ rfl⟩
  exact Nat.le_trans (stV_len c0) hz
theorem k_st {K : PySem.W.Frag} {te : TE} {tl th : TO} {c : Int} {σ : L2.St} {H : Hp} {Q : VK} (q : te σ H fun x H1 => tl σ H1 fun lo H2 => th σ H2 fun hi H3 => rStX K x lo hi c H3 Q) : tSlSt K te tl th c σ H Q := q
theorem k_stx {K : PySem.W.Frag} {a : Addr} {xs : List V} {lo hi : Option Int} {c : Int} {H : Hp} {Q : VK} (h : SqL K H a xs) (q : ∀ p H2, H p = none → Same H H2 → H2 p = some (.lst (stV xs lo hi c)) → Q (.ref p) H2) : rStX K (.ref a) lo hi c H Q := ⟨a, xs, rfl, h, fun p hp => q p _ hp (same_new hp) upd_same⟩
theorem stV_ints {ns : List Int} {lo hi : Option Int} {c : Int} (c0 : 0 < c) : ∃ ms : List Int, stV (ns.map V.int) lo hi c = ms.map V.int ∧ ms.length ≤ ns.length := by
  refine ⟨(sliceRange (sliceBounds lo hi (some c) ns.length).1 (sliceBounds lo hi (some c) ns.length).2.1 (sliceBounds lo hi (some c) ns.length).2.2).filterMap (ns[·]?), ?_, ?_⟩
  · unfold stV
    rw [List.map_filterMap, List.length_map]
    congr 1
    funext i
    rw [List.getElem?_map]
  · have e := stV_len (xs := ns.map V.int) (lo := lo) (hi := hi) c0
    unfold stV at e
    rw [List.length_map] at e
    refine Nat.le_trans (Nat.le_of_eq ?_) e
    rw [← List.length_map (f := V.int), List.map_filterMap]
    congr 2
    funext i
    rw [List.getElem?_map]
section
variable {prog : Program} {w : World} {A : Around} {E : Value → Shared → Prop} {s : Shared}
theorem fm_congr {α β : Type} {f g : α → Option β} : ∀ {l : List α}, (∀ x ∈ l, f x = g x) → l.filterMap f = l.filterMap g
  | [], _ => rfl
  | x :: r, h => by
    rw [List.filterMap_cons, List.filterMap_cons, h x (List.mem_cons_self ..), fm_congr (l := r) fun y hy => h y (List.mem_cons_of_mem _ hy)]
theorem places_rev (n : Nat) : Builtin.Slice.slicePlaces ((n : Int) - 1) (-1) (-1) = n := by
  unfold Builtin.Slice.slicePlaces
  rw [if_neg (by decide)]
  by_cases h : (n : Int) - 1 > -1
  · rw [if_pos h, show (-(-1) : Int) = 1 by decide, Int.ediv_one]
    omega
  · rw [if_neg h]
    omega
theorem sliceApplied_rev {sl : Addr} {vl vu vs : Value} {n : Nat} {Q : Int × Int × Nat → Shared → Prop} (hs : s.heap.IsSliceOf sl vl vu vs) (pl : IsPart vl none) (pu : IsPart vu none) (ps : IsPart vs (some (-1)))
    (h : Q ((n : Int) - 1, -1, n) s) : wpAny (model prog w) A (Builtin.Slice.sliceApplied (.ref sl) (pure (n : Int))) Q E s := by
  obtain ⟨os, hos, hcs, hds⟩ := id hs
  unfold Builtin.Slice.sliceApplied Builtin.Slice.sliceFields
  refine wpAny_bind (wpAny_bind (wpAny_field hos hds (x := vl) rfl (wpAny_bind (wpAny_field hos hds (x := vu) rfl (wpAny_bind (wpAny_field hos hds (x := vs) rfl (wpAny_pure ?_)))))))
  refine wpAny_bind (HT.slicePart_ ps ?_)
  show wpAny _ _ (if ((-1 : Int) == 0) = true then _ else _) _ _ s
  rw [if_neg (by decide)]
  refine wpAny_bind (HT.slicePart_ pl (wpAny_bind (HT.slicePart_ pu (wpAny_bind (wpAny_pure ?_)))))
  show wpAny _ _ (pure ((n : Int) - 1, (-1 : Int), Builtin.Slice.slicePlaces ((n : Int) - 1) (-1) (-1))) _ _ s
  rw [places_rev]
  exact wpAny_pure h
theorem getItem_tuple_rev {t sl : Addr} {items : Array Value} {vl vu vs : Value} {Q : Value → Shared → Prop} (ht : IsTup s.heap t items) (hs : s.heap.IsSliceOf sl vl vu vs) (pl : IsPart vl none) (pu : IsPart vu none) (ps : IsPart vs (some (-1)))
    (h : Q (.ref s.heap.objs.size) { s with heap := s.heap.push { cls := .type "tuple", data := .seq items.toList.reverse.toArray } })
    (hsz : items.size ≤ sizeLine) : wpAny (model prog w) A (getItem (.ref t) (.ref sl)) Q E s := by
  have htake : sizeOk (.seq items.toList.reverse.toArray) := by
    show items.toList.reverse.toArray.size ≤ sizeLine
    rw [List.size_toArray, List.length_reverse, Array.length_toList]
    omega
  obtain ⟨os, hos, hcs, hds⟩ := id hs
  have hTs : s.TypeIs (.ref sl) "slice" := ⟨os, hos, hcs⟩
  unfold getItem
  try with_reducible refine wpAny_holding ?_
  first | refine wpAny_bind (wpAny_pure ?_) | skip
  refine wpAny_bind (wpAny_sequenceKey ht.typeIs (by decide) ?_)
  refine wpAny_bind (wpAny_callSpecial?_slot (name := Str.ofString "__getitem__") ht.typeIs PyProof.Rows.slot_tuple_getitem
    (wpAny_call_entry PyProof.Rows.slot_tuple_getitem ht.typeIs entry_tuple_getitem ?_ (args_tuple_getitem _ _)))
  show wpAny _ _ (Builtin.Tuple.tupleItemsOf (.ref t) >>= _) _ _ s
  refine wpAny_bind (tupleItemsOf_ ht ?_)
  refine wpAny_bind (wpAny_typeOf hTs ?_)
  rw [if_pos (by decide)]
  refine wpAny_bind (sliceApplied_rev hs pl pu ps ?_)
  have hno : ¬ (((((items.size : Nat) : Int) - 1) == 0 && (-1 : Int) == 1 && items.size == items.size) = true) := by
    intro q
    rw [Bool.and_eq_true, Bool.and_eq_true] at q
    exact absurd (eq_of_beq q.1.2) (by decide)
  show wpAny _ _ (if ((((items.size : Nat) : Int) - 1) == 0 && (-1 : Int) == 1 && items.size == items.size) = true then _ else _) _ _ s
  have ep : ((List.range items.size).filterMap fun (k : Nat) => items[(((items.size : Nat) : Int) - 1 + (k : Int) * (-1)).toNat]?).toArray = items.toList.reverse.toArray := by
    have e : ((List.range items.size).filterMap fun (k : Nat) => items[(((items.size : Nat) : Int) - 1 + (k : Int) * (-1)).toNat]?) = ((List.range items.size).map fun k => items.size - 1 - k).filterMap (items[·]?) := by
      rw [List.filterMap_map]
      refine fm_congr fun k hk => ?_
      have := List.mem_range.mp hk
      show items[(((items.size : Nat) : Int) - 1 + (k : Int) * (-1)).toNat]? = items[items.size - 1 - k]?
      congr 1
      omega
    rw [e, PySem.W.krv_range, List.filterMap_reverse, PySem.W.krv_all]
  rw [if_neg hno, ep]
  first
    | exact wpAny_bind (m := Builtin.Tuple.tupleExact _) (wpAny_newObj_type (wpAny_pure ⟨_, rfl, wpAny_pure h⟩) htake)
    | exact wpAny_bind (m := Builtin.Tuple.tupleExact _) (wpAny_newObj_type (wpAny_bind (wpAny_pure (wpAny_pure ⟨_, rfl, wpAny_pure h⟩))) htake)
    | exact wpAny_bind (wpAny_bind (m := Builtin.Tuple.tupleExact _) (wpAny_newObj_type (wpAny_pure (wpAny_pure ⟨_, rfl, wpAny_pure h⟩)) htake))
    | exact wpAny_bind (wpAny_bind (m := Builtin.Tuple.tupleExact _) (wpAny_newObj_type (wpAny_pure ⟨_, rfl, wpAny_pure h⟩) htake))
end
def rRevTX (K : PySem.W.Frag) (x : V) (H : Hp) (Q : VK) : Prop := ∃ a xs, x = .ref a ∧ SqT K H a xs ∧ ∀ p, H p = none → Q (.ref p) (upd H p (.tup xs.reverse))
def tRevT (K : PySem.W.Frag) (te : TE) : TE := fun σ H Q => te σ H fun x H1 => rRevTX K x H1 Q
theorem pe_revT {X : Cx} {e : Expr} {te : TE} {k : Nat} {p1 p2 p3 pos : Pos} (he : PE X e te) : PE X (.Subscript e (.Slice none none (some (.UnaryOp .USub (.Constant (.int 1) k p1) p2)) p3) pos) (tRevT X.K te) := by
  refine ⟨fun pins s σ H Q I h => ?_⟩
  refine Subscript_ (thn (he.run pins s σ H _ I h) fun v s1 ⟨x, H1, I1, r1, q1⟩ => ?_)
  obtain ⟨a, xs, ex, hx, q⟩ := q1
  subst ex
  cases r1
  have hst : PO X (some (.UnaryOp .USub (.Constant (.int 1) k p1) p2)) (tPart (tUn (rU fun i => .int (-i)) (tC (.int 1)))) := po_some (pe_un un_neg pe_int)
  refine wpAny_Slice (thn (po_none.run pins s1 σ H1 (fun o H2 => o = none ∧ H2 = H1) I1 ⟨rfl, rfl⟩) fun vl s2 ⟨l, H2, I2, pl, el, e2⟩ => ?_)
  subst el e2
  refine thn (po_none.run pins s2 σ H2 (fun o H3 => o = none ∧ H3 = H2) I2 ⟨rfl, rfl⟩) fun vu s3 ⟨u, H3, I3, pu, eu, e3⟩ => ?_
  subst eu e3
  refine thn (hst.run pins s3 σ H3 (fun o H4 => o = some (-1) ∧ H4 = H3) I3 ⟨1, rfl, -1, rfl, rfl, rfl⟩) fun vs s4 ⟨o, H4, I4, ps, eo, e4⟩ => ?_
  subst eo e4
  have I5 : Inv X pins σ H4 { s4 with heap := s4.heap.push { cls := .type "slice", data := .fields #[vl, vu, vs] } } := I4.kept (t' := s4.toks) fun b ob q => Heap.get?_push_of_some _ q
  obtain ⟨its, r, ht, hz⟩ := I5.tuple hx
  have hlen := r.length
  show wpAny (model X.prog X.w) X.A (subscriptTail e (.Slice none none (some (.UnaryOp .USub (.Constant (.int 1) k p1) p2)) p3) (.ref a) (.ref s4.heap.objs.size)) (EP X pins σ Q) X.xe { s4 with heap := s4.heap.push { cls := .type "slice", data := .fields #[vl, vu, vs] } }
  refine tail_any (ops := [.ref a, .ref s4.heap.objs.size]) ht.typeIs (PyProof.Rows.slot_tuple_getitem.lookup) ?_ (by with_unfolding_all rfl)
  refine getItem_tuple_rev ht (Heap.IsSliceOf.new _ vl vu vs) pl pu ps ?_ (by rw [List.size_toArray]; omega)
  refine ⟨.ref _, _, I5.laid (t' := s4.toks) (o := .tup xs.reverse) (fun b ob q => Heap.get?_push_of_some _ q) (Nat.le_refl _) ?_, rfl, q _ (I5.hok.fresh (Nat.le_refl _))⟩
  exact ⟨by rw [List.length_reverse]; exact hz, _, r.reverse, IsTup.new _ _⟩
theorem k_revT {K : PySem.W.Frag} {te : TE} {σ : L2.St} {H : Hp} {Q : VK} (q : te σ H fun x H1 => rRevTX K x H1 Q) : tRevT K te σ H Q := q
theorem k_revTx {K : PySem.W.Frag} {a : Addr} {xs : List V} {H : Hp} {Q : VK} (h : SqT K H a xs) (q : ∀ p H2, H p = none → Same H H2 → H2 p = some (.tup xs.reverse) → Q (.ref p) H2) : rRevTX K (.ref a) H Q := ⟨a, xs, rfl, h, fun p hp => q p _ hp (same_new hp) upd_same⟩
theorem pe_slStepK {K : PySem.W.Frag} {X : Cx} {e : Expr} {lo hi : Option Expr} {te : TE} {tl th : TO} {c : Int} {k : Nat} {p1 p3 pos : Pos} (hK : X.K = K) (he : PE X e te) (hl : PO X lo tl) (hu : PO X hi th) (c0 : 0 < c) : PE X (.Subscript e (.Slice lo hi (some (.Constant (.int c) k p1)) p3) pos) (tSlSt K te tl th c) := hK ▸ pe_slStep he hl hu c0
theorem pe_revTK {K : PySem.W.Frag} {X : Cx} {e : Expr} {te : TE} {k : Nat} {p1 p2 p3 pos : Pos} (hK : X.K = K) (he : PE X e te) : PE X (.Subscript e (.Slice none none (some (.UnaryOp .USub (.Constant (.int 1) k p1) p2)) p3) pos) (tRevT K te) := hK ▸ pe_revT he
end Gx
/-! ### an error that leaves a list comprehension -/
namespace Gx
open PySem PySem.Spec PyProof.Rows L2
theorem noteFrame_frame {e : Value} {a b : Env} (h : a.frame = b.frame) : noteFrame e a = noteFrame e b := by
  unfold noteFrame PySem.frameOf
  rw [h]
theorem passOn_frame {α : Type} {what : String} {e : Value} {a b : Env} (h : a.frame = b.frame) : (passOn what e a : Sem α) = passOn what e b := by
  unfold PySem.passOn
  rw [h]
section
variable {M : Model} {A : Around} {E : Value → Shared → Prop} {s : Shared} {env : Env}
def compPostE (M : Model) (A : Around) (E : Value → Shared → Prop) (use : Option (Value → Sem Unit)) (Q : Value → Shared → Prop) (acc : Value) (cenv : Env) (r : Result) (s' : Shared) : Prop :=
  match r, use with
  | .ok _, none => ∃ m, s'.heap.Ns cenv.locals m ∧ ∀ h', Heap.SameBut cenv.locals s'.heap h' → Q acc { s' with heap := h' }
  | .ok _, some u => wpAny M A (u acc) (fun _ s'' => ∃ m, s''.heap.Ns cenv.locals m ∧ ∀ h', Heap.SameBut cenv.locals s''.heap h' → Q .none { s'' with heap := h' }) E s'
  | .error x, _ => ∃ m, s'.heap.Ns cenv.locals m ∧ ∀ h', Heap.SameBut cenv.locals s'.heap h' → wpAny M A (passOn "comprehension.variables-let-go" x cenv : Sem Value) (fun _ _ => False) E { s' with heap := h' }
theorem comp_freeE {e : Expr} {scope : Scope} {pos : Pos} {newAcc first : Sem Value} {g : Comprehension} {gs : List Comprehension} {cl : List (Str × Addr)} {use : Option (Value → Sem Unit)}
    {Q : Value → Shared → Prop}
    (hcl : clausesOf e = g :: gs) (hs : ∀ x, foldedSetIterable g.iter env x = pure x) (hclos : closureFor scope env = pure cl)
    (hkind : scope.kind = .function) (hnames : ∀ x ∈ scope.names, x.2 = .local → scope.names.lookup x.1 = some .local)
    (h : wpAny M A first (fun x s₁ => wpAny M A (pyIter x) (fun it s₂ => wpAny M A newAcc (fun acc s₃ =>
      wpAny M A (newFunctionEnv scope env.globals cl [] env.qual none .none (some env)) (fun cenv s₄ =>
        codeAny M A (.compStart e 0 it acc { cenv with scope := relabel scope env }) (compPostE M A E use Q acc { cenv with scope := relabel scope env }) s₄) E s₃) E s₂) E s₁) E s) :
    wpAny M A (comprehension e scope env pos newAcc false first use) Q E s := by
  unfold comprehension
  rw [hclos, hcl]
  refine wpAny_bind (wpAny_mono h (fun x s₁ h₁ => wpAny_bind (wpAny_standAt (wpAny_bind (wpAny_of_eq (hs x) (wpAny_bind (wpAny_holding (wpAny_mono h₁ (fun it s₂ h₂ =>
    wpAny_standIf (wpAny_bind (wpAny_mono h₂ (fun acc s₃ h₃ => wpAny_bind (wpAny_pure (wpAny_bind (wpAny_mono h₃ (fun cenv s₄ h₄ => ?_) fun _ _ h' => h')))) fun _ _ h' => h')))
      fun _ _ h' => h'))))))) fun _ _ h' => h')
  dsimp only
  have hv : ∀ x ∈ (scope.names.filter fun x => (x.2 == .local || x.2 == .cell) && x.1 != (".0" : Str)).reverse, x.2 = .local →
      Env.kindOf { cenv with scope := relabel scope env } x.1 = some .local := fun x hx hl => lookup_relabel_local (hnames x (List.mem_filter.mp (List.mem_reverse.mp hx)).1 hl)
  have hv' : ∀ x ∈ (scope.names.filter fun x => (x.2 == .local || x.2 == .cell) && x.1 != (".0" : Str)).reverse.drop 1 ++ (scope.names.filter fun x => (x.2 == .local || x.2 == .cell) && x.1 != (".0" : Str)).reverse.take 1,
      x.2 = .local → Env.kindOf { cenv with scope := relabel scope env } x.1 = some .local := fun x hx hl => by
    rcases List.mem_append.mp hx with h1 | h1
    · exact hv x (List.mem_of_mem_drop h1) hl
    · exact hv x (List.mem_of_mem_take h1) hl
  refine wpAny_holding (wpAny_bind (wpAny_attempt (wpAny_holding (wpAny_run (codeAny_mono h₄ fun r s' hr => ?_)))))
  cases r with
  | ok f =>
    cases use with
    | none =>
      obtain ⟨m, hn, hr⟩ := hr
      exact wpAny_bind (wpAny_holding (wpAny_comp_letGo (cenv := { cenv with scope := relabel scope env }) hkind _ s' m hv hn fun h' m' _ hs' => wpAny_pure (hr h' hs')))
    | some u =>
      refine wpAny_bind (wpAny_rule (wpAny_bind (wpAny_holding (wpAny_mono hr (fun _ s'' hr' => ?_) fun _ _ h' => h'))))
      obtain ⟨m, hn, hr'⟩ := hr'
      exact wpAny_bind (wpAny_comp_letGo (cenv := { cenv with scope := relabel scope env }) hkind _ s'' m hv' hn fun h' m' _ hs' => wpAny_pure (hr' h' hs'))
  | error x =>
    have hr' : ∃ m, s'.heap.Ns cenv.locals m ∧ ∀ h', Heap.SameBut cenv.locals s'.heap h' → wpAny M A (passOn "comprehension.variables-let-go" x { cenv with scope := relabel scope env } : Sem Value) (fun _ _ => False) E { s' with heap := h' } := by cases use <;> exact hr
    obtain ⟨m, hn, hr⟩ := hr'
    exact wpAny_bind (wpAny_holding (wpAny_comp_letGo (cenv := { cenv with scope := relabel scope env }) hkind _ s' m hv hn fun h' m' _ hs' => wpAny_mono (hr h' hs') (fun _ _ f => f.elim) fun _ _ y => y))
end
/-- an error in the air of a block, let out by a call -/
def XB (Y : Cx) (E : XK) (u : Value) (s' : Shared) : Prop :=
  ∃ (a : Addr) (B : Heap) (sI : Shared) (pins : List (Addr × Obj)) (σ : L2.St) (H : Hp) (cls : Value) (d : Option Addr),
    u = .ref a ∧ Inv Y pins σ H sI ∧ (∀ b o, sI.heap.get? b = some o → b ∉ frs Y.stack → B.get? b = some o) ∧ sI.heap.UpToSlots s'.heap ∧
      HandSPX.FlyingZ B Y.stack a (Zc cls d) s'.heap ∧ H a = none ∧ s'.os = sI.os ∧ AllBare s'.gens ∧ E cls d H
theorem XB.of_call {X : Cx} {pins : List (Addr × Obj)} {σ : L2.St} {H : Hp} {s s' : Shared} {E : XK} (I : Inv X pins σ H s) {u : Value} (c : CX X.prog X.w X.stack H s E u s') : XB X E u s' := by
  obtain ⟨a, B, H', cls, d, rfl, fl, hok, ub, na, os, ag, hE⟩ := c
  obtain ⟨G, g1, g2⟩ := restrict s'.heap fun b => (B.get? b).isSome || decide (b ∈ frs X.stack)
  have st : B.StaysIn s'.heap := fl.1
  have gB : ∀ b o, B.get? b = some o → G.get? b = some o := fun b o e => by
    rw [g1 b (by simp [e])]
    exact st b o e
  have gF : ∀ b, b ∈ frs X.stack → G.get? b = s'.heap.get? b := fun b hb => g1 b (by simp [hb])
  have og : ∀ b o, G.get? b = some o → s'.heap.get? b = some o ∧ ((B.get? b).isSome = true ∨ b ∈ frs X.stack) := fun b o e => by
    cases q : ((B.get? b).isSome || decide (b ∈ frs X.stack)) with
    | false => rw [g2 b q] at e; cases e
    | true =>
      rw [g1 b q] at e
      exact ⟨e, by simpa [Bool.or_eq_true] using q⟩
  refine ⟨a, B, { s with heap := G, gens := s'.gens, drawn := s'.drawn, toks := s'.toks }, pins, σ, H', cls, d, rfl, ?_, fun b o e hb => ?_, Heap.UpToSlots.of_keeps fun b o e => (og b o e).1, fl, na, os, ag, hE⟩
  · refine I.call (ch := []) ⟨fun b o e n hb _ => gB b o (ub.keep b o e n hb), fun b o e n hb _ => ?_, fun b o e n _ => ub.free b o e n, fun b o e _ => ?_, ub.tups, ub.frzs, ub.tbls⟩ (hok.kept gB) ag (fun _ z => nomatch z)
    · obtain ⟨sl, q⟩ := ub.slot b o e hb
      exact ⟨sl, by rw [gF b hb]; exact q⟩
    · by_cases hb : b ∈ frs X.stack
      · obtain ⟨sl, q⟩ := ub.slot b o e hb
        exact ⟨_, by rw [gF b hb]; exact q⟩
      · obtain ⟨o', q⟩ := ub.there b o e hb
        exact ⟨o', gB b o' q⟩
  · obtain ⟨e', h⟩ := og b o e
    rcases h with h | h
    · obtain ⟨o', q⟩ := Option.isSome_iff_exists.mp h
      have z := st b o' q
      rw [e'] at z; cases z
      exact q
    · exact absurd h hb
/-- the block's context where an element may let an error out -/
abbrev blkE (X : Cx) (s : Shared) (H : Hp) (scope : Scope) (cenv : Env) (fp : List Addr) (E : XK) : Cx := (X.blk s H scope cenv fp).tr [] (XB (X.blk s H scope cenv fp) E)
theorem inv_toE {X : Cx} {s s' : Shared} {H H' : Hp} {scope : Scope} {cenv : Env} {fp : List Addr} {E : XK} {pins : List (Addr × Obj)} {σ : L2.St} (I : Inv (X.blk s H scope cenv fp) pins σ H' s') : Inv (blkE X s H scope cenv fp E) pins σ H' s' :=
  ⟨I.ok.toTry _ _, I.os, I.bare, I.base, I.loc, I.cell, I.free, I.freeC, I.pin, I.hok, I.len⟩
theorem inv_ofE {X : Cx} {s s' : Shared} {H H' : Hp} {scope : Scope} {cenv : Env} {fp : List Addr} {E : XK} {pins : List (Addr × Obj)} {σ : L2.St} (I : Inv (blkE X s H scope cenv fp E) pins σ H' s') : Inv (X.blk s H scope cenv fp) pins σ H' s' :=
  ⟨I.ok.ofTry, I.os, I.bare, I.base, I.loc, I.cell, I.free, I.freeC, I.pin, I.hok, I.len⟩
theorem passB {X : Cx} {s : Shared} {H : Hp} {scope : Scope} {cenv : Env} {fp : List Addr} {E : XK} : Passes (L2.CX X.prog X.w) (blkE X s H scope cenv fp E) E := fun _ _ _ _ _ _ I c => XB.of_call (inv_ofE I) c
theorem funFrames_but {h h' B B' : Heap} {C : Addr} : ∀ {l : List Env}, h.FunFrames B l → (∀ L ∈ frs l, L ≠ C) → (∀ b o, b ≠ C → h.get? b = some o → h'.get? b = some o) → (∀ b, B.get? b = none → B'.get? b = none) → h'.FunFrames B' l
  | [], _, _, _, _ => trivial
  | env :: l, ⟨hk, ⟨L, o, hf, hb, ho, hd⟩, hr⟩, hC, hh, hB =>
    ⟨hk, ⟨L, o, hf, hB L hb, hh L o (hC L (List.mem_filterMap.mpr ⟨env, List.mem_cons_self, hf⟩)) ho, hd⟩, funFrames_but hr (fun b hb => by
      obtain ⟨e, he, q⟩ := List.mem_filterMap.mp hb
      exact hC b (List.mem_filterMap.mpr ⟨e, List.mem_cons_of_mem _ he, q⟩)) hh hB⟩
/-- a block's error, back in the def -/
theorem XB.out {X : Cx} {pins : List (Addr × Obj)} {σ : L2.St} {H3 : Hp} {s3 s' : Shared} {scope : Scope} {ce : Env} {fp : List Addr} {EE : XK} {use : Option (Value → Sem Unit)} {Qf : Value → Shared → Prop} {acc : Value}
    (tk : Takes X (fun cls d _ H => EE cls d H)) (hs : X.stack = X.env :: X.outer) (hf : X.env.frame = some X.env.locals) (I3 : Inv X pins σ H3 s3) (cf : ce.frame = X.env.frame) (cL : ce.locals = s3.heap.objs.size)
    (f3 : ∀ b ∈ fp, (b ∈ X.ex ∨ X.s_0.heap.objs.size ≤ b) ∧ b ≠ X.env.locals ∧ (∀ x c, X.env.cells.lookup x = some c → c ≠ b) ∧ ∀ p ∈ X.pn ++ pins, p.1 ≠ b) {u : Value} (x : XB (X.blk s3 H3 scope ce fp) EE u s') :
    notedBy (model X.prog X.w) X.A ce (fun e s'' => compPostE (model X.prog X.w) X.A X.xe use Qf acc ce (.error e) s'') u s' := by
  obtain ⟨a, B, sI, pins', σ', H', cls, d, rfl, J, nb, up, fl, na, os, ag, w⟩ := x
  have hfr : X.A.frames = some (X.env :: X.outer) := by rw [I3.ok.frames, hs]
  have fl' : HandSPX.FlyingZ B (X.env :: X.outer) a (Zc cls d) s'.heap := by rw [← hs]; exact fl
  show wpAny _ X.A (noteFrame (.ref a) ce) _ _ _
  rw [noteFrame_frame cf]
  refine HandSPX.looks_onZ Zc.steady hfr hf fl' fun h3 hh3 up3 => ?_
  obtain ⟨m, hn, _⟩ := J.loc
  have hn : sI.heap.Ns ce.locals m := hn
  have hn3 : h3.Ns ce.locals m := up3.ns (up.ns hn)
  have goal : ∃ m, h3.Ns ce.locals m ∧ ∀ h', Heap.SameBut ce.locals h3 h' → wpAny (model X.prog X.w) X.A (passOn "comprehension.variables-let-go" (.ref a) ce : Sem Value) (fun _ _ => False) X.xe { s' with heap := h' } := by
    refine ⟨m, hn3, fun h4 sb => ?_⟩
    have nC : H' ce.locals = none := J.free
    -- everything but the block's own names
    obtain ⟨G, g1, g2⟩ := restrict sI.heap fun b => decide (b ≠ ce.locals)
    obtain ⟨B', b1, b2⟩ := restrict B fun b => decide (b ≠ ce.locals)
    have gG : ∀ b o, b ≠ ce.locals → sI.heap.get? b = some o → G.get? b = some o := fun b o n e => by rw [g1 b (decide_eq_true n)]; exact e
    have oG : ∀ b o, G.get? b = some o → b ≠ ce.locals ∧ sI.heap.get? b = some o := fun b o e => by
      by_cases n : b = ce.locals
      · rw [g2 b (by simp [n])] at e; cases e
      · rw [g1 b (decide_eq_true n)] at e
        exact ⟨n, e⟩
    have oB : ∀ b o, B'.get? b = some o → b ≠ ce.locals ∧ B.get? b = some o := fun b o e => by
      by_cases n : b = ce.locals
      · rw [b2 b (by simp [n])] at e; cases e
      · rw [b1 b (decide_eq_true n)] at e
        exact ⟨n, e⟩
    have nB : ∀ b, B.get? b = none → B'.get? b = none := fun b e => by
      cases q : B'.get? b with
      | none => rfl
      | some o => rw [(oB b o q).2] at e; cases e
    have stF : ∀ b ∈ frs X.stack, b ≠ ce.locals := fun b hb => by
      obtain ⟨_, o, e, _⟩ := I3.stack.mem hb
      rw [cL]
      exact Nat.ne_of_lt (Heap.lt_size e)
    have stF' : ∀ b ∈ frs (X.env :: X.outer), b ≠ ce.locals := fun b hb => stF b (by rw [hs]; exact hb)
    have h34 : ∀ b o, b ≠ ce.locals → h3.get? b = some o → h4.get? b = some o := fun b o n e => (sb.2 b n).trans e
    obtain ⟨od, es, ep, hC3, hCd, _⟩ := hn3
    have rec_ne : ∀ {b : Addr} {o : Obj} {vs : Array Value}, h3.get? b = some o → o.data = .fields vs → b ≠ ce.locals := fun {b o vs} e q z => by
      rw [z, hC3] at e
      cases e
      rw [hCd] at q
      cases q
    obtain ⟨k1, k2, k3, oe, vs, T, oT, ts, he, hz, hd, h1, hnT, hTe, hT, hdT, ht⟩ := hh3
    have hh4 : HandSPX.HeldZ B' (X.env :: X.outer) a (Zc cls d) X.env.locals h4 :=
      ⟨fun b o e => h34 b o (oB b o e).1 (k1 b o (oB b o e).2), nB a k2, funFrames_but k3 stF' h34 nB, oe, vs, T, oT, ts, h34 a oe (rec_ne he hd) he, hz, hd, h1, nB T hnT, hTe, h34 T oT (rec_ne hT hdT) hT, hdT, ht⟩
    rw [passOn_frame cf]
    unfold PySem.passOn
    refine wpAny_bind (wpAny_field (h34 a oe (rec_ne he hd) he) hd h1 ?_)
    rw [if_neg (show ¬ ((Value.ref T == Value.none) = true) from by simp)]
    have fin : wpAny (model X.prog X.w) X.A (setFlight (.ref a) X.env.frame) (fun _ s4 => wpAny (model X.prog X.w) X.A (throw (.ref a) : Sem Value) (fun _ _ => False) X.xe s4) X.xe { s' with heap := h4 } := by
      rw [hf]
      refine HandSPX.setFlight_onZ hh4 fun h5 hh5 up5 => wpAny_throw (tk _ _ ?_)
      refine ⟨a, B', { sI with heap := G }, pins, σ, H', cls, d, rfl, ?_, fun b o e hb => ?_, fun b o e hnf => ?_, .inr (.inr (by rw [hs]; exact hh5)), na, os, ag, w⟩
      · have ub : Un (frs X.stack) fp H3 H' s3.heap sI.heap := J.base
        have lt : ∀ b o, s3.heap.get? b = some o → b ≠ ce.locals := fun b o e z => by
          have := Heap.lt_size e
          rw [z, cL] at this
          exact Nat.lt_irrefl _ this
        refine I3.call' (ch := fp) J.os ⟨fun b o e n hb hx => gG b o (lt b o e) (ub.keep b o e n hb hx), fun b o e n hb hx => ?_, ub.free, fun b o e hx => ?_, ub.tups, ub.frzs, ub.tbls⟩ (fun b o q => (J.hok b o q).stay (fun c v hc r => gG c v (fun z => ?_) r) (fun _ r => r) fun _ _ r => r) J.bare f3
        · obtain ⟨sl, q⟩ := ub.slot b o e n hb hx
          exact ⟨sl, gG _ _ (lt b o e) q⟩
        · obtain ⟨o', q⟩ := ub.there b o e hx
          exact ⟨o', gG _ _ (lt b o e) q⟩
        · rcases hc with hc | hc
          · rw [← hc, z, nC] at q; cases q
          · rw [z, nC] at hc; cases hc
      · obtain ⟨n, e1⟩ := oG b o e
        rw [b1 b (decide_eq_true n)]
        exact nb b o e1 hb
      · obtain ⟨n, e1⟩ := oG b o e
        obtain ⟨sl, e2⟩ := up b o e1 hnf
        obtain ⟨sl3, e3⟩ := up3 b _ e2 hnf
        obtain ⟨sl5, e5⟩ := up5 b { o with slots := sl3 } (h34 b { o with slots := sl3 } n e3) hnf
        exact ⟨sl5, e5⟩
    first
      | exact wpAny_bind (wpAny_pure (wpAny_bind fin))
      | exact wpAny_bind fin
  cases use <;> exact goal
section
variable {X : Cx}
theorem lcE_core {pins : List (Addr × Obj)} {s : Shared} {σ : L2.St} {H : Hp} {Q : VK} {EE : XK} {elt tg iter : Expr} {ifs : List Expr} {scope : Scope} {own : List (Str × Nat)} {pos pos' : Pos} {wi : TI} {g : TG} {tt : TT} {te : TE} {use : Option (Value → Sem Unit)} {Qf : Value → Shared → Prop}
    (tk : Takes X (fun cls d _ H => EE cls d H)) (hst : X.stack = X.env :: X.outer) (hfm : X.env.frame = some X.env.locals)
    (hc : X.calm = true) (hN : X.N.Nodup) (I : Inv X pins σ H s) (hi : PI X tg iter wi) (ok : BlkOk X.N X.env.scope scope own)
    (hg : ∀ (s : Shared) (H : Hp) (C : Addr) (cl : List (Str × Addr)) (fp : List Addr), PG (X.blk s H scope (compEnvC scope cl C X.env) fp) tg g) (ht : ∀ (s : Shared) (H : Hp) (C : Addr) (cl : List (Str × Addr)) (fp : List Addr), PTs (X.blk s H scope (compEnvC scope cl C X.env) fp) ifs tt)
    (he : ∀ (s : Shared) (H : Hp) (C : Addr) (cl : List (Str × Addr)) (fp : List Addr), PE (blkE X s H scope (compEnvC scope cl C X.env) fp EE) elt te) (hs : ∀ x, foldedSetIterable iter X.env x = pure x)
    (h : tLc wi g tt te (own.map (·.2)) σ H Q)
    (hRR : ∀ D ce s' m H', Inv X pins σ H' s' → Q (.ref D) H' → s'.heap.Ns ce.locals m → FpOk X pins H' ce.locals → compPostE (model X.prog X.w) X.A X.xe use Qf (.ref D) ce (.ok .next) s') :
    wpAny (model X.prog X.w) X.A (comprehension (.ListComp elt [⟨tg, iter, ifs, 0⟩] scope pos) scope X.env pos' (newList []) false (eval iter X.env) use) Qf X.xe s := by
  have hfree : ∀ y ∈ scope.names, y.2 = .free → ∃ c, X.env.cells.lookup y.1 = some c := fun y hy e => by
    rcases ok.free y hy e with k | k
    · exact I.ok.has _ (.inl k)
    · exact I.ok.has _ (.inr k)
  refine comp_freeE (use := use) rfl hs (closure_ok hfree) ok.kind (fun y hy e => by rw [ok.uniq y hy, e])
    (thn (hi.run pins s σ H _ I h) fun xv s1 hx => thn hx fun itv s2 h2 => ?_)
  obtain ⟨it, fp, tn, J, H2, e, I2, T, st2, f2, q⟩ := h2
  subst e
  refine wpAny_newObj_type (newEnv_comp ?_) (by show 0 ≤ sizeLine; decide)
  generalize hD : s2.heap.objs.size = D
  have hDn : H2 D = none := I2.hok.fresh (Nat.le_of_eq hD)
  obtain ⟨W, ⟨m0, w0⟩, turn⟩ := q D hDn
  -- the new list
  generalize hs3 : ({ s2 with heap := s2.heap.push { cls := .type "list", data := .seq ([] : List Value).toArray } } : Shared) = s3
  have I3 : Inv X pins σ (upd H2 D (.lst [])) s3 := by
    rw [← hs3]
    refine I2.laid (t' := s2.toks) (fun b o e => Heap.get?_push_of_some _ e) (Nat.le_of_eq hD) ⟨Nat.zero_le _, [], 0, .nil, ?_⟩
    rw [← hD]
    exact Heap.get?_push_size _ rfl
  have h3 : s3.heap = s2.heap.push { cls := .type "list", data := .seq ([] : List Value).toArray } := by rw [← hs3]
  have sz : ∀ b ∈ fp, b < s2.heap.objs.size := fun b hb => by
    obtain ⟨o, e, _⟩ := T.obj _ _ st2 b hb
    exact Heap.lt_size e
  have f3 : ∀ b ∈ fp, FpOk X pins (upd H2 D (.lst [])) b ∧ b < s3.heap.objs.size := fun b hb => by
    have hlt := sz b hb
    refine ⟨⟨?_, (f2 b hb).2⟩, by rw [h3, Heap.size_push]; exact Nat.lt_succ_of_lt hlt⟩
    rw [upd_ne (by rw [← hD]; exact Nat.ne_of_lt hlt)]
    exact (f2 b hb).1
  have st3 : tn 0 s3.heap := T.keep _ _ _ st2 fun b _ o e => by rw [h3]; exact Heap.get?_push_of_some _ e
  have I4 := block_start I3 ok hN f3
  have pg := hg s3 (upd H2 D (.lst [])) s3.heap.objs.size (cellsFrom (s3.heap.objs.size + 1) scope.names (cloFrom X.env.cells scope.names [])) fp
  have pt := ht s3 (upd H2 D (.lst [])) s3.heap.objs.size (cellsFrom (s3.heap.objs.size + 1) scope.names (cloFrom X.env.cells scope.names [])) fp
  have pe := he s3 (upd H2 D (.lst [])) s3.heap.objs.size (cellsFrom (s3.heap.objs.size + 1) scope.names (cloFrom X.env.cells scope.names [])) fp
  show codeAny _ _ (.compStart (.ListComp elt [⟨tg, iter, ifs, 0⟩] scope pos) 0 (.ref it) (.ref D) (compEnvC scope (cellsFrom (s3.heap.objs.size + 1) scope.names (cloFrom X.env.cells scope.names [])) s3.heap.objs.size X.env)) (compPostE (model X.prog X.w) X.A X.xe use Qf (.ref D) (compEnvC scope (cellsFrom (s3.heap.objs.size + 1) scope.names (cloFrom X.env.cells scope.names [])) s3.heap.objs.size X.env)) { s3 with heap := pushCells (s3.heap.push { cls := .type "dict", data := .dict #[] }) scope.names }
  have nfp : ∀ b ∈ fp, (upd H2 D (.lst [])) b = none := fun b hb => (f3 b hb).1.1
  generalize hce : compEnvC scope (cellsFrom (s3.heap.objs.size + 1) scope.names (cloFrom X.env.cells scope.names [])) s3.heap.objs.size X.env = ce at I4 pg pt pe ⊢
  have cL : ce.locals = s3.heap.objs.size := by subst hce; rfl
  have cf : ce.frame = X.env.frame := by subst hce; rfl
  generalize hH3 : upd H2 D (.lst []) = H3 at I3 I4 pg pt pe w0 nfp f3
  generalize hs4 : ({ s3 with heap := pushCells (s3.heap.push { cls := .type "dict", data := .dict #[] }) scope.names } : Shared) = s4 at I4 ⊢
  have st4 : tn 0 s4.heap := T.keep _ _ _ st3 fun b _ o e => by rw [← hs4]; exact pushCells_keeps _ _ _ _ (Heap.get?_push_of_some _ e)
  have stat : ∀ {σ' : L2.St} {H' : Hp} {s' : Shared}, Inv (X.blk s3 H3 scope ce fp) [] σ' H' s' → (∀ b ∈ fp, H' b = none) → ∀ b ∈ fp, FpOk (X.blk s3 H3 scope ce fp) [] H' b := fun {σ' H' s'} I' hn b hb =>
    ⟨hn b hb, (I'.ok.exf b hb).1, I'.ok.exfs b hb, .inl hb, fun x c e => (I'.ok.exf b hb).2 x c e, fun p hp => absurd (show p ∈ ([] : List (Addr × Obj)) ++ [] from hp) (by simp)⟩
  have f3' : ∀ b ∈ fp, (b ∈ X.ex ∨ X.s_0.heap.objs.size ≤ b) ∧ b ≠ X.env.locals ∧ (∀ x c, X.env.cells.lookup x = some c → c ≠ b) ∧ ∀ p ∈ X.pn ++ pins, p.1 ≠ b := fun b hb => ⟨(f3 b hb).1.2.2.2.1, (f3 b hb).1.2.1, (f3 b hb).1.2.2.2.2.1, (f3 b hb).1.2.2.2.2.2⟩
  have loop : codeAny (model X.prog X.w) X.A (.compLoop (.ListComp elt [⟨tg, iter, ifs, 0⟩] scope pos) 0 (.ref it) (.ref D) ce) (compPostE (model X.prog X.w) X.A X.xe use Qf (.ref D) ce) s4 := by
    refine compLoop_any (fun n s' => ∃ i H', Inv (X.blk s3 H3 scope ce fp) [] (wipe σ (own.map (·.2))) H' s' ∧ tn i s'.heap ∧ (∀ b ∈ fp, H' b = none) ∧ W i n H') ?_ m0 ⟨0, H3, I4, st4, nfp, w0⟩
    rintro n s5 ⟨i, H5, I5, st5, n5, w5⟩
    rcases turn i n H5 w5 with ⟨stop, qq⟩ | ⟨go, Nx, hNx, step⟩
    · have td := T.done (X.blk s3 H3 scope ce fp) rfl rfl rfl hc i [] s5 _ H5 (fun _ _ => False) I5 (stat I5 n5) st5 stop
      refine thnF td fun r s6 ⟨hr, I6⟩ => ?_
      subst hr
      have I7 : Inv X pins σ H5 s6 := I3.call' (ch := fp) I6.os I6.base I6.hok I6.bare f3'
      have nC : H5 s3.heap.objs.size = none := by
        have z : H5 ce.locals = none := I6.free
        rw [cL] at z
        exact z
      obtain ⟨m, hn, _⟩ := I6.loc
      have hn : s6.heap.Ns ce.locals m := hn
      exact hRR D ce s6 m H5 I7 qq hn (by rw [cL]; exact I3.fpOk (Nat.le_refl _) nC)
    · have ti := T.item (X.blk s3 H3 scope ce fp) rfl rfl rfl hc i [] s5 _ H5 (fun _ _ => False) I5 (stat I5 n5) st5 go
      refine thnF ti fun r s6 ⟨u, hr, h6⟩ => ?_
      subst hr
      refine thnF h6 fun _ s7 ⟨x, H7, I7, r7, y7, st7, n7⟩ => ?_
      have I7' := I7.pinned (stat I7 n7) (T.obj _ _ st7)
      refine thnF (pg.run _ s7 _ H7 x u _ I7' r7 (step x H7 y7)) fun _ s8 ⟨σ8, H8, I8, hw8, q8⟩ => ?_
      refine thnF (pt.run _ s8 σ8 H8 _ I8 q8) fun b s9 ⟨H9, I9, q9⟩ => ?_
      have fin : ∀ {s' : Shared} {H' : Hp}, Inv (X.blk s3 H3 scope ce fp) ([] ++ pinsAt fp s7.heap) σ8 H' s' → Nx H' → ∃ m, m < n ∧ ∃ i H', Inv (X.blk s3 H3 scope ce fp) [] (wipe σ (own.map (·.2))) H' s' ∧ tn i s'.heap ∧ (∀ b ∈ fp, H' b = none) ∧ W i m H' := fun {s' H'} I' nx => by
        obtain ⟨m', hm, w'⟩ := hNx H' nx
        have pin' : ∀ b ∈ fp, ∀ o, s7.heap.get? b = some o → s'.heap.get? b = some o ∧ H' b = none := fun b hb o e =>
          let z := I'.pin (b, o) (List.mem_append_right _ (List.mem_append_right _ (mem_pinsAt hb e)))
          ⟨z.1, z.2.1⟩
        have hl : (wipe σ (own.map (·.2))).length = σ8.length := by rw [← hw8, wipe_length]
        refine ⟨m', hm, i + 1, H', (I'.unpinned (pins := [])).weak hl (fun j v e => ?_), T.keep _ _ _ st7 fun b hb o e => (pin' b hb o e).1, fun b hb => ?_, w'⟩
        · rw [← hw8] at e
          exact (wipe_some e).1
        · obtain ⟨o, e, _⟩ := T.obj _ _ st7 b hb
          exact (pin' b hb o e).2
      cases b with
      | false =>
        simp only [Bool.false_eq_true, if_false] at q9 ⊢
        exact fin I9 q9
      | true =>
        simp only [if_true] at q9 ⊢
        refine wpAny_mono (pe.run _ s9 σ8 H9 _ (inv_toE I9) q9) (fun z s10 ⟨yv, H10, I10, r10, acc, hD10, hz10, nx⟩ => ?_) fun u s10 xb => XB.out tk hst hfm I3 cf cL f3' xb
        exact app_ok (X := X.blk s3 H3 scope ce fp) (inv_ofE I10) hD10 hz10 r10 fun s11 I11 => fin I11 nx
  exact codeAny_compStart_list loop (T.self X.A 0 _ _ _ st4 loop)
/-- as a value -/
theorem pe_lcE {EE : XK} {elt tg iter : Expr} {ifs : List Expr} {scope : Scope} {own : List (Str × Nat)} {pos : Pos} {wi : TI} {g : TG} {tt : TT} {te : TE} (tk : Takes X (fun cls d _ H => EE cls d H)) (hst : X.stack = X.env :: X.outer) (hfm : X.env.frame = some X.env.locals) (hc : X.calm = true) (hN : X.N.Nodup) (hi : PI X tg iter wi) (ok : BlkOk X.N X.env.scope scope own)
    (hg : ∀ (s : Shared) (H : Hp) (C : Addr) (cl : List (Str × Addr)) (fp : List Addr), PG (X.blk s H scope (compEnvC scope cl C X.env) fp) tg g) (ht : ∀ (s : Shared) (H : Hp) (C : Addr) (cl : List (Str × Addr)) (fp : List Addr), PTs (X.blk s H scope (compEnvC scope cl C X.env) fp) ifs tt)
    (he : ∀ (s : Shared) (H : Hp) (C : Addr) (cl : List (Str × Addr)) (fp : List Addr), PE (blkE X s H scope (compEnvC scope cl C X.env) fp EE) elt te) (hs : ∀ x, foldedSetIterable iter X.env x = pure x := by intro _; rfl) :
    PE X (.ListComp elt [⟨tg, iter, ifs, 0⟩] scope pos) (tLc wi g tt te (own.map (·.2))) := by
  refine ⟨fun pins s σ H Q I h => ?_⟩
  rw [eval_ListComp]
  refine lcE_core tk hst hfm hc hN I hi ok hg ht he hs h fun D ce s' m H' I' q hn f => ⟨m, hn, fun h'' sb => ?_⟩
  obtain ⟨f0, f1, f2, f3, f4, f5⟩ := f
  exact ⟨.ref D, H', I'.turned (t' := s'.toks) (fun b o hb e => (sb.2 b hb).trans e) f0 f1 f3 f4 f5, rfl, q⟩
/-- name = [..] on one line, the name a local -/
theorem ps_setLcE {EE : XK} {i : Nat} {y : Str} {py : Pos} {elt tg iter : Expr} {ifs : List Expr} {scope : Scope} {own : List (Str × Nat)} {pos spos : Pos} {wi : TI} {g : TG} {tt : TT} {te : TE} (tk : Takes X (fun cls d _ H => EE cls d H)) (hst : X.stack = X.env :: X.outer) (hfm : X.env.frame = some X.env.locals) (hc : X.calm = true) (hN : X.N.Nodup) (hy : X.N[i]? = some y) (hyl : X.env.scope.names.lookup y = some .local)
    (hsw : swapsWith (.ListComp elt [⟨tg, iter, ifs, 0⟩] scope pos) (some (.Name y py)) spos.line X.env = pure true) (hi : PI X tg iter wi) (ok : BlkOk X.N X.env.scope scope own)
    (hg : ∀ (s : Shared) (H : Hp) (C : Addr) (cl : List (Str × Addr)) (fp : List Addr), PG (X.blk s H scope (compEnvC scope cl C X.env) fp) tg g) (ht : ∀ (s : Shared) (H : Hp) (C : Addr) (cl : List (Str × Addr)) (fp : List Addr), PTs (X.blk s H scope (compEnvC scope cl C X.env) fp) ifs tt)
    (he : ∀ (s : Shared) (H : Hp) (C : Addr) (cl : List (Str × Addr)) (fp : List Addr), PE (blkE X s H scope (compEnvC scope cl C X.env) fp EE) elt te) (hs : ∀ x, foldedSetIterable iter X.env x = pure x := by intro _; rfl) :
    PS X (.Assign [.Name y py] (.ListComp elt [⟨tg, iter, ifs, 0⟩] scope pos) spos) (tAsg (tLc wi g tt te (own.map (·.2))) (gName i)) := by
  refine ⟨fun pins s σ H D I h => ?_⟩
  rw [exec_Assign_Name_used _ _ _ _ hsw]
  refine wpAny_bind (wpAny_standAt (wpAny_bind ?_))
  show wpAny _ X.A (do let _ ← comprehension (.ListComp elt [⟨tg, iter, ifs, 0⟩] scope pos) scope X.env (firstIterPos [⟨tg, iter, ifs, 0⟩] pos) (newList []) false (eval iter X.env) (some (assign (.Name y py) X.env))) _ _ s
  have h : tLc wi g tt te (own.map (·.2)) σ H (fun x H1 => gName i x σ H1 D.nx) := h
  refine wpAny_bind (thn (lcE_core (Qf := fun _ s' => SP X pins D .next s') tk hst hfm hc hN I hi ok hg ht he hs h fun L ce s' m H' I' q hn f => ?_) fun _ s' hq => wpAny_pure (wpAny_pure hq))
  show wpAny _ _ (assign (.Name y py) X.env (.ref L)) _ _ _
  refine wpAny_assign_Name (store_ok2 (v := V.ref L) I' hN hy (.inl hyl) rfl (fun s2 I2 ⟨a, sb, ha⟩ => ?_) (.inr hyl))
  obtain ⟨f0, f1, f2, f3, f4, f5⟩ := f
  have haC : ce.locals ≠ a := by
    rcases ha with z | z
    · rw [z]; exact f1
    · exact fun e => f4 y a z e.symm
  refine ⟨m, hn.sameBut sb haC, fun h3 sb3 => ?_⟩
  exact ⟨_, H', I2.turned (t' := s2.toks) (fun b o hb e => (sb3.2 b hb).trans e) f0 f1 f3 f4 f5, q⟩
end
section
variable {X : Cx} {e o : Expr} {es : List Expr} {p pos apos : Pos} {ta : TE} {t : TA} {C m x : Str} {ps : List Str} {sp : Sp} {j k : Nat} {E : XK}
/-- calls in such a block -/
theorem pcallB (c : Cl X.prog X.w X.K X.mg X.base k x ps sp) (hr : Room j X.A) (hk : k ≤ j) (px : Passes (L2.CX X.prog X.w) X E) (ha : PA X (e :: es) t) (hg : Gl X x := by rfl)
    (he : starEach (e :: es) X.env = (false, eval e X.env) :: starEach es X.env := by rfl) (hpl : (backTo pos (starEach es X.env)).any (·.1) = false := by rfl) (hdb : (x == ("__debug__" : Str)) = false := by decide) :
    PE X (.Call (.Name x p) (e :: es) [] pos) (tCall sp [] E t) := by
  obtain ⟨f, fd, F, m, kp, b⟩ := c.ex
  exact pe_call F (hr.mono hk) hg m kp b .nil px ha hdb he hpl
theorem pmethB {pl : Sem Bool} {K : PySem.W.Frag} (hK : X.K = K) (c : MCl X.prog X.w K X.mg X.base k C m ps sp) (hr : Room j X.A) (hk : k ≤ j) (px : Passes (L2.CX X.prog X.w) X E) (he : PE X o ta) (ha : PA X (e :: es) t)
    (hst : starEach (e :: es) X.env = (false, eval e X.env) :: starEach es X.env := by rfl) (hpl : (backTo pos (starEach es X.env)).any (·.1) = false := by rfl)
    (ht : eval (.Call (.Attribute o m apos) (e :: es) [] pos) X.env = (do
      let ov ← eval o X.env
      standAt apos.atName
      let (f, first) ← holding [ov] (getMethod ov m pl)
      callWith pos f first (backTo pos (starEach (e :: es) X.env)) (backToKw pos (keywordEach [] X.env))) := by rfl) :
    PE X (.Call (.Attribute o m apos) (e :: es) [] pos) (tMethS (He.ga K C) m sp (fun _ => E) ta t) := by
  subst hK
  obtain ⟨f, fd, hc, hm, F, b⟩ := c.ex
  refine ⟨fun pins s σ H Q I h => (pe_meth (pl := pl) he hc hm F (hr.mono hk) b .nil px ha hst hpl ht).run pins s σ H Q I ?_⟩
  simp only [tMeth, List.append_nil]
  exact h
end
end Gx
/-! isinstance(e, (c, c2, ..)), e the error that a suite holds -/
namespace Gx
open PySem PySem.Spec PyProof.Rows L2
def rIsET (K : PySem.W.Frag) (a : Addr) (cls : Value) (d : Option Addr) : List V → Hp → VK → Prop := fun xs H Q => ∃ D : Addr, cls = .ref D ∧ (d = none ∨ ∃ dd fs, d = some dd ∧ H dd = some (.xd fs)) ∧ ExcC K D ∧
  ∃ (tp : Addr) (cs : List V) (us : List Value) (b : Bool), xs = [.ref a, .ref tp] ∧ H tp = some (.tup cs) ∧ PySem.Paired ClsV cs us ∧ PySem.W.kitAny K (.ref D) us = some b ∧ Q (.bl b) H
theorem call_isET {X : Cx} {a : Addr} {cls : Value} {d : Option Addr} {oe : Obj} {pn : List (Addr × Obj)} (hz : Zc cls d oe) (hf : ∃ vs, oe.data = .fields vs) : CallR (X.suite a ((a, oe) :: pn)) (.builtin "isinstance") (rIsET X.K a cls d) := by
  intro pins s σ H xs us Q I r h
  obtain ⟨D, rfl, hd, C, tp, cs, ws, b, rfl, hT, k, e, q⟩ := h
  obtain ⟨u1, u2, rfl, r1, r2⟩ := vals2 r
  cases (show u2 = Value.ref tp from r2)
  cases (show u1 = Value.ref a from r1)
  obtain ⟨_, its, rv, o, h1, h2, n, h3⟩ := (show ObjOk X.prog X.w H s.heap tp (.tup cs) from I.hok tp _ hT)
  have e3 := ClsV.all k rv
  subst e3
  obtain ⟨oc, od, dt, sl⟩ := o
  simp only at h2 h3
  subst h2 h3
  obtain ⟨hget, _⟩ := I.pin (a, oe) (List.mem_append.mpr (.inl List.mem_cons_self))
  obtain ⟨vs, hv⟩ := hf
  rcases hd with rfl | ⟨dd, fs, rfl, hdd⟩
  · have J : PySem.W.InstAt s.heap a oe D none := ⟨hget, hz.1, by unfold PySem.W.notCls; rw [hv] <;> rfl, by rw [hz.2]; exact trivial⟩
    exact PySem.W.kia_tup (PySem.W.kitx_exc (by obtain ⟨cd, hc, _⟩ := PySem.W.any_some C.hd; rw [hc]; rfl) C.hg C.hk C.hs C.ha C.hn C.ht C.hm) I.kIn J h1 e (fun z => nomatch z) fun tk => ⟨.bl b, H, I.kept (t' := tk) fun _ _ z => z, rfl, q⟩
  · have hx : ObjOk X.prog X.w H s.heap dd (.xd fs) := I.hok dd _ hdd
    obtain ⟨mA, hns, hr⟩ := hx
    obtain ⟨od, ho, hl⟩ := lookIn_ns hns
    have J : PySem.W.InstAt s.heap a oe D (some od) := ⟨hget, hz.1, by unfold PySem.W.notCls; rw [hv] <;> rfl, by rw [hz.2]; exact ho⟩
    exact PySem.W.kia_tup (PySem.W.kitx_exc (by obtain ⟨cd, hc, _⟩ := PySem.W.any_some C.hd; rw [hc]; rfl) C.hg C.hk C.hs C.ha C.hn C.ht C.hm) I.kIn J h1 e (fun z => nomatch z) fun tk => ⟨.bl b, H, I.kept (t' := tk) fun _ _ z => z, rfl, q⟩
theorem kany0 {K : PySem.W.Frag} {t : Value} : PySem.W.kitAny K t [] = some false := rfl
theorem kanyF {K : PySem.W.Frag} {t c : Value} {us : List Value} {b : Bool} (h : PySem.W.kitOne K t c = some false) (r : PySem.W.kitAny K t us = some b) : PySem.W.kitAny K t (c :: us) = some b := by
  show (match PySem.W.kitOne K t c with | some true => some true | some false => PySem.W.kitAny K t us | none => none) = some b
  rw [h]
  exact r
theorem kanyT {K : PySem.W.Frag} {t c : Value} {us : List Value} (h : PySem.W.kitOne K t c = some true) : PySem.W.kitAny K t (c :: us) = some true := by
  show (match PySem.W.kitOne K t c with | some true => some true | some false => PySem.W.kitAny K t us | none => none) = some true
  rw [h]
theorem k_isETD {K : PySem.W.Frag} {H : Hp} {Q : VK} {a D dd tp : Addr} {fs : List (Str × V)} {cs : List V} {us : List Value} {b : Bool} (h : H dd = some (.xd fs)) (C : ExcC K D) (ht : H tp = some (.tup cs)) (hp : PySem.Paired ClsV cs us) (hk : PySem.W.kitAny K (.ref D) us = some b) (q : Q (.bl b) H) : rIsET K a (.ref D) (some dd) [.ref a, .ref tp] H Q :=
  ⟨D, rfl, .inr ⟨dd, fs, rfl, h⟩, C, tp, cs, us, b, rfl, ht, hp, hk, q⟩
theorem k_isET {K : PySem.W.Frag} {H : Hp} {Q : VK} {a D tp : Addr} {cs : List V} {us : List Value} {b : Bool} (C : ExcC K D) (ht : H tp = some (.tup cs)) (hp : PySem.Paired ClsV cs us) (hk : PySem.W.kitAny K (.ref D) us = some b) (q : Q (.bl b) H) : rIsET K a (.ref D) none [.ref a, .ref tp] H Q :=
  ⟨D, rfl, .inl rfl, C, tp, cs, us, b, rfl, ht, hp, hk, q⟩
end Gx
/-! all(t), t a tuple; what is never reached -/
namespace Gx
open PySem PySem.Spec PyProof.Rows L2
def rAllT (K : PySem.W.Frag) : List V → Hp → VK → Prop := fun vs H Q => ∃ (a : Addr) (bs : List Bool), vs = [V.ref a] ∧ SqT K H a (bs.map V.bl) ∧ Q (.bl (bs.all id)) H
theorem cr_allT {X : Cx} (hc : X.calm = true) : CallR X (.builtin "all") (rAllT X.K) := by
  intro pins s σ H vs us Q I r h
  obtain ⟨a, bs, rfl, hs, q⟩ := h
  obtain ⟨its, rv, hl, _⟩ := I.tuple hs
  rw [Vals.ref1 r]
  have hb := rv.bls
  have hlt : a < s.heap.objs.size := hl.lt
  refine call_all_walk (wpAny_pyIter_tuple hl ?_)
  refine ⟨_, _, _, _, _, _, _, rfl, Walks.tuple (A := X.A.in1) (I.ok.hd hc) _ a (Nat.ne_of_lt hlt) its.toArray, ⟨⟨_, Heap.get?_push_size _ rfl, rfl, rfl⟩, hl.push _⟩, truth_bools hb, fun h' tk hk => ?_⟩
  refine ⟨.bl _, H, I.kept fun b o eo => hk b o (fun hmem => ?_) (Heap.get?_push_of_some _ eo), ?_, q⟩
  · rcases List.mem_cons.mp hmem with e1 | hmem
    · exact absurd (e1 ▸ Heap.lt_size eo) (Nat.lt_irrefl _)
    · cases hmem
  · show Value.bool _ = Value.bool _
    rw [← L2.all_range, hb, List.size_toArray, List.length_map]
theorem k_allT {K : PySem.W.Frag} {H : Hp} {Q : VK} {a : Addr} {bs : List Bool} (h : SqT K H a (bs.map V.bl)) (q : Q (.bl (bs.all id)) H) : rAllT K [.ref a] H Q := ⟨a, bs, rfl, h, q⟩
end Gx
namespace Gx
open PySem PySem.Spec PyProof.Rows L2
/-- code that is never reached -/
theorem ps_void {X : Cx} {st : Stmt} : PS X st (fun _ _ _ => False) := ⟨fun _ _ _ _ _ _ h => h.elim⟩
theorem pe_void {X : Cx} {e : Expr} : PE X e (fun _ _ _ => False) := ⟨fun _ _ _ _ _ _ h => h.elim⟩
end Gx
/-! x or y, x whatever has a truth -/
namespace Gx
open PySem PySem.Spec PyProof.Rows L2
def tOrU (K : PySem.W.Frag) (ta tb : TE) : TE := fun σ H Q => ta σ H fun x H1 => ∃ k, TruV K x H1 k ∧ if k = true then Q x H1 else tb σ H1 Q
theorem pe_orU {X : Cx} {K : PySem.W.Frag} {a b : Expr} {rest : List Expr} {pos : Pos} {ta tb : TE} (h : X.K = K) (ha : PE X a ta) (hb : PE X (.BoolOp .Or (b :: rest) pos) tb) : PE X (.BoolOp .Or (a :: b :: rest) pos) (tOrU K ta tb) := by
  subst h
  refine ⟨fun pins s σ H Q I h => ?_⟩
  refine BoolOp_or (thn (ha.run pins s σ H _ I h) fun v s1 ⟨x, H1, I1, r1, q1⟩ => ?_)
  obtain ⟨k, e, q1⟩ := q1
  refine thn (tru_ok pins s1 σ H1 x v (fun z H2 => z = k ∧ if k = true then Q x H2 else tb σ H2 Q) I1 r1 ⟨k, e, rfl, q1⟩) fun z s2 ⟨H2, I2, ez, q2⟩ => ?_
  subst ez
  cases z with
  | true => exact ⟨x, H2, I2, r1, q2⟩
  | false => exact hb.run pins s2 σ H2 Q I2 q2
theorem k_orU {K : PySem.W.Frag} {ta tb : TE} {σ : L2.St} {H : Hp} {Q : VK} (q : ta σ H fun x H1 => ∃ k, TruV K x H1 k ∧ if k = true then Q x H1 else tb σ H1 Q) : tOrU K ta tb σ H Q := q
end Gx
/-! dicts by texts -/
namespace Gx
open PySem PySem.Spec PyProof.Rows L2
def rDG (x y : V) (H : Hp) (Q : VK) : Prop := ∃ a v, x = .ref a ∧ DGet H a y (some v) ∧ Q v H
theorem pe_dgN {X : Cx} {k : Nat} {o i : Expr} {pos : Pos} {td ty : TE} (hr : Room k X.A) (ho : PE X o td) (hi : PE X i ty) (hs : NoSl i) : PE X (.Subscript o i pos) (tDGet td ty) := pe_dget (by have := hr.un; omega) ho hi hs
theorem ps_dpN {X : Cx} {k : Nat} {o i value : Expr} {pos pos' : Pos} {td ty tv : TE} (hr : Room k X.A) (ho : PE X o td) (hi : PE X i ty) (hv : PE X value tv) (hs : swapsWith value (some (.Subscript o i pos')) pos.line X.env = pure false) : PS X (.Assign [.Subscript o i pos'] value pos) (sDPut td ty tv) := ps_dput (by have := hr.un; omega) ho hi hv hs
theorem k_dget {td ty : TE} {σ : L2.St} {H : Hp} {Q : VK} (q : td σ H fun x H1 => ty σ H1 fun y H2 => rDG x y H2 Q) : tDGet td ty σ H Q := q
theorem k_dgx {a : Addr} {kvs : List (Key × V)} {z : Str} {v : V} {H : Hp} {Q : VK} (h : H a = some (.dK kvs)) (e : valV kvs (.inr z) = some v) (q : Q v H) : rDG (.ref a) (.str z) H Q := ⟨a, v, rfl, e ▸ DGet.k (k := .inr z) h, q⟩
def rDP (x y v : V) (H : Hp) (N : Hp → Prop) : Prop := ∃ a H4, x = .ref a ∧ DPut H a y v H4 ∧ N H4
theorem k_dput {td ty tv : TE} {D : Ends} {σ : L2.St} {H : Hp} (q : tv σ H fun v H1 => td σ H1 fun x H2 => ty σ H2 fun y H3 => rDP x y v H3 fun H4 => D.nx σ H4) : sDPut td ty tv D σ H := q
theorem putK_le {kvs : List (Key × V)} {k : Key} {v : V} : (putK kvs k v).length ≤ kvs.length + 1 := by
  unfold putK
  split
  · rw [List.length_map]; omega
  · rw [List.length_append]; simp
theorem k_dpx {a : Addr} {kvs : List (Key × V)} {z : Str} {v : V} {H : Hp} {N : Hp → Prop} (h : H a = some (.dK kvs)) (hl : kvs.length < sizeLine) (q : ∀ kvs' H', But a H H' → H' a = some (.dK kvs') → kvs'.length ≤ kvs.length + 1 → (∀ j : Str, valV kvs' (.inr j) = if j = z then some v else valV kvs (.inr j)) → N H') : rDP (.ref a) (.str z) v H N :=
  ⟨a, _, rfl, DPut.k (k := .inr z) h hl, q _ _ But.upd upd_same putK_le fun j => by
    rw [valV_put]
    by_cases e : j = z
    · rw [if_pos e, if_pos (by rw [e])]
    · rw [if_neg e, if_neg fun w => e (Sum.inr.inj w)]⟩
/-- a dict written out -/
def rDispE (p : Addr) (ps : List (V × V)) (H : Hp) (Q : VK) : Prop := H p = some (.dK []) ∧ ∃ kvs : List (Key × V), ps = kvs.map (fun kv => (kV kv.1, kv.2)) ∧ kvs.length ≤ 15 ∧ Q (.ref p) (upd H p (.dK (mergeK [] kvs)))
theorem k_dispG {trs : List (TE × TE)} {σ : L2.St} {H : Hp} {Q : VK} (q : ∀ p H1, H p = none → Same H H1 → H1 p = some (.dK []) → tPairs trs σ H1 fun ps H2 => rDispE p ps H2 Q) : tDisp trs σ H Q := fun p hp => q p _ hp (same_new hp) upd_same
theorem k_pairC {tk tv : TE} {r : List (TE × TE)} {σ : L2.St} {H : Hp} {Q : List (V × V) → Hp → Prop} (q : tk σ H fun x H1 => tv σ H1 fun y H2 => tPairs r σ H2 fun ps H3 => Q ((x, y) :: ps) H3) : tPairs ((tk, tv) :: r) σ H Q := q
theorem k_pair0 {σ : L2.St} {H : Hp} {Q : List (V × V) → Hp → Prop} (q : Q [] H) : tPairs [] σ H Q := q
theorem merge_look : ∀ (zs : List (Str × V)) (acc : List (Key × V)) (j : Str), valV (mergeK acc (zs.map fun z => (Sum.inr z.1, z.2))) (.inr j) = match zs.reverse.lookup j with | some v => some v | none => valV acc (.inr j)
  | [], acc, j => rfl
  | (z, v) :: r, acc, j => by
    have ih := merge_look r (putK acc (.inr z) v) j
    rw [List.map_cons]
    show valV (mergeK (putK acc (.inr z) v) _) _ = _
    rw [ih, valV_put, List.reverse_cons, List.lookup_append]
    cases r.reverse.lookup j with
    | some w => rfl
    | none =>
      by_cases e : j = z
      · subst e
        rw [if_pos rfl]
        simp [List.lookup]
      · have e2 : (j == z) = false := beq_eq_false_iff_ne.mpr e
        rw [if_neg fun w => e (Sum.inr.inj w)]
        simp [List.lookup, e2]
theorem merge_len : ∀ (zs acc : List (Key × V)), (mergeK acc zs).length ≤ acc.length + zs.length
  | [], acc => Nat.le_refl _
  | (k, v) :: r, acc => by
    have := merge_len r (putK acc k v)
    have h := putK_le (kvs := acc) (k := k) (v := v)
    show (mergeK (putK acc k v) r).length ≤ _
    rw [List.length_cons]
    omega
theorem k_dispX {p : Addr} {ps : List (V × V)} {H : Hp} {Q : VK} (zs : List (Str × V)) (h : H p = some (.dK [])) (e : ps = zs.map fun z => (V.str z.1, z.2)) (l : zs.length ≤ 15)
    (q : ∀ kvs H', But p H H' → H' p = some (.dK kvs) → kvs.length ≤ 15 → (∀ j : Str, valV kvs (.inr j) = zs.reverse.lookup j) → Q (.ref p) H') : rDispE p ps H Q := by
  refine ⟨h, zs.map fun z => (Sum.inr z.1, z.2), ?_, by rw [List.length_map]; exact l, q _ _ But.upd upd_same ?_ fun j => ?_⟩
  · rw [e, List.map_map]; rfl
  · have := merge_len (zs.map fun z => ((Sum.inr z.1 : Key), z.2)) []
    rw [List.length_map] at this
    simpa using Nat.le_trans this (by simpa using l)
  · rw [merge_look]
    cases zs.reverse.lookup j <;> rfl
end Gx
namespace Gx
open PySem PySem.Spec PyProof.Rows L2
/-- d[z] = v, where z is a key already -/
theorem k_dpe {a : Addr} {kvs : List (Key × V)} {z : Str} {u v : V} {H : Hp} {N : Hp → Prop} (h : H a = some (.dK kvs)) (e : valV kvs (.inr z) = some u) (hl : kvs.length < sizeLine) (q : ∀ kvs' H', But a H H' → H' a = some (.dK kvs') → kvs'.length = kvs.length → (∀ j : Str, valV kvs' (.inr j) = if j = z then some v else valV kvs (.inr j)) → N H') : rDP (.ref a) (.str z) v H N := by
  have len : (putK kvs (Sum.inr z : Key) v).length = kvs.length := by
    unfold putK
    rw [if_pos (by rw [valV_any, e]; rfl), List.length_map]
  exact ⟨a, _, rfl, DPut.k (k := .inr z) h hl, q _ _ But.upd upd_same len fun j => by
    rw [valV_put]
    by_cases e : j = z
    · rw [if_pos e, if_pos (by rw [e])]
    · rw [if_neg e, if_neg fun w => e (Sum.inr.inj w)]⟩
end Gx
open PySem PySem.Spec PyProof.Rows L2 Gx
local macro_rules | `(tactic| walk_at "s1") => `(tactic| first
  | refine k_var rfl ?_ | refine k_c ?_ | refine k_op ?_ | refine k_seq ?_ | refine k_asg ?_ | refine k_gn ?_ | refine k_gcons ?_ | refine k_gnil ?_ | refine k_ifs ?_ | refine k_tst ?_ | refine k_B ?_ | refine k_bl ?_
  | refine k_ret ?_ | refine k_drop ?_ | refine k_next ?_ | refine k_par ?_ | refine k_two ?_ | refine k_for ?_ | refine k_iRng1 ?_ | refine k_iRng2 ?_ | refine k_iList ?_ | refine k_iTup ?_ | refine k_iSeqU ?_
  | refine k_cb ?_ | refine k_cons ?_ | refine k_nil ?_ | refine k_callS ?_ | refine k_call ?_ | refine k_tup0 ?_ | refine k_lst0 ?_ | refine k_bm0 ?_ | refine k_bm ?_
  | refine k_and ?_ | refine k_or ?_ | refine k_not ?_ | refine k_andV ?_ | refine k_orV ?_ | refine k_notV ?_ | refine k_ife ?_ | refine k_chain ?_ | refine k_un ?_ | refine k_rev ?_ | refine k_st ?_ | refine k_revT ?_
  | refine k_I0 ?_ | refine k_addI ?_ | refine k_eqI ?_ | refine k_neI ?_ | refine k_eqT ?_ | refine k_neT ?_ | refine k_eqB ?_ | refine k_neB ?_ | refine k_neg ?_
  | refine k_dget ?_ | refine k_dput ?_ | refine k_pairC ?_ | refine k_pair0 ?_ | refine k_fld ?_ | refine k_sfld ?_ | refine k_meth ?_ | refine k_make ?_ | refine k_makeB ?_ | refine k_makeS ?_ | refine k_revR ?_ | refine k_iEnum ?_ | refine k_iEnumT ?_ | refine k_isBl ?_ | refine k_notBl ?_ | refine k_lenSetT ?_ | refine k_mk0 ?_ | refine k_mkF ?_ | refine k_iZipM ?_ | refine k_iZipN ?_ | refine k_iStr ?_ | refine k_itS ?_ | refine k_iZipU ?_ | refine k_cntT ?_ | refine k_veI ?_ | refine k_ost ?_ | refine k_xf ?_ | refine k_aug rfl ?_ | refine k_ip ?_ | refine k_frz ?_ | refine k_gsub ?_ | refine k_m1 ?_ | refine k_m0 ?_ | refine k_isS ?_ | refine k_abs ?_ | refine k_max ?_ | refine k_min ?_ | refine k_intI ?_ | refine k_intB ?_ | refine k_lc ?_ | refine k_yes ?_ | refine k_listRg ?_ | refine k_rg1 ?_ | refine k_sl ?_ | refine k_part ?_ | refine k_noPart ?_ | refine k_int ?_ | refine k_dict0 ?_ | refine k_isN ?_ | refine k_notN ?_
  | refine k_nonT ?_ | refine k_nonF ?_ | refine k_refT ?_ | refine k_refF ?_ | refine k_blT ?_ | refine k_blF ?_ | refine k_strT ?_ | refine k_strF ?_ | refine k_ifT ?_ | refine k_ifF ?_ | refine k_ifnT ?_ | refine k_ifnF ?_)
local macro_rules | `(tactic| walk_at "s2") => `(tactic| first
  | refine k_powc (a := 10) (b := 61) (c := 10000000000000000000000000000000000000000000000000000000000000) (by decide +kernel) (cpow (by decide) (by decide) (by decide)) ?_
  | refine k_powc (a := 10) (b := 60) (c := 1000000000000000000000000000000000000000000000000000000000000) (by decide +kernel) (cpow (by decide) (by decide) (by decide)) ?_
  | refine k_powc (a := 10) (b := 12) (c := 1000000000000) (by decide +kernel) (cpow (by decide) (by decide) (by decide)) ?_
  | refine k_powc (a := 10) (b := 5) (c := 100000) (by decide +kernel) (cpow (by decide) (by decide) (by decide)) ?_
  | refine k_powc (a := 10) (b := 6) (c := 1000000) (by decide +kernel) (cpow (by decide) (by decide) (by decide)) ?_
  | refine k_powc (a := 10) (b := 9) (c := 1000000000) (by decide +kernel) (cpow (by decide) (by decide) (by decide)) ?_
  | refine k_powc (a := 10) (b := 20) (c := 100000000000000000000) (by decide +kernel) (cpow (by decide) (by decide) (by decide)) ?_
  | refine k_powc (a := 10) (b := 50) (c := 100000000000000000000000000000000000000000000000000) (by decide +kernel) (cpow (by decide) (by decide) (by decide)) ?_
  | refine k_powc (a := 10) (b := 58) (c := 10000000000000000000000000000000000000000000000000000000000) (by decide +kernel) (cpow (by decide) (by decide) (by decide)) ?_
  | refine k_mod (by first | decide | omega) ?_
  | refine k_div (by first | decide | omega) (by first | decide +kernel | exact k_log (by omega)) ?_)
local macro_rules | `(tactic| walk_at "go") => `(tactic| repeat (first | with_reducible walk_at "s1" | with_reducible walk_at "s2"))
local macro_rules | `(tactic| walk_at "up") => `(tactic| first | assumption | (refine up_same (by assumption) ?_; walk_at "up") | (refine up_but (by assumption) (by first | assumption | (apply Ne.symm; assumption)) ?_; walk_at "up"))
local macro_rules | `(tactic| walk_at "ut") => `(tactic| first | assumption | exact SqT.of (by assumption) | (refine seqT_same (by assumption) ?_; walk_at "ut"))
local macro_rules | `(tactic| walk_at "ul") => `(tactic| first | assumption | exact SqL.of (by assumption) | (refine seqL_same (by assumption) ?_; walk_at "ul"))
local macro_rules | `(tactic| walk_at "n") => `(tactic| first | with_reducible walk_at "s1" | with_reducible walk_at "s2")
local macro_rules | `(tactic| walk_at "lk") => `(tactic| first | exact lk1 | (apply lkn; (decide +kernel); walk_at "lk"))
local macro_rules | `(tactic| walk_at "lz") => `(tactic| first | exact lk0 | (apply lkz; (decide +kernel); walk_at "lz"))
local macro_rules | `(tactic| walk_at "pf") => `(tactic| first | rfl | (rw [pfn]; (walk_at "pf"); (decide +kernel)) | (rw [pf1]; walk_at "pf") | (rw [pf0]; walk_at "pf"))
local macro_rules | `(tactic| walk_at "pl") => `(tactic| first | (simp only [List.length_cons, List.length_nil]; done) | (simp only [List.length_cons, List.length_nil]; decide) | exact Nat.lt_of_lt_of_le pfl0 (by decide) | exact Nat.lt_of_lt_of_le (pfl pfl0) (by decide) | exact Nat.lt_of_lt_of_le (pfl (pfl pfl0)) (by decide) | exact Nat.lt_of_lt_of_le (pfl (pfl (pfl pfl0))) (by decide) | exact Nat.lt_of_lt_of_le (pfl (pfl (pfl (pfl pfl0)))) (by decide) | exact Nat.lt_of_lt_of_le (pfl (pfl (pfl (pfl (pfl pfl0))))) (by decide) | exact Nat.lt_of_lt_of_le (pfl (pfl (pfl (pfl (pfl (pfl pfl0)))))) (by decide) | exact Nat.lt_of_lt_of_le (pfl (pfl (pfl (pfl (pfl (pfl (pfl pfl0))))))) (by decide) | exact Nat.lt_of_lt_of_le (pfl (pfl (pfl (pfl (pfl (pfl (pfl (pfl pfl0)))))))) (by decide) | exact Nat.lt_of_lt_of_le (pfl (pfl (pfl (pfl (pfl (pfl (pfl (pfl (pfl pfl0))))))))) (by decide) | (simp; done))
local macro_rules | `(tactic| walk_at "st") => `(tactic| repeat (first | with_reducible refine k_next ?_ | with_reducible refine k_seq ?_))
namespace Lw
open PySem PySem.Spec PyProof.Rows L2 Gx
def top (i : Nat) : Stmt := PySem.Challenge.pw_surecount_k18_no_outcomes.main.body.getD i (.Pass ⟨0, 0, 0, 0⟩)
abbrev s_Beats___init__ : Stmt := inClass (top 27) 0
theorem sc_Beats___init__ : FnScope ["self", "one", "other"] ["self", "one", "other"] (defScope s_Beats___init__) := ⟨rfl, rfl, rfl, by decide +kernel, rfl, by decide +kernel, by decide +kernel⟩
abbrev s_Over___init__ : Stmt := inClass (top 28) 0
theorem sc_Over___init__ : FnScope ["self", "name", "share"] ["self", "name", "share"] (defScope s_Over___init__) := ⟨rfl, rfl, rfl, by decide +kernel, rfl, by decide +kernel, by decide +kernel⟩
abbrev s_Under___init__ : Stmt := inClass (top 29) 0
theorem sc_Under___init__ : FnScope ["self", "name", "share"] ["self", "name", "share"] (defScope s_Under___init__) := ⟨rfl, rfl, rfl, by decide +kernel, rfl, by decide +kernel, by decide +kernel⟩
abbrev s_Contest___init__ : Stmt := inClass (top 31) 0
theorem sc_Contest___init__ : FnScope ["self", "names"] ["self", "names"] (defScope s_Contest___init__) := ⟨rfl, rfl, rfl, by decide +kernel, rfl, by decide +kernel, by decide +kernel⟩
abbrev s_Contest_claims : Stmt := inClass (top 31) 4
theorem sc_Contest_claims : FnScope ["self", "outcome"] ["self", "outcome"] (defScope s_Contest_claims) := ⟨rfl, rfl, rfl, by decide +kernel, rfl, by decide +kernel, by decide +kernel⟩
abbrev s_Most___init__ : Stmt := inClass (top 32) 0
theorem sc_Most___init__ : FnScope ["self", "names", "seats"] ["self", "names", "seats"] (defScope s_Most___init__) := ⟨rfl, rfl, rfl, by decide +kernel, rfl, by decide +kernel, by decide +kernel⟩
abbrev s_Most_claims : Stmt := inClass (top 32) 2
theorem sc_Most_claims : FnScope ["self", "outcome", "found", "one", "other", "name"] ["self", "outcome"] (defScope s_Most_claims) := ⟨rfl, rfl, rfl, by decide +kernel, rfl, by decide +kernel, by decide +kernel⟩
abbrev s_Portion___init__ : Stmt := inClass (top 33) 0
theorem sc_Portion___init__ : FnScope ["self", "names", "share"] ["self", "names", "share"] (defScope s_Portion___init__) := ⟨rfl, rfl, rfl, by decide +kernel, rfl, by decide +kernel, by decide +kernel⟩
abbrev s_Portion_claims : Stmt := inClass (top 33) 2
theorem sc_Portion_claims : FnScope ["self", "outcome", "name"] ["self", "outcome"] (defScope s_Portion_claims) := ⟨rfl, rfl, rfl, by decide +kernel, rfl, by decide +kernel, by decide +kernel⟩
abbrev s__law_source : Stmt := top 35
theorem sc__law_source : FnScope ["_law_script", "_law_cells", "_law_k", "_law_number", "_law_other", "_law_cell"] ["_law_script"] (defScope s__law_source) := ⟨rfl, rfl, rfl, by decide +kernel, rfl, by decide +kernel, by decide +kernel⟩
abbrev s__law_draw : Stmt := top 36
theorem sc__law_draw : FnScope ["_law_source_here", "_law_most", "_law_at", "_law_cell"] ["_law_source_here", "_law_most"] (defScope s__law_draw) := ⟨rfl, rfl, rfl, by decide +kernel, rfl, by decide +kernel, by decide +kernel⟩
abbrev s__law_unlike : Stmt := top 37
theorem sc__law_unlike : FnScope ["_law_source_here", "_law_many", "_law_letters", "_law_k", "_law_base", "_law_at", "_law_first", "_law_found"] ["_law_source_here", "_law_many"] (defScope s__law_unlike) := ⟨rfl, rfl, rfl, by decide +kernel, rfl, by decide +kernel, by decide +kernel⟩
abbrev s__law_lowest : Stmt := top 38
theorem sc__law_lowest : FnScope ["_law_a", "_law_b", "_law_one", "_law_other"] ["_law_a", "_law_b"] (defScope s__law_lowest) := ⟨rfl, rfl, rfl, by decide +kernel, rfl, by decide +kernel, by decide +kernel⟩
abbrev s__law_half : Stmt := top 39
theorem sc__law_half : FnScope ["_law_source_here", "_law_whole", "_law_least"] ["_law_source_here"] (defScope s__law_half) := ⟨rfl, rfl, rfl, by decide +kernel, rfl, by decide +kernel, by decide +kernel⟩
abbrev s__law_mixed_up : Stmt := top 40
theorem sc__law_mixed_up : FnScope ["_law_source_here", "_law_names", "_law_found", "_law_name"] ["_law_source_here", "_law_names"] (defScope s__law_mixed_up) := ⟨rfl, rfl, rfl, by decide +kernel, rfl, by decide +kernel, by decide +kernel⟩
abbrev s__law_bent : Stmt := top 41
theorem sc__law_bent : FnScope ["_law_source_here", "_law_chosen", "_law_names", "_law_way", "_law_some", "_law_at"] ["_law_source_here", "_law_chosen", "_law_names"] (defScope s__law_bent) := ⟨rfl, rfl, rfl, by decide +kernel, rfl, by decide +kernel, by decide +kernel⟩
abbrev s__law_thing : Stmt := top 42
theorem sc__law_thing : FnScope ["_law_source_here", "_law_names", "_law_some"] ["_law_source_here", "_law_names"] (defScope s__law_thing) := ⟨rfl, rfl, rfl, by decide +kernel, rfl, by decide +kernel, by decide +kernel⟩
abbrev s__law_refused : Stmt := top 43
theorem sc__law_refused : FnScope ["_law_contest", "_law_thing_here", "_law_kinds", "e", "_law_others", "_law_right"] ["_law_contest", "_law_thing_here"] (defScope s__law_refused) := ⟨rfl, rfl, rfl, by decide +kernel, rfl, by decide +kernel, by decide +kernel⟩
abbrev s__law_could : Stmt := top 44
theorem sc__law_could : FnScope ["_law_thing_here", "_law_names", "_law_seats", "_law_name"] ["_law_thing_here", "_law_names", "_law_seats"] (defScope s__law_could) := ⟨rfl, rfl, rfl, by decide +kernel, rfl, by decide +kernel, by decide +kernel⟩
abbrev s__law_asked : Stmt := top 45
theorem sc__law_asked : FnScope ["_law_contest", "_law_thing_here", "_law_due", "_law_wanted"] ["_law_contest", "_law_thing_here", "_law_due"] (defScope s__law_asked) := ⟨rfl, rfl, rfl, by decide +kernel, rfl, by decide +kernel, by decide +kernel⟩
abbrev s_law : Stmt := top 46
theorem sc_law : FnScope ["_law_script", "_law_source_here", "_law_names", "_law_seats", "_law_chosen", "_law_k", "_law_most", "_law_portion", "_law_things", "_law_thing_here", "_law_one"] ["_law_script"] (defScope s_law) := ⟨rfl, rfl, rfl, by decide +kernel, rfl, by decide +kernel, by decide +kernel⟩
abbrev FnP (K : PySem.W.Frag) (x q : Str) (st : Stmt) (f : Addr) (fd : FuncData) : Prop := FunD K x q (defArgs st) (defBody st) (defScope st) [] [] f fd
structure Txt (K : PySem.W.Frag) (mg : Str → Option Value) : Prop where
  n_ValueError : mg "ValueError" = none
  n_abs : mg "abs" = none
  n_enumerate : mg "enumerate" = none
  n_int : mg "int" = none
  n_isinstance : mg "isinstance" = none
  n_len : mg "len" = none
  n_list : mg "list" = none
  n_range : mg "range" = none
  n_sorted : mg "sorted" = none
  n_sum : mg "sum" = none
  n_tuple : mg "tuple" = none
  n_zip : mg "zip" = none
  c_Ended : ∃ u, mg "Ended" = some u ∧ RelV (.ref (He.ga K "Ended")) u
  c_HALF : ∃ u, mg "HALF" = some u ∧ RelV (.ref (He.ga K "HALF")) u
  t_HALF : ∀ H, SqT K H (He.ga K "HALF") [V.int 1, V.int 2]
  c_NOUGHT : ∃ u, mg "NOUGHT" = some u ∧ RelV (.ref (He.ga K "NOUGHT")) u
  t_NOUGHT : ∀ H, SqT K H (He.ga K "NOUGHT") [V.int 0, V.int 1]
  c_NoBallot : ∃ u, mg "NoBallot" = some u ∧ RelV (.ref (He.ga K "NoBallot")) u
  c_NoFraction : ∃ u, mg "NoFraction" = some u ∧ RelV (.ref (He.ga K "NoFraction")) u
  c_NoMargin : ∃ u, mg "NoMargin" = some u ∧ RelV (.ref (He.ga K "NoMargin")) u
  c_NoName : ∃ u, mg "NoName" = some u ∧ RelV (.ref (He.ga K "NoName")) u
  c_NoNumber : ∃ u, mg "NoNumber" = some u ∧ RelV (.ref (He.ga K "NoNumber")) u
  c_NoOutcome : ∃ u, mg "NoOutcome" = some u ∧ RelV (.ref (He.ga K "NoOutcome")) u
  c_NoRow : ∃ u, mg "NoRow" = some u ∧ RelV (.ref (He.ga K "NoRow")) u
  c_NoStake : ∃ u, mg "NoStake" = some u ∧ RelV (.ref (He.ga K "NoStake")) u
  c_NoText : ∃ u, mg "NoText" = some u ∧ RelV (.ref (He.ga K "NoText")) u
  c_ONE : ∃ u, mg "ONE" = some u ∧ RelV (.ref (He.ga K "ONE")) u
  t_ONE : ∀ H, SqT K H (He.ga K "ONE") [V.int 1, V.int 1]
  c_TooMany : ∃ u, mg "TooMany" = some u ∧ RelV (.ref (He.ga K "TooMany")) u
  cl_Contest : Cls K (He.ga K "Contest")
  f_Contest_names : NoAttr K (He.ga K "Contest") "names"
  cl_Beats : Cls K (He.ga K "Beats")
  f_Beats_one : NoAttr K (He.ga K "Beats") "one"
  f_Beats_other : NoAttr K (He.ga K "Beats") "other"
  cl_Over : Cls K (He.ga K "Over")
  f_Over_name : NoAttr K (He.ga K "Over") "name"
  f_Over_share : NoAttr K (He.ga K "Over") "share"
  cl_Under : Cls K (He.ga K "Under")
  f_Under_name : NoAttr K (He.ga K "Under") "name"
  f_Under_share : NoAttr K (He.ga K "Under") "share"
  cl_Portion : Cls K (He.ga K "Portion")
  f_Portion_share : NoAttr K (He.ga K "Portion") "share"
  f_Portion_names : NoAttr K (He.ga K "Portion") "names"
  cl_Most : Cls K (He.ga K "Most")
  f_Most_seats : NoAttr K (He.ga K "Most") "seats"
  f_Most_names : NoAttr K (He.ga K "Most") "names"
  su_Contest___init__ : ClX.CRead K (He.ga K "Contest") (.type "type") ∧ PySem.W.findCls K (.ref (He.ga K "Contest")) (.type "type") "__init__" = some (.val (.ref (He.ma K (He.ga K "Contest") "__init__"))) ∧ PySem.W.keepIn K (.ref (He.ma K (He.ga K "Contest") "__init__")) = true
  gs_Contest___init__ : mg "Contest" = some (.ref (He.ga K "Contest"))
  mk_Beats : Mk K (He.ga K "Beats") (He.ma K (He.ga K "Beats") "__init__")
  gk_Beats : mg "Beats" = some (.ref (He.ga K "Beats"))
  mk_Over : Mk K (He.ga K "Over") (He.ma K (He.ga K "Over") "__init__")
  gk_Over : mg "Over" = some (.ref (He.ga K "Over"))
  mk_Under : Mk K (He.ga K "Under") (He.ma K (He.ga K "Under") "__init__")
  gk_Under : mg "Under" = some (.ref (He.ga K "Under"))
  me_Contest_claims : Meth K (He.ga K "Contest") "claims" (He.ma K (He.ga K "Contest") "claims")
  me_Portion_claims : Meth K (He.ga K "Portion") "claims" (He.ma K (He.ga K "Portion") "claims")
  me_Most_claims : Meth K (He.ga K "Most") "claims" (He.ma K (He.ga K "Most") "claims")
  mk_Contest : Mk K (He.ga K "Contest") (He.ma K (He.ga K "Contest") "__init__")
  gk_Contest : mg "Contest" = some (.ref (He.ga K "Contest"))
  mk_Portion : Mk K (He.ga K "Portion") (He.ma K (He.ga K "Portion") "__init__")
  gk_Portion : mg "Portion" = some (.ref (He.ga K "Portion"))
  mk_Most : Mk K (He.ga K "Most") (He.ma K (He.ga K "Most") "__init__")
  gk_Most : mg "Most" = some (.ref (He.ga K "Most"))
  g_NoOutcome : mg "NoOutcome" = some (.ref (He.ga K "NoOutcome"))
  g_SureError : mg "SureError" = some (.ref (He.ga K "SureError"))
  e_NoOutcome : ExcC K (He.ga K "NoOutcome")
  i_NoOutcome_Ended : PySem.W.kitOne K (.ref (He.ga K "NoOutcome")) (.ref (He.ga K "Ended")) = some false
  i_NoOutcome_NoBallot : PySem.W.kitOne K (.ref (He.ga K "NoOutcome")) (.ref (He.ga K "NoBallot")) = some false
  i_NoOutcome_NoFraction : PySem.W.kitOne K (.ref (He.ga K "NoOutcome")) (.ref (He.ga K "NoFraction")) = some false
  i_NoOutcome_NoMargin : PySem.W.kitOne K (.ref (He.ga K "NoOutcome")) (.ref (He.ga K "NoMargin")) = some false
  i_NoOutcome_NoName : PySem.W.kitOne K (.ref (He.ga K "NoOutcome")) (.ref (He.ga K "NoName")) = some false
  i_NoOutcome_NoNumber : PySem.W.kitOne K (.ref (He.ga K "NoOutcome")) (.ref (He.ga K "NoNumber")) = some false
  i_NoOutcome_NoOutcome : PySem.W.kitOne K (.ref (He.ga K "NoOutcome")) (.ref (He.ga K "NoOutcome")) = some true
  i_NoOutcome_NoRow : PySem.W.kitOne K (.ref (He.ga K "NoOutcome")) (.ref (He.ga K "NoRow")) = some false
  i_NoOutcome_NoStake : PySem.W.kitOne K (.ref (He.ga K "NoOutcome")) (.ref (He.ga K "NoStake")) = some false
  i_NoOutcome_NoText : PySem.W.kitOne K (.ref (He.ga K "NoOutcome")) (.ref (He.ga K "NoText")) = some false
  i_NoOutcome_TooMany : PySem.W.kitOne K (.ref (He.ga K "NoOutcome")) (.ref (He.ga K "TooMany")) = some false
  i_NoOutcome_ValueError : PySem.W.kitOne K (.ref (He.ga K "NoOutcome")) (.type "ValueError") = some true
  m_NoOutcome_SureError : PySem.W.exmOne K (.ref (He.ga K "NoOutcome")) (.ref (He.ga K "SureError")) = some true
  x_NoOutcome : PySem.W.excIn K (He.ga K "NoOutcome") He.veBase "ValueError.__new__" = true ∧ PySem.W.keepIn K (.ref (He.ga K "NoOutcome")) = true ∧ PySem.W.subIn K (.ref (He.ga K "NoOutcome")) (.type "BaseException") = some true ∧ PySem.W.typeIn K (.ref (He.ga K "NoOutcome")) = some (.type "type")
end Lw
namespace Lw
open PySem PySem.Spec PyProof.Rows L2 Gx
def d_Beats___init__ : He.DefD := ⟨("Beats", some "__init__"), "__init__", "Beats.__init__", defArgs s_Beats___init__, defBody s_Beats___init__, defScope s_Beats___init__, [], []⟩
def d_Over___init__ : He.DefD := ⟨("Over", some "__init__"), "__init__", "Over.__init__", defArgs s_Over___init__, defBody s_Over___init__, defScope s_Over___init__, [], []⟩
def d_Under___init__ : He.DefD := ⟨("Under", some "__init__"), "__init__", "Under.__init__", defArgs s_Under___init__, defBody s_Under___init__, defScope s_Under___init__, [], []⟩
def d_Contest___init__ : He.DefD := ⟨("Contest", some "__init__"), "__init__", "Contest.__init__", defArgs s_Contest___init__, defBody s_Contest___init__, defScope s_Contest___init__, [], []⟩
def d_Contest_claims : He.DefD := ⟨("Contest", some "claims"), "claims", "Contest.claims", defArgs s_Contest_claims, defBody s_Contest_claims, defScope s_Contest_claims, [], []⟩
def d_Most___init__ : He.DefD := ⟨("Most", some "__init__"), "__init__", "Most.__init__", defArgs s_Most___init__, defBody s_Most___init__, defScope s_Most___init__, [], []⟩
def d_Most_claims : He.DefD := ⟨("Most", some "claims"), "claims", "Most.claims", defArgs s_Most_claims, defBody s_Most_claims, defScope s_Most_claims, [], []⟩
def d_Portion___init__ : He.DefD := ⟨("Portion", some "__init__"), "__init__", "Portion.__init__", defArgs s_Portion___init__, defBody s_Portion___init__, defScope s_Portion___init__, [], []⟩
def d_Portion_claims : He.DefD := ⟨("Portion", some "claims"), "claims", "Portion.claims", defArgs s_Portion_claims, defBody s_Portion_claims, defScope s_Portion_claims, [], []⟩
def d__law_source : He.DefD := ⟨("_law_source", none), "_law_source", "_law_source", defArgs s__law_source, defBody s__law_source, defScope s__law_source, [], []⟩
def d__law_draw : He.DefD := ⟨("_law_draw", none), "_law_draw", "_law_draw", defArgs s__law_draw, defBody s__law_draw, defScope s__law_draw, [], []⟩
def d__law_unlike : He.DefD := ⟨("_law_unlike", none), "_law_unlike", "_law_unlike", defArgs s__law_unlike, defBody s__law_unlike, defScope s__law_unlike, [], []⟩
def d__law_lowest : He.DefD := ⟨("_law_lowest", none), "_law_lowest", "_law_lowest", defArgs s__law_lowest, defBody s__law_lowest, defScope s__law_lowest, [], []⟩
def d__law_half : He.DefD := ⟨("_law_half", none), "_law_half", "_law_half", defArgs s__law_half, defBody s__law_half, defScope s__law_half, [], []⟩
def d__law_mixed_up : He.DefD := ⟨("_law_mixed_up", none), "_law_mixed_up", "_law_mixed_up", defArgs s__law_mixed_up, defBody s__law_mixed_up, defScope s__law_mixed_up, [], []⟩
def d__law_bent : He.DefD := ⟨("_law_bent", none), "_law_bent", "_law_bent", defArgs s__law_bent, defBody s__law_bent, defScope s__law_bent, [], []⟩
def d__law_thing : He.DefD := ⟨("_law_thing", none), "_law_thing", "_law_thing", defArgs s__law_thing, defBody s__law_thing, defScope s__law_thing, [], []⟩
def d__law_refused : He.DefD := ⟨("_law_refused", none), "_law_refused", "_law_refused", defArgs s__law_refused, defBody s__law_refused, defScope s__law_refused, [], []⟩
def d__law_could : He.DefD := ⟨("_law_could", none), "_law_could", "_law_could", defArgs s__law_could, defBody s__law_could, defScope s__law_could, [], []⟩
def d__law_asked : He.DefD := ⟨("_law_asked", none), "_law_asked", "_law_asked", defArgs s__law_asked, defBody s__law_asked, defScope s__law_asked, [], []⟩
def d_law : He.DefD := ⟨("law", none), "law", "law", defArgs s_law, defBody s_law, defScope s_law, [], []⟩
def fn : List He.DefD := [d_Beats___init__, d_Over___init__, d_Under___init__, d_Contest___init__, d_Contest_claims, d_Most___init__, d_Most_claims, d_Portion___init__, d_Portion_claims, d__law_source, d__law_draw, d__law_unlike, d__law_lowest, d__law_half, d__law_mixed_up, d__law_bent, d__law_thing, d__law_refused, d__law_could, d__law_asked, d_law]
def fa : List He.Fa := [.free "ValueError", .free "abs", .free "enumerate", .free "int", .free "isinstance", .free "len", .free "list", .free "range", .free "sorted", .free "sum", .free "tuple", .free "zip", .glo "Ended", .glo "HALF", .glo "NOUGHT", .glo "NoBallot", .glo "NoFraction", .glo "NoMargin", .glo "NoName", .glo "NoNumber", .glo "NoOutcome", .glo "NoRow", .glo "NoStake", .glo "NoText", .glo "ONE", .glo "TooMany", .cls "Contest", .noat "Contest" "names", .cls "Beats", .noat "Beats" "one", .noat "Beats" "other", .cls "Over", .noat "Over" "name", .noat "Over" "share", .cls "Under", .noat "Under" "name", .noat "Under" "share", .cls "Portion", .noat "Portion" "share", .noat "Portion" "names", .cls "Most", .noat "Most" "seats", .noat "Most" "names", .glo "Contest", .mkr "Beats", .glo "Beats", .mkr "Over", .glo "Over", .mkr "Under", .glo "Under", .meth "Contest" "claims", .meth "Portion" "claims", .meth "Most" "claims", .mkr "Contest", .glo "Contest", .mkr "Portion", .glo "Portion", .mkr "Most", .glo "Most", .glo "NoOutcome", .glo "SureError", .exm "NoOutcome" "SureError" true, .exc "NoOutcome", .glo "_law_source", .glo "_law_draw", .glo "_law_unlike", .glo "_law_lowest", .glo "_law_half", .glo "_law_mixed_up", .glo "_law_bent", .glo "_law_thing", .glo "_law_refused", .glo "_law_could", .glo "_law_asked", .glo "law"]
abbrev R : PySem.W.OpenRow := PySem.W.OpenLaw.row PySem.Challenge.rw_surecount_k18_no_outcomes
def exl : List (PySem.W.Frag → Bool) := [fun K => supmB K "Contest" "__init__", fun K => He.tupB K "HALF" [.int 1, .int 2], fun K => He.tupB K "NOUGHT" [.int 0, .int 1], fun K => He.tupB K "ONE" [.int 1, .int 1], fun K => excB K "NoOutcome", fun K => kitB2 K "NoOutcome" (.ref (He.ga K "Ended")) false, fun K => kitB2 K "NoOutcome" (.ref (He.ga K "NoBallot")) false, fun K => kitB2 K "NoOutcome" (.ref (He.ga K "NoFraction")) false, fun K => kitB2 K "NoOutcome" (.ref (He.ga K "NoMargin")) false, fun K => kitB2 K "NoOutcome" (.ref (He.ga K "NoName")) false, fun K => kitB2 K "NoOutcome" (.ref (He.ga K "NoNumber")) false, fun K => kitB2 K "NoOutcome" (.ref (He.ga K "NoOutcome")) true, fun K => kitB2 K "NoOutcome" (.ref (He.ga K "NoRow")) false, fun K => kitB2 K "NoOutcome" (.ref (He.ga K "NoStake")) false, fun K => kitB2 K "NoOutcome" (.ref (He.ga K "NoText")) false, fun K => kitB2 K "NoOutcome" (.ref (He.ga K "TooMany")) false, fun K => kitB2 K "NoOutcome" (.type "ValueError") true]
def exB (K : PySem.W.Frag) : Bool := exl.all fun f => f K
def reachA : List PySem.Addr := ([3, 6, 4, 21, 31, 44, 56, 68, 80, 92, 104, 116, 128, 147, 166, 185, 194, 201, 208, 215, 222, 229, 236, 237] : List PySem.Addr) ++ ([238, 239, 282, 324, 364, 404, 449, 480, 511, 518, 525, 530, 537, 544, 551, 558, 565, 572, 577, 584, 589, 0, 20, 30] : List PySem.Addr) ++ ([43, 55, 67, 79, 91, 103, 115, 127, 146, 165, 184, 193, 200, 207, 214, 221, 228, 235, 281, 323, 363, 403, 448, 479] : List PySem.Addr) ++ ([510, 517, 524, 529, 536, 543, 550, 557, 564, 571, 576, 583, 588, 15, 16, 17, 18, 19, 29, 32, 42, 54, 66, 78] : List PySem.Addr) ++ ([90, 102, 114, 126, 144, 145, 163, 164, 182, 183, 188, 189, 190, 191, 192, 195, 196, 197, 198, 199, 202, 203, 204, 205] : List PySem.Addr) ++ ([206, 209, 210, 211, 212, 213, 216, 217, 218, 219, 220, 223, 224, 225, 226, 227, 230, 231, 232, 233, 234, 253, 260, 267] : List PySem.Addr) ++ ([272, 279, 280, 283, 284, 300, 307, 314, 321, 322, 340, 347, 354, 361, 362, 380, 387, 394, 401, 402, 420, 427, 432, 439] : List PySem.Addr) ++ ([446, 447, 450, 451, 467, 472, 477, 478, 496, 503, 508, 509, 514, 515, 516, 519, 520, 521, 522, 523, 526, 527, 528, 531] : List PySem.Addr) ++ ([532, 533, 534, 535, 538, 539, 540, 541, 542, 545, 546, 547, 548, 549, 552, 553, 554, 555, 556, 559, 560, 561, 562, 563] : List PySem.Addr) ++ ([566, 567, 568, 569, 570, 573, 574, 575, 578, 579, 580, 581, 582, 585, 586, 587, 143, 162, 181, 252, 259, 266, 271, 278] : List PySem.Addr) ++ ([299, 306, 313, 320, 339, 346, 353, 360, 379, 386, 393, 400, 419, 426, 431, 438, 445, 466, 471, 476, 495, 502, 507, 138] : List PySem.Addr) ++ ([139, 140, 141, 142, 157, 158, 159, 160, 161, 176, 177, 178, 179, 180, 247, 248, 249, 250, 251, 254, 255, 256, 257, 258] : List PySem.Addr) ++ ([261, 262, 263, 264, 265, 268, 269, 270, 273, 274, 275, 276, 277, 294, 295, 296, 297, 298, 301, 302, 303, 304, 305, 308] : List PySem.Addr) ++ ([309, 310, 311, 312, 315, 316, 317, 318, 319, 334, 335, 336, 337, 338, 341, 342, 343, 344, 345, 348, 349, 350, 351, 352] : List PySem.Addr) ++ ([355, 356, 357, 358, 359, 374, 375, 376, 377, 378, 381, 382, 383, 384, 385, 388, 389, 390, 391, 392, 395, 396, 397, 398] : List PySem.Addr) ++ ([399, 414, 415, 416, 417, 418, 421, 422, 423, 424, 425, 428, 429, 430, 433, 434, 435, 436, 437, 440, 441, 442, 443, 444] : List PySem.Addr) ++ ([461, 462, 463, 464, 465, 468, 469, 470, 473, 474, 475, 490, 491, 492, 493, 494, 497, 498, 499, 500, 501, 504, 505, 506] : List PySem.Addr) ++ ([2] : List PySem.Addr)
abbrev hk : PySem.W.Hook := Gx.hookA reachA fa fn exB
def ob (s : PySem.W.SharedT) : He.AlD × Bool := Gx.obsA reachA fa fn exB (HandSHeadRun.getT s)
theorem ob_eq (s : PySem.W.SharedT) : ob s = hk.obs s.abs := Gx.obsA_eq (HandSHeadRun.getT_eq s)
def loose : List PySem.Str := (["_wall", "in_common", "lowest", "plus", "minus", "over", "total", "below", "_law_source", "_law_draw", "_law_unlike", "_law_lowest", "_law_half", "_law_mixed_up", "_law_bent", "_law_thing"] : List PySem.Str) ++ (["_law_refused", "_law_could", "_law_asked", "SureError", "NoFraction", "NoOutcome", "NoNumber", "Ended", "NoMargin", "NoBallot", "NoRow", "NoName", "NoText", "TooMany", "NoStake", "Claim"] : List PySem.Str) ++ (["Beats", "Over", "Under", "Contest", "Most", "Portion", "NOUGHT", "HALF", "ONE"] : List PySem.Str)
def kof (s : PySem.W.SharedT) : PySem.W.Frag := He.frT (HandSHeadRun.getT s) reachA
def exT (s : PySem.W.SharedT) : Bool := exB (kof s)
open PySem PySem.W HandSHeadRun PySem.Calls in
theorem runB1 (w : World) : ∀ os : OsState, (HandSHeadRun.endF (HandSHeadRun.stepQ (HandSHeadRun.denQ HandSHeadRun.tabQ) R.prog w) 12000 R.prog w os).map (fun s => looksF R.prog (boot_heap w.params) s.abs) = some true := by
  intro os
  kernel_rfl
open PySem PySem.W HandSHeadRun PySem.Calls in
theorem runB2 (w : World) : ∀ os : OsState, (HandSHeadRun.endF (HandSHeadRun.stepQ (HandSHeadRun.denQ HandSHeadRun.tabQ) R.prog w) 12000 R.prog w os).map (fun s => ((fa.all fun f => f.ok (kof s)) && exT s)) = some true := by
  intro os
  kernel_rfl
open PySem PySem.W HandSHeadRun PySem.Calls in
theorem runB3 (w : World) : ∀ os : OsState, (HandSHeadRun.endF (HandSHeadRun.stepQ (HandSHeadRun.denQ HandSHeadRun.tabQ) R.prog w) 12000 R.prog w os).map (fun s => (fn.all fun d => d.ok (kof s))) = some true := by
  intro os
  kernel_rfl
open PySem PySem.W HandSHeadRun PySem.Calls in
theorem runS (w : World) : ∀ os : OsState, (HandSHeadRun.endF (HandSHeadRun.stepQ (HandSHeadRun.denQ HandSHeadRun.tabQ) R.prog w) 12000 R.prog w os).map (fun s => seenQ (PySem.W.view R.prog [46]) loose (importedModules R.prog.main.body) (fun s => xlAt (PySem.W.view R.prog [46]) [] s && recOk R.toRowW.records s) s.abs) = some (openGood (PySem.W.view R.prog [46]) loose) := by
  intro os
  kernel_rfl
open PySem PySem.W HandSHeadRun PySem.Calls in
theorem runF (w : World) : ∀ os : OsState, (HandSHeadRun.endF (HandSHeadRun.stepQ (HandSHeadRun.denQ HandSHeadRun.tabQ) R.prog w) 12000 R.prog w os).map (fun s => fn.map fun d => He.fnW (kof s) d.at_) = some (fn.map He.DefD.val) := by
  intro os
  kernel_rfl
theorem map3 {α γ ε : Type} {x : Option α} {l : α → Bool} {a b e : α → Bool} {g : α → γ} {h : α → ε} {vg : γ} {vh : ε} (h1 : x.map l = some true) (h4 : x.map (fun s => a s && e s) = some true) (h5 : x.map b = some true) (h2 : x.map g = some vg) (h3 : x.map h = some vh) : x.map (fun s => (l s, g s, ((a s && b s, h s), e s))) = some (true, vg, ((true, vh), true)) := by
  cases x with
  | none => cases h1
  | some s =>
    rw [Option.map_some] at h1 h2 h3 h4 h5 ⊢
    have k2 := Bool.and_eq_true_iff.mp (Option.some.inj h4)
    rw [Option.some.inj h1, k2.1, k2.2, Option.some.inj h5, Option.some.inj h2, Option.some.inj h3]
    rfl
theorem run (w : World) : HandSHeadRun.RunEq R (PySem.W.view R.prog [46]) hk ob 12000 loose w := fun os => map3 (runB1 w os) (runB2 w os) (runB3 w os) (runS w os) (runF w os)
end Lw
namespace Dk
open PySem PySem.Spec PyProof.Rows L2
theorem at_map {ns : List Int} {i : Int} (h0 : 0 ≤ i) (h1 : i < ns.length) : ∃ z : Int, atI (ns.map V.int) i = some (.int z) := by
  obtain ⟨n, rfl⟩ : ∃ n : Nat, i = (n : Int) := ⟨i.toNat, by omega⟩
  have hl : n < ns.length := by omega
  exact ⟨ns[n], atI_nat (by simp [hl])⟩
theorem dp_all {K : PySem.W.Frag} {H : Hp} : ∀ ns : List Int, DpAll K H (ns.map V.int) (ns.map PyData.int)
  | [] => .nil
  | n :: r => .cons (.int n) (dp_all r)
theorem dp_ints {K : PySem.W.Frag} {H : Hp} {a : Addr} {ns : List Int} (h : SqL K H a (ns.map V.int)) : Dp K H (.ref a) (.list (ns.map PyData.int)) := .lst h (dp_all ns)
theorem shaped_ints (ns : List Int) : SeqAt.shaped (.list (ns.map PyData.int)) = true := by
  have h : ∀ l : List Int, PyData.canLayAll0 (l.map PyData.int) = true ∧ PyData.depthAll (l.map PyData.int) = 0 := fun l => by
    induction l with
    | nil => exact ⟨by simp [PyData.canLayAll0], by simp [PyData.depthAll]⟩
    | cons n r ih => exact ⟨by simp [PyData.canLayAll0, PyData.canLay0, ih.1], by simp [PyData.depthAll, PyData.depth, ih.2]⟩
  obtain ⟨h1, h2⟩ := h ns
  simp [SeqAt.shaped, PyData.canLay0, PyData.depth, h1, h2]
theorem eqv_nil (ns : List Int) : (!PyData.eqv (.list (ns.map PyData.int)) (.list [])) = !ns.isEmpty := by
  cases ns <;> simp [PyData.eqv, PyData.eqvAll]
theorem last (ds : List Int) (h : 0 < ds.length) : ∃ es e, ds = es ++ [e] := ⟨ds.dropLast, ds.getLast (by intro z; rw [z] at h; exact absurd h (by decide)), (List.dropLast_concat_getLast _).symm⟩
theorem last2 (ds : List Int) (h : 1 < ds.length) : ∃ es e2 e1, ds = es ++ [e2, e1] := by
  obtain ⟨fs, e1, rfl⟩ := last ds (by omega)
  obtain ⟨es, e2, rfl⟩ := last fs (by simp at h; omega)
  exact ⟨es, e2, e1, by simp⟩
theorem last3 (ds : List Int) (h : 2 < ds.length) : ∃ es e3 e2 e1, ds = es ++ [e3, e2, e1] := by
  obtain ⟨fs, e1, rfl⟩ := last ds (by omega)
  obtain ⟨es, e3, e2, rfl⟩ := last2 fs (by simp at h; omega)
  exact ⟨es, e3, e2, e1, by simp⟩
theorem sub {P : Int → Prop} {es r : List Int} (h : ∀ d ∈ es ++ r, P d) : ∀ d ∈ es, P d := fun d hd => h d (List.mem_append_left _ hd)
theorem shaped_tints (ns : List Int) : SeqAt.shaped (.tuple (ns.map PyData.int)) = true := by
  have h : ∀ l : List Int, PyData.canLayAll0 (l.map PyData.int) = true ∧ PyData.depthAll (l.map PyData.int) = 0 := fun l => by
    induction l with
    | nil => exact ⟨by simp [PyData.canLayAll0], by simp [PyData.depthAll]⟩
    | cons n r ih => exact ⟨by simp [PyData.canLayAll0, PyData.canLay0, ih.1], by simp [PyData.depthAll, PyData.depth, ih.2]⟩
  obtain ⟨h1, h2⟩ := h ns
  simp [SeqAt.shaped, PyData.canLay0, PyData.depth, h1, h2]
theorem emod_le {a b : Int} (h : 0 ≤ a) (hb : 0 < b) : a % b ≤ a := by
  have e := Int.emod_add_mul_ediv a b
  have z := Int.mul_nonneg (Int.le_of_lt hb) (Int.ediv_nonneg h (Int.le_of_lt hb))
  omega
end Dk
namespace Lw
open PySem PySem.Spec PyProof.Rows L2 Gx
/-- a deck: a new list of so many numbers, each from 0 on, of at most 61 figures -/
def Deck (ds : List Int) : Prop := ∀ d ∈ ds, 0 ≤ d ∧ d < 10000000000000000000000000000000000000000000000000000000000000
theorem Deck.last {es : List Int} {e : Int} (h : Deck (es ++ [e])) : Deck es ∧ 0 ≤ e ∧ e < 10000000000000000000000000000000000000000000000000000000000000 := ⟨fun d hd => h d (List.mem_append_left _ hd), h e (by simp)⟩
end Lw
namespace Ct
open PySem PySem.Spec PyProof.Rows L2
theorem to {xs : List V} {k : Nat} (h : k ≤ xs.length) : cutV xs none (some (k : Int)) = xs.take k := by
  unfold cutV
  rw [HT.sIx_none, HT.sIx_nat, Nat.min_eq_left h]
  simp
theorem from_ {xs : List V} {k : Nat} (h : k ≤ xs.length) : cutV xs (some (k : Int)) none = xs.drop k := by
  unfold cutV
  rw [HT.sIx_none, HT.sIx_nat, Nat.min_eq_left h]
  rw [List.take_of_length_le]
  simp
theorem but1 {xs : List V} : cutV xs none (some (-1)) = xs.dropLast := by
  unfold cutV
  rw [HT.sIx_none]
  have e : HT.sIx xs.length xs.length (some (-1)) = xs.length - 1 := by
    unfold HT.sIx
    simp
    omega
  rw [e, List.dropLast_eq_take]
  simp
theorem cutI {ns : List Int} {lo hi : Nat} : ∃ ms : List Int, cutV (ns.map V.int) (some (lo : Int)) (some (hi : Int)) = ms.map V.int ∧ ms.length ≤ hi - lo := by
  refine ⟨(ns.drop (min lo ns.length)).take (min hi ns.length - min lo ns.length), ?_, ?_⟩
  · unfold cutV
    rw [HT.sIx_nat, HT.sIx_nat, List.length_map, List.map_take, List.map_drop]
  · rw [List.length_take, List.length_drop]
    omega
end Ct
namespace Dt
open PySem PySem.Spec PyProof.Rows L2 Gx
/-! shape, with its depth -/
def Sh (k : Nat) (d : PyData) : Prop := d.canLay0 = true ∧ d.depth ≤ k
theorem sh_int {k : Nat} (i : Int) : Sh k (.int i) := ⟨by simp [PyData.canLay0], by simp [PyData.depth]⟩
theorem sh_bl {k : Nat} (b : Bool) : Sh k (.bool b) := ⟨by simp [PyData.canLay0], by simp [PyData.depth]⟩
theorem sh_non {k : Nat} : Sh k .none := ⟨by simp [PyData.canLay0], by simp [PyData.depth]⟩
theorem sh_str {k : Nat} {x : Str} (h : PyData.strOk x = true) : Sh k (.str x) := ⟨by simpa [PyData.canLay0] using h, by simp [PyData.depth]⟩
theorem shAll {k : Nat} : ∀ {ds : List PyData}, (∀ d ∈ ds, Sh k d) → PyData.canLayAll0 ds = true ∧ PyData.depthAll ds ≤ k
  | [], _ => ⟨by simp [PyData.canLayAll0], by simp [PyData.depthAll]⟩
  | d :: ds, h => by
    obtain ⟨h1, h2⟩ := shAll fun x hx => h x (List.mem_cons_of_mem d hx)
    obtain ⟨g1, g2⟩ := h d (List.mem_cons_self ..)
    exact ⟨by simp [PyData.canLayAll0, g1, h1], by simp [PyData.depthAll]; omega⟩
theorem sh_tup {k : Nat} {ds : List PyData} (h : ∀ d ∈ ds, Sh k d) : Sh (k + 1) (.tuple ds) := by
  obtain ⟨h1, h2⟩ := shAll h
  exact ⟨by simpa [PyData.canLay0] using h1, by simp [PyData.depth]; omega⟩
theorem sh_lst {k : Nat} {ds : List PyData} (h : ∀ d ∈ ds, Sh k d) : Sh (k + 1) (.list ds) := by
  obtain ⟨h1, h2⟩ := shAll h
  exact ⟨by simpa [PyData.canLay0] using h1, by simp [PyData.depth]; omega⟩
theorem Sh.mono {k n : Nat} {d : PyData} (h : Sh k d) (e : k ≤ n) : Sh n d := ⟨h.1, Nat.le_trans h.2 e⟩
theorem Sh.ok {k : Nat} {d : PyData} (h : Sh k d) (e : k ≤ 64 := by decide) : SeqAt.shaped d = true := by
  unfold SeqAt.shaped
  rw [h.1, decide_eq_true (Nat.le_trans h.2 e)]
  rfl
theorem refl {k : Nat} {d : PyData} (h : Sh k d) : PyData.eqv d d = true := SeqAt.eqv_refl _ h.1
/-! data taken apart -/
variable {K : PySem.W.Frag} {H : Hp}
theorem tup {v : V} {ds : List PyData} (h : Dp K H v (.tuple ds)) : ∃ p xs, v = .ref p ∧ SqT K H p xs ∧ DpAll K H xs ds := by
  cases h with
  | tup a b => exact ⟨_, _, rfl, a, b⟩
theorem lst {v : V} {ds : List PyData} (h : Dp K H v (.list ds)) : ∃ p xs, v = .ref p ∧ SqL K H p xs ∧ DpAll K H xs ds := by
  cases h with
  | lst a b => exact ⟨_, _, rfl, a, b⟩
theorem int {v : V} {i : Int} (h : Dp K H v (.int i)) : v = .int i := by cases h; rfl
theorem str {v : V} {x : Str} (h : Dp K H v (.str x)) : v = .str x := by cases h; rfl
theorem bl {v : V} {b : Bool} (h : Dp K H v (.bool b)) : v = .bl b := by cases h; rfl
theorem non {v : V} (h : Dp K H v .none) : v = .non := by cases h; rfl
theorem len : ∀ {xs : List V} {ds : List PyData}, DpAll K H xs ds → xs.length = ds.length
  | _, _, .nil => rfl
  | _, _, .cons _ r => congrArg (· + 1) (len r)
theorem at_ : ∀ {xs : List V} {ds : List PyData} {i : Nat} {x : V}, DpAll K H xs ds → xs[i]? = some x → ∃ d, ds[i]? = some d ∧ Dp K H x d
  | _, _, 0, x, .cons (d := d) a r, e => ⟨d, rfl, (Option.some.inj e) ▸ a⟩
  | _, _, i + 1, x, .cons a r, e => at_ (i := i) r e
theorem at2 : ∀ {xs : List V} {ds : List PyData} {i : Nat} {d : PyData}, DpAll K H xs ds → ds[i]? = some d → ∃ x, xs[i]? = some x ∧ Dp K H x d
  | _, _, 0, d, .cons (v := v) a r, e => ⟨v, rfl, (Option.some.inj e) ▸ a⟩
  | _, _, i + 1, d, .cons a r, e => at2 (i := i) r e
theorem cons {x : V} {xs : List V} {d : PyData} {ds : List PyData} (h : DpAll K H (x :: xs) (d :: ds)) : Dp K H x d ∧ DpAll K H xs ds := by
  cases h with
  | cons a b => exact ⟨a, b⟩
theorem pair {v : V} {a b : PyData} (h : Dp K H v (.tuple [a, b])) : ∃ p x y, v = .ref p ∧ SqT K H p [x, y] ∧ Dp K H x a ∧ Dp K H y b := by
  obtain ⟨p, xs, rfl, s, g⟩ := tup h
  cases g with
  | cons h1 g =>
    cases g with
    | cons h2 g =>
      cases g
      exact ⟨p, _, _, rfl, s, h1, h2⟩
theorem app : ∀ {xs : List V} {ds : List PyData} {ys : List V} {es : List PyData}, DpAll K H xs ds → DpAll K H ys es → DpAll K H (xs ++ ys) (ds ++ es)
  | _, _, _, _, .nil, g => g
  | _, _, _, _, .cons a r, g => .cons a (app r g)
theorem take : ∀ {xs : List V} {ds : List PyData} (n : Nat), DpAll K H xs ds → DpAll K H (xs.take n) (ds.take n)
  | _, _, 0, _ => .nil
  | _, _, n + 1, .nil => .nil
  | _, _, n + 1, .cons a r => .cons a (take n r)
theorem drop : ∀ {xs : List V} {ds : List PyData} (n : Nat), DpAll K H xs ds → DpAll K H (xs.drop n) (ds.drop n)
  | _, _, 0, h => h
  | _, _, n + 1, .nil => .nil
  | _, _, n + 1, .cons a r => drop n r
theorem set : ∀ {xs : List V} {ds : List PyData} (n : Nat) {x : V} {d : PyData}, DpAll K H xs ds → Dp K H x d → DpAll K H (xs.set n x) (ds.set n d)
  | _, _, _, _, _, .nil, _ => .nil
  | _, _, 0, _, _, .cons a r, h => .cons h r
  | _, _, n + 1, _, _, .cons a r, h => .cons a (set n r h)
theorem two {x y : V} {a b : PyData} (h1 : Dp K H x a) (h2 : Dp K H y b) : DpAll K H [x, y] [a, b] := .cons h1 (.cons h2 .nil)
theorem intz (ns : List Int) : DpAll K H (ns.map V.int) (ns.map PyData.int) := Dk.dp_all ns
theorem strz : ∀ ns : List Str, DpAll K H (ns.map V.str) (ns.map PyData.str)
  | [] => .nil
  | n :: r => .cons (.str n) (strz r)
theorem of_strs : ∀ {xs : List V} {ns : List Str}, DpAll K H xs (ns.map PyData.str) → xs = ns.map V.str
  | _, [], .nil => rfl
  | _, n :: r, .cons a g => by rw [str a, of_strs g]; rfl
theorem of_ints : ∀ {xs : List V} {ns : List Int}, DpAll K H xs (ns.map PyData.int) → xs = ns.map V.int
  | _, [], .nil => rfl
  | _, n :: r, .cons a g => by rw [int a, of_ints g]; rfl
/-- the list's own data, once more where others are appended -/
theorem snoc {xs : List V} {ds : List PyData} {x : V} {d : PyData} (h : DpAll K H xs ds) (g : Dp K H x d) : DpAll K H (xs ++ [x]) (ds ++ [d]) := app h (.cons g .nil)
theorem noLs_of : ∀ {ds : List PyData}, (∀ d ∈ ds, noL d = true) → noLs ds = true
  | [], _ => by simp [noLs]
  | d :: ds, h => by simp [noLs, h d (List.mem_cons_self ..), noLs_of fun x hx => h x (List.mem_cons_of_mem d hx)]
theorem noL_tup {ds : List PyData} (h : ∀ d ∈ ds, noL d = true) : noL (.tuple ds) = true := by simpa [noL] using noLs_of h
/-! == of data, told -/
theorem eqv_int (a b : Int) : PyData.eqv (.int a) (.int b) = decide (a = b) := by simp [PyData.eqv]; by_cases h : a = b <;> simp [h]
theorem eqv_bl (a b : Bool) : PyData.eqv (.bool a) (.bool b) = decide (a = b) := by cases a <;> cases b <;> simp [PyData.eqv]
end Dt
namespace Dt
open PySem PySem.Spec PyProof.Rows L2 Gx
theorem k_ne {K : PySem.W.Frag} {H : Hp} {Q : VK} {x y : V} {d : PyData} {k : Nat} (hx : Dp K H x d) (hy : Dp K H y d) (s : Sh k d) (q : Q (.bl false) H) (e : k ≤ 64 := by decide) : rNeU K x y H Q := k_neD hx hy (by rw [refl s]; exact q) (s.ok e) (s.ok e)
end Dt
namespace Dt
open PySem PySem.Spec PyProof.Rows L2 Gx
theorem bools {K : PySem.W.Frag} {H : Hp} : ∀ bs : List Bool, DpAll K H (bs.map V.bl) (bs.map PyData.bool)
  | [] => .nil
  | b :: r => .cons (.bl b) (bools r)
theorem sh_bools (bs : List Bool) : Sh 1 (.tuple (bs.map PyData.bool)) := sh_tup fun d hd => by
  obtain ⟨b, _, rfl⟩ := List.mem_map.mp hd
  exact sh_bl b
end Dt
namespace Fr
open PySem PySem.Spec PyProof.Rows L2
/-- a fraction's two parts -/
abbrev fq (q : Rat) : List V := [.int q.num, .int (q.den : Int)]
def fqd (q : Rat) : PyData := .tuple [.int q.num, .int (q.den : Int)]
theorem dp_fq {K : PySem.W.Frag} {H : Hp} {p : Addr} {q : Rat} (h : SqT K H p (fq q)) : Dp K H (.ref p) (fqd q) := .tup h (.cons (.int _) (.cons (.int _) .nil))
theorem shaped_fq (q : Rat) : SeqAt.shaped (fqd q) = true := by simp [SeqAt.shaped, fqd, PyData.canLay0, PyData.canLayAll0, PyData.depth, PyData.depthAll]
theorem eqv_fq (x y : Rat) : PyData.eqv (fqd x) (fqd y) = decide (x = y) := by
  have e : PyData.eqv (fqd x) (fqd y) = (decide (x.num = y.num) && decide (x.den = y.den)) := by
    simp [fqd, PyData.eqv, PyData.eqvAll]
    by_cases h1 : x.num = y.num <;> by_cases h2 : x.den = y.den <;> simp [h1, h2] <;> omega
  rw [e]
  by_cases h : x = y
  · simp [h]
  · have : ¬ (x.num = y.num ∧ x.den = y.den) := fun z => h (Rat.ext z.1 z.2)
    simp [h]
    exact fun z w => this ⟨z, w⟩
/-! ### the greatest divisor -/
theorem gcd_fmod (a b : Int) : Int.gcd b (a.fmod b) = Int.gcd a b := by
  rw [Int.fmod_def, Int.gcd_sub_mul_left_right, Int.gcd_comm]
theorem fmod_nn (a : Int) {b : Int} (h : 0 < b) : 0 ≤ a.fmod b := by
  rw [Int.fmod_eq_emod_of_nonneg a (by omega)]
  exact Int.emod_nonneg _ (by omega)
theorem fmod_less {a b : Int} (h : b ≠ 0) : (a.fmod b).natAbs < b.natAbs := by
  rcases Int.lt_or_lt_of_ne h with c | c
  · have e : a.fmod b = -((-a).fmod (-b)) := by
      rw [Int.fmod_def, Int.fmod_def, Int.neg_fdiv_neg]
      have := Int.neg_mul b (a.fdiv b)
      omega
    have h1 := fmod_nn (-a) (show 0 < -b by omega)
    have h2 := Int.fmod_lt_of_pos (-a) (show 0 < -b by omega)
    omega
  · have h1 := fmod_nn a c
    have h2 := Int.fmod_lt_of_pos a c
    omega
/-- what lowest makes -/
theorem low_num {a b d : Int} (hb : b ≠ 0) (hd : d = if b < 0 then 0 - (Int.gcd a b : Int) else (Int.gcd a b : Int)) : a.fdiv d = (Rat.divInt a b).num := by
  have g0 : (0 : Int) < Int.gcd a b := by have := Int.gcd_pos_of_ne_zero_right a hb; omega
  obtain ⟨k, hk⟩ := Int.gcd_dvd_left a b
  rw [Rat.num_divInt, Int.gcd_comm b a]
  rcases Int.lt_or_lt_of_ne hb with c | c
  · rw [if_pos c] at hd
    rw [Int.sign_eq_neg_one_of_neg c]
    have e1 : a.fdiv d = -k := by
      have : a = d * (-k) := by rw [hd, Int.zero_sub, Int.neg_mul_neg]; exact hk
      rw [this]
      exact Int.mul_fdiv_cancel_left _ (by omega)
    have e2 : -1 * a / (Int.gcd a b : Int) = -k := by
      have : -1 * a = (Int.gcd a b : Int) * (-k) := by rw [Int.mul_neg, ← hk]; omega
      rw [this]
      exact Int.mul_ediv_cancel_left _ (by omega)
    rw [e1, e2]
  · rw [if_neg (by omega)] at hd
    rw [Int.sign_eq_one_of_pos c, Int.one_mul, hd, Int.fdiv_eq_ediv_of_nonneg a (by omega)]
theorem low_den {a b d : Int} (hb : b ≠ 0) (hd : d = if b < 0 then 0 - (Int.gcd a b : Int) else (Int.gcd a b : Int)) : b.fdiv d = ((Rat.divInt a b).den : Int) := by
  have g0 : (0 : Int) < Int.gcd a b := by have := Int.gcd_pos_of_ne_zero_right a hb; omega
  obtain ⟨k, hk⟩ := Int.gcd_dvd_right a b
  have e3 : ((Rat.divInt a b).den : Int) = (b.natAbs : Int) / (Int.gcd a b : Int) := by
    rw [Rat.den_divInt, if_neg hb, Int.gcd_comm b a]
    rfl
  rw [e3]
  rcases Int.lt_or_lt_of_ne hb with c | c
  · rw [if_pos c] at hd
    have e1 : b.fdiv d = -k := by
      have : b = d * (-k) := by rw [hd, Int.zero_sub, Int.neg_mul_neg]; exact hk
      rw [this]
      exact Int.mul_fdiv_cancel_left _ (by omega)
    have e2 : (b.natAbs : Int) / (Int.gcd a b : Int) = -k := by
      have : (b.natAbs : Int) = (Int.gcd a b : Int) * (-k) := by rw [Int.mul_neg, ← hk]; omega
      rw [this]
      exact Int.mul_ediv_cancel_left _ (by omega)
    rw [e1, e2]
  · rw [if_neg (by omega)] at hd
    rw [hd, Int.fdiv_eq_ediv_of_nonneg b (by omega)]
    congr 1
    omega
/-! ### sizes -/
def Sz (n : Nat) (q : Rat) : Prop := q.num.natAbs < 2 ^ n ∧ q.den < 2 ^ n
theorem pw {a b : Nat} (h : a ≤ b) : 2 ^ a ≤ 2 ^ b := Nat.pow_le_pow_right (by decide) h
theorem Sz.mono {m n : Nat} {q : Rat} (h : Sz m q) (l : m ≤ n) : Sz n q := ⟨Nat.lt_of_lt_of_le h.1 (pw l), Nat.lt_of_lt_of_le h.2 (pw l)⟩
theorem divInt_num_le {a b : Int} (hb : b ≠ 0) : (Rat.divInt a b).num.natAbs ≤ a.natAbs := by
  rw [Rat.num_divInt]
  have h : (b.sign * a / (Int.gcd b a : Int)).natAbs ≤ (b.sign * a).natAbs := Int.natAbs_ediv_le_natAbs _ _
  have e : (b.sign * a).natAbs = a.natAbs := by
    rw [Int.natAbs_mul, Int.natAbs_sign_of_ne_zero hb, Nat.one_mul]
  omega
theorem divInt_den_le {a b : Int} (hb : b ≠ 0) : (Rat.divInt a b).den ≤ b.natAbs := by
  rw [Rat.den_divInt, if_neg hb]
  exact Nat.div_le_self _ _
theorem sz_divInt {a b : Int} {n : Nat} (hb : b ≠ 0) (h1 : a.natAbs < 2 ^ n) (h2 : b.natAbs < 2 ^ n) : Sz n (Rat.divInt a b) := ⟨Nat.lt_of_le_of_lt (divInt_num_le hb) h1, Nat.lt_of_le_of_lt (divInt_den_le hb) h2⟩
theorem mul_lt {a b : Int} {m n : Nat} (ha : a.natAbs < 2 ^ m) (hb : b.natAbs < 2 ^ n) : (a * b).natAbs < 2 ^ (m + n) := by
  rw [Int.natAbs_mul, Nat.pow_add]
  exact Nat.mul_lt_mul'' ha hb
theorem add_lt {a b : Int} {m : Nat} (ha : a.natAbs < 2 ^ m) (hb : b.natAbs < 2 ^ m) : (a + b).natAbs < 2 ^ (m + 1) := by
  rw [Nat.pow_succ]
  omega
theorem sub_lt {a b : Int} {m : Nat} (ha : a.natAbs < 2 ^ m) (hb : b.natAbs < 2 ^ m) : (a - b).natAbs < 2 ^ (m + 1) := by
  rw [Nat.pow_succ]
  omega
theorem den_ne (q : Rat) : (q.den : Int) ≠ 0 := by have := q.den_nz; omega
theorem den_pos (q : Rat) : (0 : Int) < (q.den : Int) := by have := q.den_nz; omega
theorem add_eq (x y : Rat) : Rat.divInt (x.num * y.den + y.num * x.den) (x.den * y.den) = x + y := by
  rw [Rat.add_def']
  exact Rat.divInt_ofNat _ (x.den * y.den)
theorem sub_eq (x y : Rat) : Rat.divInt (x.num * y.den - y.num * x.den) (x.den * y.den) = x - y := by
  rw [Rat.sub_def']
  exact Rat.divInt_ofNat _ (x.den * y.den)
theorem mul_eq (x y : Rat) : Rat.divInt (x.num * y.num) (x.den * y.den) = x * y := by
  rw [Rat.mul_def']
  exact Rat.divInt_ofNat _ (x.den * y.den)
theorem div_eq (x y : Rat) : Rat.divInt (x.num * y.den) (x.den * y.num) = x / y := by
  rw [Rat.div_def, Rat.inv_def, ← Rat.divInt_mul_divInt, Rat.num_divInt_den]
theorem Sz.den {n : Nat} {q : Rat} (h : Sz n q) : ((q.den : Int)).natAbs < 2 ^ n := h.2
theorem dd_lt {x y : Rat} {m n : Nat} (hx : Sz m x) (hy : Sz n y) : ((x.den : Int) * (y.den : Int)).natAbs < 2 ^ (m + n) := mul_lt hx.den hy.den
theorem up1 {a : Int} {n : Nat} (h : a.natAbs < 2 ^ n) : a.natAbs < 2 ^ (n + 1) := Nat.lt_of_lt_of_le h (pw (by omega))
theorem nn_lt {x y : Rat} {m n : Nat} (hx : Sz m x) (hy : Sz n y) : (x.num * (y.den : Int) + y.num * (x.den : Int)).natAbs < 2 ^ (m + n + 1) := by
  have h1 := mul_lt hx.1 hy.den
  have h2 := mul_lt hy.1 hx.den
  rw [Nat.add_comm n m] at h2
  exact add_lt h1 h2
theorem ns_lt {x y : Rat} {m n : Nat} (hx : Sz m x) (hy : Sz n y) : (x.num * (y.den : Int) - y.num * (x.den : Int)).natAbs < 2 ^ (m + n + 1) := by
  have h1 := mul_lt hx.1 hy.den
  have h2 := mul_lt hy.1 hx.den
  rw [Nat.add_comm n m] at h2
  exact sub_lt h1 h2
theorem Sz.add {x y : Rat} {m n : Nat} (hx : Sz m x) (hy : Sz n y) : Sz (m + n + 1) (x + y) := by
  rw [← add_eq]
  exact sz_divInt (Int.mul_ne_zero (den_ne x) (den_ne y)) (nn_lt hx hy) (up1 (dd_lt hx hy))
theorem Sz.sub {x y : Rat} {m n : Nat} (hx : Sz m x) (hy : Sz n y) : Sz (m + n + 1) (x - y) := by
  rw [← sub_eq]
  exact sz_divInt (Int.mul_ne_zero (den_ne x) (den_ne y)) (ns_lt hx hy) (up1 (dd_lt hx hy))
theorem Sz.mul {x y : Rat} {m n : Nat} (hx : Sz m x) (hy : Sz n y) : Sz (m + n) (x * y) := by
  rw [← mul_eq]
  exact sz_divInt (Int.mul_ne_zero (den_ne x) (den_ne y)) (mul_lt hx.1 hy.1) (dd_lt hx hy)
theorem num_ne {y : Rat} (h : y ≠ 0) : y.num ≠ 0 := fun z => h (Rat.num_eq_zero.mp z)
theorem Sz.div {x y : Rat} {m n : Nat} (hx : Sz m x) (hy : Sz n y) : Sz (m + n) (x / y) := by
  by_cases h : y = 0
  · rw [h, Rat.div_def, Rat.inv_zero, Rat.mul_zero]
    have h3 : 1 < 2 ^ m := by have := hx.2; have := x.den_nz; omega
    exact ⟨Nat.lt_of_lt_of_le (by decide) (Nat.one_le_two_pow (n := m + n)), Nat.lt_of_lt_of_le h3 (pw (by omega))⟩
  · rw [← div_eq]
    exact sz_divInt (Int.mul_ne_zero (den_ne x) (num_ne h)) (mul_lt hx.1 hy.den) (mul_lt hx.den hy.1)
theorem gcd_small {a b : Int} {n : Nat} (hb : b ≠ 0) (h : b.natAbs < 2 ^ n) : Int.gcd a b < 2 ^ n := Nat.lt_of_le_of_lt (Int.gcd_le_natAbs_right a hb) h
end Fr
namespace Lw
open PySem PySem.Spec PyProof.Rows L2 Gx
/-- a divisor that the division may have -/
def Okd (a b : Int) : Prop := (a.natAbs < 2 ^ 13500 ∧ b.natAbs < 2 ^ 13500) ∨ Int.gcd a b < 2 ^ 9000
theorem Okd.div {a b d : Int} (h : Okd a b) (e : d.natAbs = Int.gcd a b) : Builtin.divisionGoesByPylong a d = false ∧ Builtin.divisionGoesByPylong b d = false := by
  rcases h with ⟨h1, h2⟩ | h
  · exact ⟨noPy_mid h1, noPy_mid h2⟩
  · exact ⟨noPy_low (by rw [e]; exact h), noPy_low (by rw [e]; exact h)⟩
theorem okd_den {a b : Int} {n : Nat} (hb : b ≠ 0) (h : b.natAbs < 2 ^ n) (hn : n ≤ 9000) : Okd a b := .inr (Nat.lt_of_lt_of_le (Fr.gcd_small hb h) (Fr.pw hn))
/-- a great fraction times a small one: what both parts have in common is small -/
theorem okd_mul {x y : Rat} {n : Nat} (hy : y ≠ 0) (sy : Fr.Sz n y) (h : 2 * n ≤ 9000) : Okd (x.num * y.num) ((x.den : Int) * (y.den : Int)) := by
  refine .inr (Nat.lt_of_lt_of_le ?_ (Fr.pw h))
  have e : Int.gcd (x.num * y.num) ((x.den : Int) * (y.den : Int)) = Nat.gcd (x.num.natAbs * y.num.natAbs) (x.den * y.den) := by
    unfold Int.gcd
    rw [Int.natAbs_mul, Int.natAbs_mul, Int.natAbs_natCast, Int.natAbs_natCast]
  rw [e]
  have d := Nat.gcd_mul_right_dvd_mul_gcd (x.num.natAbs * y.num.natAbs) x.den y.den
  have c0 : Nat.gcd (x.num.natAbs * y.num.natAbs) x.den ∣ y.num.natAbs := by
    have cp : Nat.Coprime x.den x.num.natAbs := x.reduced.symm
    have h2 : Nat.Coprime (Nat.gcd (x.num.natAbs * y.num.natAbs) x.den) x.num.natAbs := Nat.Coprime.coprime_dvd_left (Nat.gcd_dvd_right ..) cp
    exact h2.dvd_of_dvd_mul_left (Nat.gcd_dvd_left ..)
  have c1 := Nat.gcd_dvd_right (x.num.natAbs * y.num.natAbs) y.den
  have yn : y.num.natAbs ≠ 0 := fun z => hy (Rat.num_eq_zero.mp (Int.natAbs_eq_zero.mp z))
  have l0 := Nat.le_of_dvd (by omega) c0
  have l1 := Nat.le_of_dvd y.den_pos c1
  have pos : 0 < Nat.gcd (x.num.natAbs * y.num.natAbs) x.den * Nat.gcd (x.num.natAbs * y.num.natAbs) y.den := Nat.mul_pos (Nat.gcd_pos_of_pos_right _ x.den_pos) (Nat.gcd_pos_of_pos_right _ y.den_pos)
  have l2 := Nat.le_of_dvd pos d
  have l3 := Nat.mul_le_mul l0 l1
  have l4 : y.num.natAbs * y.den < 2 ^ n * 2 ^ n := Nat.mul_lt_mul'' sy.1 sy.2
  have e2 : 2 ^ (2 * n) = 2 ^ n * 2 ^ n := by rw [Nat.two_mul, Nat.pow_add]
  omega
end Lw
namespace Lw
open PySem PySem.Spec PyProof.Rows L2 Gx
/-- whether a value is a whole number, by its type -/
def Whole (K : PySem.W.Frag) (H : Hp) (x : V) (b : Bool) : Prop := ∃ (t : Value) (b1 b2 : Bool), TyX K H x t ∧ PySem.W.kitOne K t (.type "int") = some b1 ∧ PySem.W.kitOne K t (.type "bool") = some b2 ∧ b = (b1 && !b2)
theorem Whole.int {K : PySem.W.Frag} {H : Hp} (i : Int) : Whole K H (.int i) true := ⟨.type "int", true, false, .base (.int i), kit_ty (by decide +kernel), kit_ty (by decide +kernel), rfl⟩
theorem Whole.bl {K : PySem.W.Frag} {H : Hp} (b : Bool) : Whole K H (.bl b) false := ⟨.type "bool", true, true, .base (.bl b), kit_ty (by decide +kernel), kit_ty (by decide +kernel), rfl⟩
theorem Whole.str {K : PySem.W.Frag} {H : Hp} (x : Str) : Whole K H (.str x) false := ⟨.type "str", false, false, .base (.str x), kit_ty (by decide +kernel), kit_ty (by decide +kernel), rfl⟩
theorem Whole.non {K : PySem.W.Frag} {H : Hp} : Whole K H .non false := ⟨.type "NoneType", false, false, .base .non, kit_ty (by decide +kernel), kit_ty (by decide +kernel), rfl⟩
theorem Whole.same {K : PySem.W.Frag} {H H' : Hp} (e : Same H H') {x : V} {b : Bool} (h : Whole K H x b) : Whole K H' x b := by
  obtain ⟨t, b1, b2, ht, h⟩ := h
  exact ⟨t, b1, b2, tyx_same e ht, h⟩
theorem Whole.tup {K : PySem.W.Frag} {H : Hp} {p : Addr} {xs : List V} (h : SqT K H p xs) : Whole K H (.ref p) false := ⟨.type "tuple", false, false, ty_tup h, kit_ty (by decide +kernel), kit_ty (by decide +kernel), rfl⟩
theorem Whole.lst {K : PySem.W.Frag} {H : Hp} {p : Addr} {xs : List V} (h : SqL K H p xs) : Whole K H (.ref p) false := ⟨.type "list", false, false, ty_lst h, kit_ty (by decide +kernel), kit_ty (by decide +kernel), rfl⟩
theorem Whole.dict {K : PySem.W.Frag} {H : Hp} {p : Addr} {kvs : List (Key × V)} (h : H p = some (.dK kvs)) : Whole K H (.ref p) false := ⟨.type "dict", false, false, .base (.dK h), kit_ty (by decide +kernel), kit_ty (by decide +kernel), rfl⟩
/-- whether a thing is a fraction -/
inductive IsF (K : PySem.W.Frag) (H : Hp) : V → Bool → Prop
  | kind {x : V} {t : Value} (ht : TyX K H x t) (hk : PySem.W.kitOne K t (.type "tuple") = some false) : IsF K H x false
  | len {p : Addr} {xs : List V} (h : SqT K H p xs) (hl : xs.length ≠ 2) : IsF K H (.ref p) false
  | parts {p : Addr} {u v : V} {bu bv : Bool} (h : SqT K H p [u, v]) (hu : Whole K H u bu) (hv : Whole K H v bv) (hb : (bu && bv) = false) : IsF K H (.ref p) false
  | whole {p : Addr} {c d : Int} (h : SqT K H p [.int c, .int d]) : IsF K H (.ref p) (decide (0 < d) && decide (Int.gcd c d = 1))
theorem IsF.int {K : PySem.W.Frag} {H : Hp} (i : Int) : IsF K H (.int i) false := .kind (.base (.int i)) (kit_ty (by decide +kernel))
theorem IsF.bl {K : PySem.W.Frag} {H : Hp} (b : Bool) : IsF K H (.bl b) false := .kind (.base (.bl b)) (kit_ty (by decide +kernel))
theorem IsF.str {K : PySem.W.Frag} {H : Hp} (x : Str) : IsF K H (.str x) false := .kind (.base (.str x)) (kit_ty (by decide +kernel))
theorem IsF.non {K : PySem.W.Frag} {H : Hp} : IsF K H .non false := .kind (.base .non) (kit_ty (by decide +kernel))
theorem IsF.lst {K : PySem.W.Frag} {H : Hp} {p : Addr} {xs : List V} (h : SqL K H p xs) : IsF K H (.ref p) false := .kind (ty_lst h) (kit_ty (by decide +kernel))
theorem IsF.dict {K : PySem.W.Frag} {H : Hp} {p : Addr} {kvs : List (Key × V)} (h : H p = some (.dK kvs)) : IsF K H (.ref p) false := .kind (.base (.dK h)) (kit_ty (by decide +kernel))
theorem IsF.yes {K : PySem.W.Frag} {H : Hp} {p : Addr} {q : Rat} (h : SqT K H p (Fr.fq q)) : IsF K H (.ref p) true := by
  have e2 : Int.gcd q.num (q.den : Int) = 1 := q.reduced
  have z := IsF.whole h
  rw [decide_eq_true (Fr.den_pos q), decide_eq_true e2] at z
  exact z
theorem all_cons {α : Type} {P : α → Prop} {a : α} {l : List α} (h : P a) (r : ∀ x ∈ l, P x) : ∀ x ∈ a :: l, P x := fun x hx => by
  rcases List.mem_cons.mp hx with e | e
  · rw [e]; exact h
  · exact r x e
theorem at_mem {xs : List V} {i : Int} (h0 : 0 ≤ i) (h1 : i < xs.length) : ∃ v, v ∈ xs ∧ atI xs i = some v := by
  obtain ⟨n, rfl⟩ : ∃ n : Nat, i = (n : Int) := ⟨i.toNat, by omega⟩
  exact ⟨xs[n]'(by omega), List.getElem_mem _, atI_nat (by simp)⟩
end Lw
namespace Lw
open PySem PySem.Spec PyProof.Rows L2 Gx
/-- fractions at some addresses -/
def Fqs (K : PySem.W.Frag) (H : Hp) (vs : List V) (qs : List Rat) : Prop := Paired (fun v q => ∃ p, v = V.ref p ∧ SqT K H p (Fr.fq q)) vs qs
theorem Fqs.same {K : PySem.W.Frag} {H H' : Hp} (e : Same H H') : ∀ {vs : List V} {qs : List Rat}, Fqs K H vs qs → Fqs K H' vs qs
  | _, _, .nil => .nil
  | _, _, .cons ⟨p, h1, h2⟩ r => .cons ⟨p, h1, seqT_same e h2⟩ (Fqs.same e r)
theorem Fqs.get {K : PySem.W.Frag} {H : Hp} : ∀ {vs : List V} {qs : List Rat} {i : Nat} {v : V}, Fqs K H vs qs → vs[i]? = some v → ∃ p q, v = .ref p ∧ qs[i]? = some q ∧ SqT K H p (Fr.fq q)
  | _, _, 0, v, .cons (b := q) ⟨p, h1, h2⟩ r, e => ⟨p, q, (Option.some.inj e).symm.trans h1, rfl, h2⟩
  | _, _, i + 1, v, .cons ⟨p, h1, h2⟩ r, e => Fqs.get (i := i) r e
theorem Fqs.len {K : PySem.W.Frag} {H : Hp} {vs : List V} {qs : List Rat} (h : Fqs K H vs qs) : vs.length = qs.length := Paired.length h
def sum (qs : List Rat) : Rat := qs.foldl (· + ·) 0
def szs (ns : List Nat) : Nat := ns.foldl (fun a n => a + n + 1) 1
theorem szs_snoc (l : List Nat) (n : Nat) : szs (l ++ [n]) = szs l + n + 1 := by simp [szs]
theorem sum_snoc (l : List Rat) (q : Rat) : sum (l ++ [q]) = sum l + q := by simp [sum]
theorem szs_take (l : List Nat) (i : Nat) : szs (l.take i) ≤ szs l := by
  have h : ∀ (m : List Nat) (a b : Nat), a ≤ b → a ≤ m.foldl (fun a n => a + n + 1) b := fun m => by
    induction m with
    | nil => intro a b h; exact h
    | cons x r ih => intro a b h; exact ih a _ (show a ≤ b + x + 1 by omega)
  have e : szs l = (l.drop i).foldl (fun a n => a + n + 1) (szs (l.take i)) := by
    unfold szs
    rw [← List.foldl_append, List.take_append_drop]
  rw [e]
  exact h _ _ _ (Nat.le_refl _)
theorem take_snoc {α : Type} {l : List α} {i : Nat} {x : α} (h : l[i]? = some x) : l.take (i + 1) = l.take i ++ [x] := by
  rw [List.take_add_one, h]
  rfl
theorem Paired.get {α β : Type} {F : α → β → Prop} : ∀ {as : List α} {bs : List β} {i : Nat} {a : α}, Paired F as bs → as[i]? = some a → ∃ b, bs[i]? = some b ∧ F a b
  | _, _, 0, a, .cons (b := b) h r, e => ⟨b, rfl, (Option.some.inj e) ▸ h⟩
  | _, _, i + 1, a, .cons h r, e => Paired.get (i := i) r e
theorem Fqs.snoc {K : PySem.W.Frag} {H : Hp} {p : Addr} {q : Rat} (h : SqT K H p (Fr.fq q)) : ∀ {vs : List V} {qs : List Rat}, Fqs K H vs qs → Fqs K H (vs ++ [.ref p]) (qs ++ [q])
  | _, _, .nil => .cons ⟨p, rfl, h⟩ .nil
  | _, _, .cons a r => .cons a (Fqs.snoc h r)
theorem Fqs.put {K : PySem.W.Frag} {H : Hp} {p : Addr} {q : Rat} (h : SqT K H p (Fr.fq q)) : ∀ (k : Nat) {vs : List V} {qs : List Rat}, Fqs K H vs qs → Fqs K H (vs.take k ++ [.ref p] ++ vs.drop k) (qs.take k ++ [q] ++ qs.drop k)
  | 0, _, _, r => .cons ⟨p, rfl, h⟩ r
  | _ + 1, _, _, .nil => .cons ⟨p, rfl, h⟩ .nil
  | k + 1, _, _, .cons a r => .cons a (Fqs.put h k r)
theorem foldl_add (l : List Rat) (a : Rat) : l.foldl (· + ·) a = a + sum l := by
  induction l generalizing a with
  | nil => show a = a + 0; rw [Rat.add_zero]
  | cons x r ih =>
    show r.foldl (· + ·) (a + x) = a + r.foldl (· + ·) (0 + x)
    rw [ih, ih, Rat.zero_add, Rat.add_assoc]
theorem sum_app (l m : List Rat) : sum (l ++ m) = sum l + sum m := by
  show (l ++ m).foldl (· + ·) 0 = _
  rw [List.foldl_append]
  exact foldl_add m _
theorem sum_put (l : List Rat) (k : Nat) (q : Rat) : sum (l.take k ++ [q] ++ l.drop k) = sum l + q := by
  have e : sum l = sum (l.take k) + sum (l.drop k) := by rw [← sum_app, List.take_append_drop]
  rw [sum_app, sum_app, e, show sum [q] = q from Rat.zero_add q, Rat.add_assoc, Rat.add_assoc, Rat.add_comm q]
theorem Fqs.dp {K : PySem.W.Frag} {H : Hp} : ∀ {vs : List V} {qs : List Rat}, Fqs K H vs qs → DpAll K H vs (qs.map Fr.fqd)
  | _, _, .nil => .nil
  | _, _, .cons ⟨p, e, h⟩ r => by
    subst e
    exact .cons (Fr.dp_fq h) (Fqs.dp r)
theorem shaped_fqs (qs : List Rat) : SeqAt.shaped (.list (qs.map Fr.fqd)) = true := by
  have h : ∀ l : List Rat, PyData.canLayAll0 (l.map Fr.fqd) = true ∧ PyData.depthAll (l.map Fr.fqd) ≤ 1 := fun l => by
    induction l with
    | nil => exact ⟨by simp [PyData.canLayAll0], by simp [PyData.depthAll]⟩
    | cons n r ih => exact ⟨by simp [PyData.canLayAll0, PyData.canLay0, Fr.fqd, ih.1], by simp [PyData.depthAll, PyData.depth, Fr.fqd]; have := ih.2; omega⟩
  obtain ⟨h1, h2⟩ := h qs
  have h3 : PyData.depthAll (qs.map Fr.fqd) + 1 ≤ 64 := by omega
  simp [SeqAt.shaped, PyData.canLay0, PyData.depth, h1, h3]
theorem szs_rep (n : Nat) : szs (List.replicate n 200) = 1 + 201 * n := by
  induction n with
  | zero => rfl
  | succ n ih => rw [List.replicate_succ', szs_snoc, ih]; omega
def All200 (qs : List Rat) : Prop := ∀ q ∈ qs, Fr.Sz 200 q
theorem All200.paired : ∀ {qs : List Rat}, All200 qs → Paired (fun q n => Fr.Sz n q) qs (List.replicate qs.length 200)
  | [], _ => .nil
  | q :: r, h => .cons (h q (List.mem_cons_self ..)) (All200.paired fun x hx => h x (List.mem_cons_of_mem _ hx))
end Lw
namespace Lw
open PySem PySem.Spec PyProof.Rows L2 Gx
theorem Fqs.imm {K : PySem.W.Frag} {H H' : Hp} (e : Imm H H') : ∀ {vs : List V} {qs : List Rat}, Fqs K H vs qs → Fqs K H' vs qs
  | _, _, .nil => .nil
  | _, _, .cons ⟨p, h, g⟩ r => .cons ⟨p, h, seqT_imm e g⟩ (Fqs.imm e r)
end Lw
namespace Pl
open PySem PySem.Spec PyProof.Rows L2 Gx
abbrev P := List (Str × Int)
def pd (p : Str × Int) : PyData := .tuple [.str p.1, .int p.2]
def d (pl : P) : PyData := .tuple (pl.map pd)
def tot (pl : P) : Int := (pl.map (·.2)).sum
/-- a name: one to eight small letters -/
def Nm (s : Str) : Prop := 1 ≤ s.cps.size ∧ s.cps.size ≤ 8 ∧ ∀ c ∈ s.cps.toList, 97 ≤ c ∧ c ≤ 122
structure Good (pl : P) : Prop where
  nd : (pl.map (·.1)).Nodup
  nm : ∀ p ∈ pl, Nm p.1
  pos : ∀ p ∈ pl, 0 ≤ p.2
  t1 : 1 ≤ tot pl
  t2 : tot pl ≤ 60
  len : pl.length ≤ 9
def place : P → Int → Option (Str × Int)
  | [], _ => none
  | p :: r, k => if k < p.2 then some (p.1, k) else place r (k - p.2)
def numb : P → Str → Int → Int → Option Int
  | [], _, _, _ => none
  | p :: r, s, k, a => if p.1 = s ∧ 0 ≤ k ∧ k < p.2 then some (a + k) else numb r s k (a + p.2)
def row (p : Str × Int) : List (Str × Int) := (List.range p.2.toNat).map fun (k : Nat) => (p.1, (k : Int))
def places (pl : P) : List (Str × Int) := pl.flatMap row
theorem row_len (p : Str × Int) : (row p).length = p.2.toNat := by simp [row]
theorem tot_cons (p : Str × Int) (r : P) : tot (p :: r) = p.2 + tot r := by simp [tot]
theorem tot_nn : ∀ {pl : P}, (∀ p ∈ pl, 0 ≤ p.2) → 0 ≤ tot pl
  | [], _ => by simp [tot]
  | p :: r, h => by
    rw [tot_cons]
    have := tot_nn fun x hx => h x (List.mem_cons_of_mem p hx)
    have := h p (List.mem_cons_self ..)
    omega
theorem places_len : ∀ {pl : P}, (∀ p ∈ pl, 0 ≤ p.2) → ((places pl).length : Int) = tot pl
  | [], _ => rfl
  | p :: r, h => by
    have e : places (p :: r) = row p ++ places r := rfl
    rw [e, List.length_append, row_len, tot_cons]
    have := places_len fun x hx => h x (List.mem_cons_of_mem p hx)
    have := h p (List.mem_cons_self ..)
    omega
theorem row_at {p : Str × Int} {k : Nat} (h : (k : Int) < p.2) : (row p)[k]? = some (p.1, (k : Int)) := by
  unfold row
  rw [List.getElem?_map, List.getElem?_range (by omega)]
  rfl
theorem place_eq : ∀ {pl : P} {k : Nat}, (∀ p ∈ pl, 0 ≤ p.2) → place pl (k : Int) = (places pl)[k]?
  | [], k, _ => by simp [place, places]
  | p :: r, k, h => by
    have h0 := h p (List.mem_cons_self ..)
    have e : places (p :: r) = row p ++ places r := rfl
    rw [e]
    show (if (k : Int) < p.2 then _ else _) = _
    by_cases c : (k : Int) < p.2
    · rw [if_pos c, List.getElem?_append_left (by rw [row_len]; omega), row_at c]
    · rw [if_neg c, List.getElem?_append_right (by rw [row_len]; omega), row_len, show (k : Int) - p.2 = ((k - p.2.toNat : Nat) : Int) by omega]
      exact place_eq fun x hx => h x (List.mem_cons_of_mem p hx)
theorem mem_row {p q : Str × Int} (h : q ∈ row p) : q.1 = p.1 ∧ 0 ≤ q.2 ∧ q.2 < p.2 := by
  unfold row at h
  obtain ⟨k, hk, rfl⟩ := List.mem_map.mp h
  have := List.mem_range.mp hk
  exact ⟨rfl, by simp, by show (k : Int) < p.2; omega⟩
theorem mem_places : ∀ {pl : P} {q : Str × Int}, q ∈ places pl ↔ ∃ p ∈ pl, q.1 = p.1 ∧ 0 ≤ q.2 ∧ q.2 < p.2
  | pl, q => by
    unfold places
    rw [List.mem_flatMap]
    constructor
    · rintro ⟨p, hp, hq⟩
      exact ⟨p, hp, mem_row hq⟩
    · rintro ⟨p, hp, e, h0, h1⟩
      refine ⟨p, hp, ?_⟩
      unfold row
      rw [List.mem_map]
      refine ⟨q.2.toNat, List.mem_range.mpr (by omega), ?_⟩
      rw [← e, Int.toNat_of_nonneg h0]
theorem numb_none : ∀ {pl : P} {s : Str} {k a : Int}, numb pl s k a = none ↔ (s, k) ∉ places pl
  | [], s, k, a => by simp [numb, places]
  | p :: r, s, k, a => by
    have ih := numb_none (pl := r) (s := s) (k := k) (a := a + p.2)
    show (if _ then _ else _) = none ↔ _
    by_cases c : p.1 = s ∧ 0 ≤ k ∧ k < p.2
    · rw [if_pos c]
      refine ⟨fun z => (by cases z), fun z => (z ?_).elim⟩
      exact mem_places.mpr ⟨p, List.mem_cons_self .., c.1.symm, c.2.1, c.2.2⟩
    · rw [if_neg c, ih, mem_places, mem_places]
      constructor
      · rintro h ⟨x, hx, e⟩
        rcases List.mem_cons.mp hx with q | q
        · subst q; exact c ⟨e.1.symm, e.2.1, e.2.2⟩
        · exact h ⟨x, q, e⟩
      · rintro h ⟨x, hx, e⟩
        exact h ⟨x, List.mem_cons_of_mem _ hx, e⟩
theorem numb_at : ∀ {pl : P} {s : Str} {k a : Int} {i : Nat}, (pl.map (·.1)).Nodup → (∀ p ∈ pl, 0 ≤ p.2) → (places pl)[i]? = some (s, k) → numb pl s k a = some (a + (i : Int))
  | [], s, k, a, i, _, _, h => by simp [places] at h
  | p :: r, s, k, a, i, nd, h0, h => by
    have e : places (p :: r) = row p ++ places r := rfl
    have hp := h0 p (List.mem_cons_self ..)
    rw [List.map_cons, List.nodup_cons] at nd
    rw [e] at h
    show (if _ then _ else _) = _
    by_cases c : i < (row p).length
    · rw [List.getElem?_append_left c] at h
      rw [row_len] at c
      rw [row_at (by omega)] at h
      cases h
      rw [if_pos ⟨rfl, by omega, by omega⟩]
    · rw [List.getElem?_append_right (by omega)] at h
      rw [row_len] at h c
      have hm := mem_places.mp (List.mem_of_getElem? h)
      obtain ⟨x, hx, ex, _, _⟩ := hm
      rw [if_neg (fun z => nd.1 (by rw [z.1, show s = x.1 from ex]; exact List.mem_map_of_mem hx))]
      rw [numb_at nd.2 (fun x hx => h0 x (List.mem_cons_of_mem p hx)) h]
      congr 1
      omega
theorem sum_set : ∀ (cs : List Int) (j : Nat) (v : Int), j < cs.length → (cs.set j v).sum = cs.sum - cs.getD j 0 + v
  | [], j, v, h => by simp at h
  | c :: r, 0, v, h => by simp; omega
  | c :: r, j + 1, v, h => by
    have ih := sum_set r j v (by simpa using h)
    simp at ih ⊢
    omega
theorem sum_nn : ∀ {cs : List Int}, (∀ c ∈ cs, 0 ≤ c) → 0 ≤ cs.sum ∧ ∀ c ∈ cs, c ≤ cs.sum
  | [], _ => ⟨by simp, fun _ h => nomatch h⟩
  | c :: r, h => by
    obtain ⟨h1, h2⟩ := sum_nn fun x hx => h x (List.mem_cons_of_mem c hx)
    have h0 := h c (List.mem_cons_self ..)
    rw [List.sum_cons]
    refine ⟨by omega, fun x hx => ?_⟩
    rcases List.mem_cons.mp hx with e | e
    · rw [e]; omega
    · have := h2 x e; omega
theorem sum_set0 {cs : List Int} (h : ∀ c ∈ cs, 0 ≤ c) (h0 : cs.sum = 0) {j : Nat} (hj : j < cs.length) (v : Int) : (cs.set j v).sum = v := by
  obtain ⟨_, h2⟩ := sum_nn h
  have hm : cs.getD j 0 ∈ cs := by
    rw [show cs.getD j 0 = cs[j] by simp [hj]]
    exact List.getElem_mem hj
  have := h2 _ hm
  have := h _ hm
  rw [sum_set cs j v hj]
  omega
theorem zip_set : ∀ {ns : List Str} {cs : List Int} {j : Nat} {s : Str} (v : Int), ns[j]? = some s → ns.zip (cs.set j v) = (ns.zip cs).set j (s, v)
  | [], _, _, _, _, h => by simp at h
  | n :: r, [], j, s, v, h => by simp
  | n :: r, c :: t, 0, s, v, h => by simp at h; simp [h]
  | n :: r, c :: t, j + 1, s, v, h => by
    have ih := zip_set (cs := t) v (show r[j]? = some s by simpa using h)
    simp [ih]
/-! data -/
theorem noL_d (pl : P) : noL (d pl) = true := Dt.noL_tup fun x hx => by
  obtain ⟨p, _, rfl⟩ := List.mem_map.mp hx
  rfl
theorem Nm.ok {s : Str} (h : Nm s) : PyData.strOk s = true := by
  unfold PyData.strOk
  rw [← Array.all_toList, List.all_eq_true]
  intro c hc
  have := h.2.2 c hc
  simp
  omega
theorem sh_pd0 {k : Nat} {p : Str × Int} (h : PyData.strOk p.1 = true) : Dt.Sh (k + 1) (pd p) := Dt.sh_tup fun x hx => by
  rcases List.mem_cons.mp hx with e | e
  · rw [e]; exact Dt.sh_str h
  · rw [List.mem_singleton.mp e]; exact Dt.sh_int _
theorem ok_app {a b : Str} (h : PyData.strOk a = true) (g : PyData.strOk b = true) : PyData.strOk (a ++ b) = true := by
  unfold PyData.strOk at h g ⊢
  show (a.cps ++ b.cps).all _ = true
  rw [Array.all_append, h, g]
  rfl
theorem sh_pd {k : Nat} {p : Str × Int} (h : Nm p.1) : Dt.Sh (k + 1) (pd p) := Dt.sh_tup fun x hx => by
  rcases List.mem_cons.mp hx with e | e
  · rw [e]; exact Dt.sh_str h.ok
  · rw [List.mem_singleton.mp e]; exact Dt.sh_int _
theorem sh_places {pl : P} (h : ∀ p ∈ pl, Nm p.1) : ∀ q ∈ places pl, Nm q.1 := fun q hq => by
  obtain ⟨p, hp, e, _⟩ := mem_places.mp hq
  rw [e]
  exact h p hp
/-- a piles' tuple at a place -/
theorem at_pd {K : PySem.W.Frag} {H : Hp} {xs : List V} {pl : P} {i : Nat} {x : V} (h : DpAll K H xs (pl.map pd)) (e : xs[i]? = some x) : ∃ p s, pl[i]? = some p ∧ x = .ref s ∧ SqT K H s [.str p.1, .int p.2] := by
  obtain ⟨z, hz, hd⟩ := Dt.at_ h e
  rw [List.getElem?_map] at hz
  cases q : pl[i]? with
  | none => rw [q] at hz; cases hz
  | some p =>
    rw [q] at hz
    cases hz
    obtain ⟨s, u, v, rfl, hs, h1, h2⟩ := Dt.pair hd
    rw [Dt.str h1, Dt.int h2] at hs
    exact ⟨p, s, rfl, rfl, hs⟩
theorem dp_pd {K : PySem.W.Frag} {H : Hp} {s : Addr} {p : Str × Int} (h : SqT K H s [.str p.1, .int p.2]) : Dp K H (.ref s) (pd p) := .tup h (Dt.two (.str _) (.int _))
/-! what a place is -/
inductive IsPl (K : PySem.W.Frag) (H : Hp) : V → Option (Str × Int) → Prop
  | kind {x : V} {t : Value} (ht : TyX K H x t) (hk : PySem.W.kitOne K t (.type "tuple") = some false) : IsPl K H x none
  | len {p : Addr} {xs : List V} (h : SqT K H p xs) (hl : xs.length ≠ 2) : IsPl K H (.ref p) none
  | key {p : Addr} {u v : V} {t : Value} (h : SqT K H p [u, v]) (ht : TyX K H u t) (hk : PySem.W.kitOne K t (.type "str") = some false) : IsPl K H (.ref p) none
  | num {p : Addr} {s : Str} {v : V} (h : SqT K H p [.str s, v]) (hv : Lw.Whole K H v false) : IsPl K H (.ref p) none
  | yes {p : Addr} {s : Str} {k : Int} (h : SqT K H p [.str s, .int k]) : IsPl K H (.ref p) (some (s, k))
theorem IsPl.same {K : PySem.W.Frag} {H H' : Hp} (e : Same H H') {x : V} {o : Option (Str × Int)} (h : IsPl K H x o) : IsPl K H' x o := by
  cases h with
  | kind ht hk => exact .kind (tyx_same e ht) hk
  | len h hl => exact .len (seqT_same e h) hl
  | key h ht hk => exact .key (seqT_same e h) (tyx_same e ht) hk
  | num h hv => exact .num (seqT_same e h) (hv.same e)
  | yes h => exact .yes (seqT_same e h)
/-- a place, its name a text that can be laid -/
def Pq (K : PySem.W.Frag) (H : Hp) (x : V) : Prop := ∃ o, IsPl K H x o ∧ ∀ z, o = some z → PyData.strOk z.1 = true
theorem Pq.same {K : PySem.W.Frag} {H H' : Hp} (e : Same H H') {x : V} (h : Pq K H x) : Pq K H' x := by
  obtain ⟨o, h, g⟩ := h
  exact ⟨o, h.same e, g⟩
theorem Pq.no {K : PySem.W.Frag} {H : Hp} {x : V} (h : IsPl K H x none) : Pq K H x := ⟨none, h, fun _ z => nomatch z⟩
theorem Pq.yes {K : PySem.W.Frag} {H : Hp} {p : Addr} {s : Str} {k : Int} (h : SqT K H p [.str s, .int k]) (g : PyData.strOk s = true) : Pq K H (.ref p) := ⟨_, .yes h, fun z e => by cases e; exact g⟩
theorem eqv_pd (a b : Str × Int) : PyData.eqv (pd a) (pd b) = decide (a = b) := by
  obtain ⟨s, k⟩ := a
  obtain ⟨t, j⟩ := b
  by_cases h : s = t <;> by_cases g : k = j <;> simp [pd, PyData.eqv, PyData.eqvAll, h, g]
end Pl
namespace Pl
open PySem PySem.Spec PyProof.Rows L2 Gx
def abc : Str := "abcdefghijklmnopqrstuvwxyz"
theorem abc_at {i : Int} (h0 : 0 ≤ i) (h1 : i < 26) : atI abc.cps.toList i = some (97 + i.toNat) := by
  obtain ⟨k, rfl⟩ := Int.eq_ofNat_of_zero_le h0
  have h : ∀ k : Fin 26, atI abc.cps.toList ((k.1 : Nat) : Int) = some (97 + ((k.1 : Nat) : Int).toNat) := by decide +kernel
  exact h ⟨k, by omega⟩
def one (c : Nat) : Str := ⟨#[c]⟩
theorem join_ones : ∀ cs : List Nat, Txt.join Str.empty (cs.map one) = ⟨cs.toArray⟩ := fun cs => by
  show Builtin.Str.glued Str.empty (cs.map one) = _
  rw [PySem.StrLaws.glued_eq_join]
  induction cs with
  | nil => rfl
  | cons c r ih =>
    cases r with
    | nil => rfl
    | cons c2 r =>
      rw [List.map_cons, List.map_cons, join_cons_cons, ← List.map_cons, ih]
      show Str.append (Str.append (one c) Str.empty) ⟨_⟩ = _
      simp [Str.append, one, Str.empty]
theorem sum_ones (cs : List Nat) : ((cs.map one).map (·.length)).sum = cs.length := by
  induction cs with
  | nil => rfl
  | cons c r ih => rw [List.map_cons, List.map_cons, List.sum_cons, ih, List.length_cons]; show 1 + r.length = _; omega
/-- a text, one letter of it changed -/
def nm (cs : List Nat) (k : Nat) (c : Nat) : Str := ⟨(cs.set k c).toArray⟩
def Letters (cs : List Nat) : Prop := ∀ c ∈ cs, 97 ≤ c ∧ c ≤ 122
theorem Letters.set {cs : List Nat} (h : Letters cs) (k : Nat) {c : Nat} (hc : 97 ≤ c ∧ c ≤ 122) : Letters (cs.set k c) := fun x hx => by
  rcases List.mem_or_eq_of_mem_set hx with e | e
  · exact h x e
  · rw [e]; exact hc
theorem nm_of {cs : List Nat} (h : Letters cs) (h1 : 1 ≤ cs.length) (h8 : cs.length ≤ 8) : Nm ⟨cs.toArray⟩ := ⟨by simpa using h1, by simpa using h8, fun c hc => h c (by simpa using hc)⟩
theorem nm_inj {cs : List Nat} {k c d : Nat} (hk : k < cs.length) (h : nm cs k c = nm cs k d) : c = d := by
  unfold nm at h
  have h2 : cs.set k c = cs.set k d := by simpa using h
  have h3 := congrArg (fun l => l[k]?) h2
  simpa [hk] using h3
/-- so many names, one after another -/
def some_ (cs : List Nat) (k : Nat) (c0 : Int) (m : Nat) : List Str := (List.range m).map fun (j : Nat) => nm cs k (97 + ((c0 + (j : Int)) % 26).toNat)
theorem some_len (cs : List Nat) (k : Nat) (c0 : Int) (m : Nat) : (some_ cs k c0 m).length = m := by simp [some_]
theorem some_succ (cs : List Nat) (k : Nat) (c0 : Int) (m : Nat) : some_ cs k c0 (m + 1) = some_ cs k c0 m ++ [nm cs k (97 + ((c0 + (m : Int)) % 26).toNat)] := by simp [some_, List.range_succ]
theorem some_nd {cs : List Nat} {k : Nat} (hk : k < cs.length) (c0 : Int) {m : Nat} (hm : m ≤ 9) : (some_ cs k c0 m).Nodup := by
  unfold some_
  refine List.pairwise_map.mpr (List.Pairwise.imp_of_mem ?_ List.pairwise_lt_range)
  intro a b ha hb hab e
  have := nm_inj hk e
  have := List.mem_range.mp ha
  have := List.mem_range.mp hb
  omega
theorem some_nm {cs : List Nat} {k : Nat} (h : Letters cs) (h1 : 1 ≤ cs.length) (h8 : cs.length ≤ 8) (c0 : Int) (m : Nat) : ∀ s ∈ some_ cs k c0 m, Nm s := fun s hs => by
  obtain ⟨j, _, rfl⟩ := List.mem_map.mp hs
  exact nm_of (h.set k (by omega)) (by simpa using h1) (by simpa using h8)
theorem some_size {cs : List Nat} {k : Nat} {c0 : Int} {m : Nat} : ∀ s ∈ some_ cs k c0 m, s.cps.size = cs.length := fun s hs => by
  obtain ⟨j, _, rfl⟩ := List.mem_map.mp hs
  simp [nm]
/-- a text's front -/
theorem cut_front {s : Str} {k : Nat} (h : k ≤ s.cps.size) : cutS s none (some (k : Int)) = ⟨(s.cps.toList.take k).toArray⟩ := by
  unfold cutS
  rw [HT.sIx_none, HT.sIx_nat, Nat.min_eq_left (show k ≤ s.length from h)]
  rfl
def fr (s : Str) (k : Nat) : Str := ⟨(s.cps.toList.take (k + 1)).toArray⟩
theorem fr_size {s : Str} {k : Nat} (h : k < s.cps.size) : (fr s k).cps.size = k + 1 := by
  simp [fr]
  omega
theorem fr_nm {s : Str} {k : Nat} (h : Nm s) (hk : k < s.cps.size) : Nm (fr s k) := by
  refine ⟨by rw [fr_size hk]; omega, by rw [fr_size hk]; have := h.2.1; omega, fun c hc => h.2.2 c ?_⟩
  have : c ∈ s.cps.toList.take (k + 1) := by simpa [fr] using hc
  exact List.mem_of_mem_take this
theorem fr_all {s : Str} (h : s.cps.size = 8) : fr s 7 = s := by
  cases s with
  | mk a =>
    unfold fr
    congr 1
    have : a.toList.length = 8 := by simpa using h
    show (a.toList.take 8).toArray = a
    rw [List.take_of_length_le (by omega)]
/-- the fronts of the first, then the others -/
theorem fronts_nd {s : Str} {r : List Str} (h : s.cps.size = 8) (hr : ∀ x ∈ r, x.cps.size = 8) (nd : (s :: r).Nodup) : ((List.range 8).map (fr s) ++ r).Nodup := by
  have nd2 := List.nodup_cons.mp nd
  refine List.pairwise_append.mpr ⟨?_, nd2.2, ?_⟩
  · refine List.pairwise_map.mpr (List.Pairwise.imp_of_mem ?_ List.pairwise_lt_range)
    intro a b ha hb hab e
    have := List.mem_range.mp ha
    have := List.mem_range.mp hb
    have e2 : (fr s a).cps.size = (fr s b).cps.size := congrArg (fun x : Str => x.cps.size) e
    rw [fr_size (by omega), fr_size (by omega)] at e2
    omega
  · intro a ha b hb e
    obtain ⟨j, hj, rfl⟩ := List.mem_map.mp ha
    have := List.mem_range.mp hj
    have e2 : (fr s j).cps.size = b.cps.size := congrArg (fun x : Str => x.cps.size) e
    rw [fr_size (by omega), hr b hb] at e2
    obtain rfl : j = 7 := by omega
    rw [fr_all h] at e
    exact nd2.1 (e ▸ hb)
end Pl
namespace Cm
open PySem PySem.Spec PyProof.Rows L2 Gx
/-- a claim -/
inductive C
  | claim
  | beats (o t : Str)
  | over (n : Str) (s : Rat)
  | under (n : Str) (s : Rat)
def greatest : C → Rat
  | .claim => 1/2
  | .beats _ _ => 1
  | .over _ s => (1/2) / s
  | .under _ s => (1/2) / (1 - s)
def valueOf : C → Option Str → Rat
  | .claim, _ => 1/2
  | .beats o t, m => if m = some o then 1 else if m = some t then 0 else 1/2
  | .over n s, m => if m = none ∨ m = some (Str.ofString "") then 1/2 else if m = some n then greatest (.over n s) else 0
  | .under n s, m => if m = none ∨ m = some (Str.ofString "") then 1/2 else if m = some n then 0 else greatest (.under n s)
def value (c : C) (m : Option Str) : Rat := if m = some (Str.ofString "?") then 0 else valueOf c m
def Ok (n : Nat) : C → Prop
  | .over _ s => 0 < s ∧ s < 1 ∧ Fr.Sz n s
  | .under _ s => 0 < s ∧ s < 1 ∧ Fr.Sz n s
  | _ => True
def At (K : PySem.W.Frag) (H : Hp) (a : Addr) : C → Prop
  | .claim => ∃ dx, H a = some (.ins (He.ga K "Claim") dx [])
  | .beats o t => ∃ dx, H a = some (.ins (He.ga K "Beats") dx [("one", .str o), ("other", .str t)])
  | .over n s => ∃ dx q, H a = some (.ins (He.ga K "Over") dx [("name", .str n), ("share", .ref q)]) ∧ SqT K H q (Fr.fq s)
  | .under n s => ∃ dx q, H a = some (.ins (He.ga K "Under") dx [("name", .str n), ("share", .ref q)]) ∧ SqT K H q (Fr.fq s)
theorem At.same {K : PySem.W.Frag} {H H' : Hp} (e : Same H H') {a : Addr} : ∀ {c : C}, At K H a c → At K H' a c
  | .claim, ⟨dx, h⟩ => ⟨dx, e _ _ h⟩
  | .beats _ _, ⟨dx, h⟩ => ⟨dx, e _ _ h⟩
  | .over _ _, ⟨dx, q, h, g⟩ => ⟨dx, q, e _ _ h, seqT_same e g⟩
  | .under _ _, ⟨dx, q, h, g⟩ => ⟨dx, q, e _ _ h, seqT_same e g⟩
theorem ins_lst {C dx : Addr} {fs : List (Str × V)} {xs : List V} : HO.ins C dx fs ≠ HO.lst xs := fun z => by cases z
theorem At.but {K : PySem.W.Frag} {H H' : Hp} {l : Addr} {ys : List V} (b : But l H H') (hl : H l = some (.lst ys)) {a : Addr} : ∀ {c : C}, At K H a c → At K H' a c
  | .claim, ⟨dx, h⟩ => ⟨dx, b _ _ (ne_of h hl ins_lst) h⟩
  | .beats _ _, ⟨dx, h⟩ => ⟨dx, b _ _ (ne_of h hl ins_lst) h⟩
  | .over _ _, ⟨dx, q, h, g⟩ => ⟨dx, q, b _ _ (ne_of h hl ins_lst) h, seqT_but b hl g⟩
  | .under _ _, ⟨dx, q, h, g⟩ => ⟨dx, q, b _ _ (ne_of h hl ins_lst) h, seqT_but b hl g⟩
/-- a mark: a text, or None -/
def mv : Option Str → V
  | none => .non
  | some s => .str s
theorem k_eqM {K : PySem.W.Frag} {H : Hp} {Q : VK} {m : Option Str} {s : Str} (q : Q (.bl (decide (m = some s))) H) : rEqU K (mv m) (.str s) H Q := by
  cases m with
  | none => exact k_eqS rfl (by rw [show decide (mv none = .str s) = decide ((none : Option Str) = some s) by simp [mv]]; exact q)
  | some t => exact k_eqT (by rw [show decide (t = s) = decide (some t = some s) by by_cases h : t = s <;> simp [h]]; exact q)
theorem k_neM {K : PySem.W.Frag} {H : Hp} {Q : VK} {m : Option Str} {s : Str} (q : Q (.bl (!decide (m = some s))) H) : rNeU K (mv m) (.str s) H Q := by
  cases m with
  | none => exact k_neS rfl (by rw [show decide (mv none = .str s) = decide ((none : Option Str) = some s) by simp [mv]]; exact q)
  | some t => exact k_neT (by rw [show decide (t = s) = decide (some t = some s) by by_cases h : t = s <;> simp [h]]; exact q)
theorem dec_non (m : Option Str) : decide (mv m = V.non) = decide (m = none) := by
  cases m <;> simp [mv]
theorem fq0 : Fr.fq 0 = [.int 0, .int 1] := rfl
theorem fq1 : Fr.fq 1 = [.int 1, .int 1] := rfl
theorem fqh : Fr.fq (1/2) = [.int 1, .int 2] := by
  have e1 : (1/2 : Rat).num = 1 := by decide +kernel
  have e2 : (1/2 : Rat).den = 2 := by decide +kernel
  show [V.int (1/2 : Rat).num, V.int ((1/2 : Rat).den : Int)] = _
  rw [e1, e2]
  rfl
theorem sz0 {n : Nat} : Fr.Sz (n + 2) 0 := ⟨by show (0 : Int).natAbs < _; exact Nat.two_pow_pos _, by show 1 < 2 ^ (n + 2); have := Nat.two_pow_pos n; rw [Nat.pow_add]; omega⟩
theorem sz1 {n : Nat} : Fr.Sz (n + 2) 1 := ⟨by show 1 < 2 ^ (n + 2); have := Nat.two_pow_pos n; rw [Nat.pow_add]; omega, by show 1 < 2 ^ (n + 2); have := Nat.two_pow_pos n; rw [Nat.pow_add]; omega⟩
theorem szh {n : Nat} : Fr.Sz (n + 2) (1/2) := by
  have e1 : (1/2 : Rat).num = 1 := by decide +kernel
  have e2 : (1/2 : Rat).den = 2 := by decide +kernel
  have := Nat.two_pow_pos n
  refine ⟨?_, ?_⟩
  · rw [e1, Nat.pow_add]; show 1 < _; omega
  · rw [e2, Nat.pow_add]; omega
theorem ne1 {s : Rat} (h : s < 1) : 1 - s ≠ 0 := fun z => by
  have e : s = 1 := by grind
  rw [e] at h
  exact absurd h (by decide)
theorem ne0 {s : Rat} (h : 0 < s) : s ≠ 0 := fun z => by rw [z] at h; exact absurd h (by decide)
theorem sz_greatest {n : Nat} : ∀ {c : C}, Ok n c → Fr.Sz (n + 5) (greatest c)
  | .claim, _ => (szh (n := n)).mono (by omega)
  | .beats _ _, _ => (sz1 (n := n)).mono (by omega)
  | .over _ s, h => (Fr.Sz.div (m := 2) (szh (n := 0)) h.2.2).mono (by omega)
  | .under _ s, h => (Fr.Sz.div (m := 2) (szh (n := 0)) (Fr.Sz.sub (m := 2) (sz1 (n := 0)) h.2.2)).mono (by omega)
theorem sz_valueOf {n : Nat} (c : C) (h : Ok n c) (m : Option Str) : Fr.Sz (n + 5) (valueOf c m) := by
  have g := sz_greatest h
  have a0 : Fr.Sz (n + 5) 0 := (sz0 (n := n)).mono (by omega)
  have a1 : Fr.Sz (n + 5) 1 := (sz1 (n := n)).mono (by omega)
  have ah : Fr.Sz (n + 5) (1/2) := (szh (n := n)).mono (by omega)
  cases c with
  | claim => exact ah
  | beats o t =>
    show Fr.Sz (n + 5) (if m = some o then 1 else if m = some t then 0 else 1/2)
    split
    · exact a1
    · split
      · exact a0
      · exact ah
  | over k s =>
    show Fr.Sz (n + 5) (if m = none ∨ m = some (Str.ofString "") then 1/2 else if m = some k then greatest (.over k s) else 0)
    split
    · exact ah
    · split
      · exact g
      · exact a0
  | under k s =>
    show Fr.Sz (n + 5) (if m = none ∨ m = some (Str.ofString "") then 1/2 else if m = some k then 0 else greatest (.under k s))
    split
    · exact ah
    · split
      · exact a0
      · exact g
theorem sz_value {n : Nat} (c : C) (h : Ok n c) (m : Option Str) : Fr.Sz (n + 5) (value c m) := by
  unfold value
  split
  · exact (sz0 (n := n)).mono (by omega)
  · exact sz_valueOf c h m
/-! shares -/
theorem num_pos {s : Rat} (h : 0 < s) : 0 < s.num := by
  have := (Rat.lt_iff 0 s).mp h
  have e : (0 : Rat).num * (s.den : Int) = 0 := by rw [show (0 : Rat).num = 0 from rfl, Int.zero_mul]
  have e2 : s.num * ((0 : Rat).den : Int) = s.num := by rw [show (0 : Rat).den = 1 from rfl]; omega
  rw [e, e2] at this
  exact this
theorem num_lt {s : Rat} (h : s < 1) : s.num < (s.den : Int) := by
  have := (Rat.lt_iff s 1).mp h
  have e : s.num * ((1 : Rat).den : Int) = s.num := by rw [show (1 : Rat).den = 1 from rfl]; omega
  have e2 : (1 : Rat).num * (s.den : Int) = (s.den : Int) := by rw [show (1 : Rat).num = 1 from rfl]; omega
  rw [e, e2] at this
  exact this
theorem share_pos {a b : Int} (ha : 1 ≤ a) (hb : a < b) : 0 < Rat.divInt a b ∧ Rat.divInt a b < 1 := by
  constructor
  · have e : Rat.divInt a b = (a : Rat) / (b : Rat) := Rat.divInt_eq_div a b
    rw [e, Rat.lt_div_iff (by exact_mod_cast (show (0 : Int) < b by omega)), Rat.zero_mul]
    exact_mod_cast (show (0 : Int) < a by omega)
  · have e : Rat.divInt a b = (a : Rat) / (b : Rat) := Rat.divInt_eq_div a b
    rw [e, Rat.div_lt_iff (by exact_mod_cast (show (0 : Int) < b by omega)), Rat.one_mul]
    exact_mod_cast hb
theorem half_num : (1/2 : Rat).num = 1 := by decide +kernel
theorem half_den : (1/2 : Rat).den = 2 := by decide +kernel
theorem half_over (s : Rat) : Rat.divInt (s.den : Int) (2 * s.num) = (1/2) / s := by
  rw [← Fr.div_eq, half_num, half_den, Int.one_mul]
  rfl
theorem one_sub (s : Rat) : Rat.divInt ((s.den : Int) - s.num) (s.den : Int) = 1 - s := by
  rw [← Fr.sub_eq]
  show _ = Rat.divInt (1 * (s.den : Int) - s.num * 1) (1 * (s.den : Int))
  rw [Int.one_mul, Int.mul_one]
theorem half_under (s : Rat) : Rat.divInt (s.den : Int) (2 * ((s.den : Int) - s.num)) = (1/2) / (1 - s) := by
  rw [← one_sub s]
  have e : (1/2 : Rat) = Rat.divInt 1 2 := by decide +kernel
  rw [e, Rat.div_def, Rat.inv_divInt, Rat.divInt_mul_divInt, Int.one_mul]
/-! marks among names -/
theorem flat_mv (m : Option Str) : flatV (mv m) = true := by cases m <;> rfl
theorem flat_strs (ns : List Str) : (ns.map V.str).all flatV = true := by simp [flatV]
theorem in_mv (m : Option Str) : ∀ ns : List Str, inV (mv m) (ns.map V.str) = decide (∃ n ∈ ns, m = some n) := fun ns => by
  unfold inV
  induction ns with
  | nil => simp
  | cons a r ih =>
    rw [List.map_cons, List.any_cons, ih]
    cases m with
    | none => simp [mv, eqV]
    | some t =>
      have e : eqV (V.str a) (mv (some t)) = decide (a = t) := by
        show (a == t) = _
        by_cases h : a = t
        · simp [h]
        · rw [decide_eq_false h, beq_eq_false_iff_ne.mpr h]
      rw [e]
      by_cases h : a = t
      · simp [h]
      · have h2 : ¬ t = a := fun z => h z.symm
        simp [h, h2]
/-! a claim's method, whatever its class -/
def pick {α : Type} (c : C) (a b d e : α) : α := match c with
  | .claim => a
  | .beats _ _ => b
  | .over _ _ => d
  | .under _ _ => e
theorem pick_same {α : Type} (c : C) (a : α) : pick c a a a a = a := by cases c <;> rfl
theorem k_m4 {K : PySem.W.Frag} {σ : L2.St} {H : Hp} {Q : VK} {ta : TE} {t : TA} {m : Str} {sp1 sp2 sp3 sp4 : Sp} {E : L2.St → XK} {a : Addr} {c : C} (hev : ∀ Q : VK, Q (.ref a) H → ta σ H Q) (hc : At K H a c) (q : t σ H fun vs H2 => (pick c sp1 sp2 sp3 sp4) (.ref a :: vs) H2 Q (E σ))
    (h1 : (m == (Str.ofString "one")) = false := by decide +kernel) (h2 : (m == (Str.ofString "other")) = false := by decide +kernel) (h3 : (m == (Str.ofString "name")) = false := by decide +kernel) (h4 : (m == (Str.ofString "share")) = false := by decide +kernel) :
    tOr2 (tMethS (He.ga K "Claim") m sp1 E ta t) (tOr2 (tMethS (He.ga K "Beats") m sp2 E ta t) (tOr2 (tMethS (He.ga K "Over") m sp3 E ta t) (tMethS (He.ga K "Under") m sp4 E ta t))) σ H Q := by
  cases c with
  | claim =>
    obtain ⟨dx, hi⟩ := hc
    exact k_o1 (k_meth (hev _ (k_methx hi lk0 q)))
  | beats o u =>
    obtain ⟨dx, hi⟩ := hc
    exact k_o2 (k_o1 (k_meth (hev _ (k_methx hi (lkz h1 (lkz h2 lk0)) q))))
  | over n s =>
    obtain ⟨dx, p, hi, _⟩ := hc
    exact k_o2 (k_o2 (k_o1 (k_meth (hev _ (k_methx hi (lkz h3 (lkz h4 lk0)) q)))))
  | under n s =>
    obtain ⟨dx, p, hi, _⟩ := hc
    exact k_o2 (k_o2 (k_o2 (k_meth (hev _ (k_methx hi (lkz h3 (lkz h4 lk0)) q)))))
end Cm
namespace Sr
open PySem PySem.Spec PyProof.Rows L2 Gx
/-- a source of numbers: how many were drawn, then the cells -/
def Src (cs : List Int) : Prop := ∃ k r, cs = k :: r ∧ 0 ≤ k ∧ r ≠ [] ∧ r.length ≤ 62
theorem cut1 {xs : List V} : cutV xs (some 1) (some 63) = (xs.drop 1).take 62 := by
  unfold cutV
  rw [show (some (1 : Int)) = some ((1 : Nat) : Int) from rfl, show (some (63 : Int)) = some ((63 : Nat) : Int) from rfl, HT.sIx_nat, HT.sIx_nat]
  by_cases c : 63 ≤ xs.length
  · rw [show min 1 xs.length = 1 by omega, show min 63 xs.length = 63 by omega]
  · by_cases c1 : 1 ≤ xs.length
    · rw [show min 1 xs.length = 1 by omega, show min 63 xs.length = xs.length by omega, List.take_of_length_le (by simp), List.take_of_length_le (by simp; omega)]
    · rw [show xs = [] from List.length_eq_zero_iff.mp (by omega)]
      rfl
theorem cut63 {xs : List V} : cutV xs none (some 63) = xs.take 63 := by
  unfold cutV
  rw [show (some (63 : Int)) = some ((63 : Nat) : Int) from rfl, HT.sIx_nat, HT.sIx_none, List.drop_zero, Nat.sub_zero]
  by_cases c : 63 ≤ xs.length
  · rw [Nat.min_eq_left c]
  · rw [Nat.min_eq_right (by omega), List.take_of_length_le (by omega), List.take_of_length_le (by omega)]
end Sr
namespace Cm
open PySem PySem.Spec PyProof.Rows L2 Gx Lw
theorem Fqs.but {K : PySem.W.Frag} {H H' : Hp} {l : Addr} {ys : List V} (b : But l H H') (hl : H l = some (.lst ys)) : ∀ {vs : List V} {qs : List Rat}, Fqs K H vs qs → Fqs K H' vs qs
  | _, _, .nil => .nil
  | _, _, .cons ⟨p, h1, h2⟩ r => .cons ⟨p, h1, seqT_but b hl h2⟩ (Fqs.but b hl r)
/-- whether a claim holds of marks -/
def holds (c : C) (ms : List (Option Str)) : Prop := (ms.length : Rat) / 2 < Lw.sum (ms.map (value c))
instance (c : C) (ms : List (Option Str)) : Decidable (holds c ms) := inferInstanceAs (Decidable ((ms.length : Rat) / 2 < Lw.sum (ms.map (value c))))
theorem sizes {n : Nat} (c : C) (h : Ok n c) : ∀ ms : List (Option Str), Paired (fun q k => Fr.Sz k q) (ms.map (value c)) (ms.map fun _ => n + 5)
  | [] => .nil
  | m :: r => .cons (sz_value c h m) (sizes c h r)
theorem szs_rep {α : Type} (n : Nat) : ∀ ms : List α, Lw.szs (ms.map fun _ => n + 5) = ms.length * (n + 6) + 1 := fun ms => by
  have h : ∀ (l : List α) (b : Nat), (l.map fun _ => n + 5).foldl (fun a n => a + n + 1) b = b + l.length * (n + 6) := fun l => by
    induction l with
    | nil => intro b; simp
    | cons x r ih =>
      intro b
      rw [List.map_cons, List.foldl_cons, ih, List.length_cons, Nat.succ_mul]
      omega
  unfold Lw.szs
  rw [h]
  omega
theorem half_of (n : Nat) : Rat.divInt (n : Int) 2 = (n : Rat) / 2 := by
  rw [Rat.divInt_eq_div]
  rfl
end Cm
namespace Lw
open PySem PySem.Spec PyProof.Rows L2 Gx
theorem Fqs.but {K : PySem.W.Frag} {H H' : Hp} {l : Addr} {ys : List V} (b : But l H H') (hl : H l = some (.lst ys)) {vs : List V} {qs : List Rat} (a : Fqs K H vs qs) : Fqs K H' vs qs := Cm.Fqs.but b hl a
end Lw
namespace Cm
open PySem PySem.Spec PyProof.Rows L2 Gx
/-- what a dealt mark may be -/
def Mk (ns : List Str) (b : Bool) (m : Option Str) : Prop := (∃ n ∈ ns, m = some n) ∨ m = some (Str.ofString "") ∨ m = none ∨ (b = true ∧ m = some (Str.ofString "?"))
theorem strs_mv (ns : List Str) : ns.map V.str = (ns.map some).map mv := by rw [List.map_map]; rfl
theorem mk_names {ns : List Str} {b : Bool} : ∀ m ∈ ns.map some, Mk ns b m := fun m hm => by
  obtain ⟨n, hn, rfl⟩ := List.mem_map.mp hm
  exact .inl ⟨n, hn, rfl⟩
theorem all_app {α : Type} {P : α → Prop} {a b : List α} (h : ∀ x ∈ a, P x) (g : ∀ x ∈ b, P x) : ∀ x ∈ a ++ b, P x := fun x hx => (List.mem_append.mp hx).elim (h x) (g x)
theorem all_take {α : Type} {P : α → Prop} {a : List α} {n : Nat} (h : ∀ x ∈ a, P x) : ∀ x ∈ a.take n, P x := fun x hx => h x (List.mem_of_mem_take hx)
theorem all_drop {α : Type} {P : α → Prop} {a : List α} {n : Nat} (h : ∀ x ∈ a, P x) : ∀ x ∈ a.drop n, P x := fun x hx => h x (List.mem_of_mem_drop hx)
theorem get_map {α : Type} {f : α → V} {xs : List α} {j : Nat} {x : V} (h : (xs.map f)[j]? = some x) : ∃ a, xs[j]? = some a ∧ x = f a := by
  rw [List.getElem?_map] at h
  cases e : xs[j]? with
  | none => rw [e] at h; cases h
  | some m => rw [e] at h; exact ⟨m, rfl, (Option.some.inj h).symm⟩
theorem at_map {α : Type} {f : α → V} {xs : List α} {i : Int} (h0 : 0 ≤ i) (h1 : i < xs.length) : ∃ a, a ∈ xs ∧ atI (xs.map f) i = some (f a) := by
  obtain ⟨n, rfl⟩ := Int.eq_ofNat_of_zero_le h0
  exact ⟨xs[n]'(by omega), List.getElem_mem _, atI_nat (by rw [List.getElem?_map, List.getElem?_eq_getElem (by omega)]; rfl)⟩
end Cm
namespace Cm
open PySem PySem.Spec PyProof.Rows L2 Gx
/-! more about values -/
theorem half_nn : (0 : Rat) ≤ 1/2 := by decide +kernel
theorem one_nn : (0 : Rat) ≤ 1 := by decide +kernel
theorem half_le {s : Rat} (h0 : 0 < s) (h1 : s < 1) : (1/2 : Rat) ≤ (1/2) / s := by
  refine Rat.not_lt.mp fun z => ?_
  rw [Rat.div_lt_iff h0] at z
  have := Rat.mul_le_mul_of_nonneg_left (Rat.le_of_lt h1) half_nn
  rw [Rat.mul_one] at this
  exact absurd (Std.lt_of_lt_of_le z this) (Rat.lt_irrefl)
theorem sub_pos {s : Rat} (h1 : s < 1) : 0 < 1 - s ∧ (0 < s → 1 - s < 1) := by
  constructor
  · grind
  · intro h; grind
theorem val_nn {n : Nat} (c : C) (h : Ok n c) (m : Option Str) : 0 ≤ value c m ∧ value c m ≤ greatest c := by
  have g : 0 ≤ greatest c ∧ (1/2 : Rat) ≤ greatest c := by
    cases c with
    | claim => exact ⟨half_nn, Rat.le_refl⟩
    | beats o t => exact ⟨one_nn, show (1/2 : Rat) ≤ 1 by decide +kernel⟩
    | over k s => have := half_le h.1 h.2.1; exact ⟨Rat.le_trans half_nn this, this⟩
    | under k s =>
      obtain ⟨p1, p2⟩ := sub_pos h.2.1
      have := half_le p1 (p2 h.1)
      exact ⟨Rat.le_trans half_nn this, this⟩
  have z : (0 : Rat) ≤ 0 ∧ (0 : Rat) ≤ greatest c := ⟨Rat.le_refl, g.1⟩
  unfold value
  split
  · exact z
  · cases c with
    | claim => exact ⟨half_nn, g.2⟩
    | beats o t =>
      show 0 ≤ (if m = some o then 1 else if m = some t then 0 else 1/2) ∧ (if m = some o then 1 else if m = some t then 0 else 1/2) ≤ _
      split
      · exact ⟨one_nn, Rat.le_refl⟩
      · split
        · exact z
        · exact ⟨half_nn, g.2⟩
    | over k s =>
      show 0 ≤ (if m = none ∨ m = some (Str.ofString "") then 1/2 else if m = some k then greatest (.over k s) else 0) ∧ (if m = none ∨ m = some (Str.ofString "") then 1/2 else if m = some k then greatest (.over k s) else 0) ≤ _
      split
      · exact ⟨half_nn, g.2⟩
      · split
        · exact ⟨g.1, Rat.le_refl⟩
        · exact z
    | under k s =>
      show 0 ≤ (if m = none ∨ m = some (Str.ofString "") then 1/2 else if m = some k then 0 else greatest (.under k s)) ∧ (if m = none ∨ m = some (Str.ofString "") then 1/2 else if m = some k then 0 else greatest (.under k s)) ≤ _
      split
      · exact ⟨half_nn, g.2⟩
      · split
        · exact z
        · exact ⟨g.1, Rat.le_refl⟩
theorem value_q (c : C) : value c (some (Str.ofString "?")) = 0 := if_pos rfl
theorem sum_add : ∀ (qs : List Rat) (a : Rat), qs.foldl (· + ·) a = a + qs.foldl (· + ·) 0
  | [], a => by simp [Rat.add_zero]
  | q :: r, a => by
    rw [List.foldl_cons, List.foldl_cons, sum_add r (a + q), sum_add r (0 + q)]
    grind
theorem sum_cons (q : Rat) (r : List Rat) : Lw.sum (q :: r) = q + Lw.sum r := by
  unfold Lw.sum
  rw [List.foldl_cons, sum_add, Rat.zero_add]
/-- each mark either the same, or one said in place of one that lacks -/
def Said (m m' : Option Str) : Prop := m' = m ∨ m = some (Str.ofString "?")
theorem sum_said {n : Nat} (c : C) (h : Ok n c) : ∀ {ms ms' : List (Option Str)}, PySem.Paired Said ms ms' → Lw.sum (ms.map (value c)) ≤ Lw.sum (ms'.map (value c))
  | _, _, .nil => Rat.le_refl
  | _, _, .cons (a := a) (b := b) p r => by
    rw [List.map_cons, List.map_cons, sum_cons, sum_cons]
    have i := sum_said c h r
    have q : value c a ≤ value c b := by
      rcases p with e | e
      · rw [e]; exact Rat.le_refl
      · rw [e, value_q]; exact (val_nn c h b).1
    grind
theorem holds_said {n : Nat} (c : C) (h : Ok n c) {ms ms' : List (Option Str)} (p : PySem.Paired Said ms ms') (g : holds c ms) : holds c ms' := by
  have e := PySem.Paired.length p
  unfold holds at *
  rw [← e]
  exact Std.lt_of_lt_of_le g (sum_said c h p)
theorem holds_more {c : C} {ms : List (Option Str)} (g : holds c (ms ++ [some (Str.ofString "?")])) : holds c ms := by
  unfold holds at *
  rw [List.map_append, List.length_append] at g
  have e : Lw.sum (ms.map (value c) ++ [value c (some (Str.ofString "?"))]) = Lw.sum (ms.map (value c)) := by
    rw [Lw.sum_snoc, value_q, Rat.add_zero]
  rw [show [some (Str.ofString "?")].map (value c) = [value c (some (Str.ofString "?"))] from rfl, e] at g
  have l : ((ms.length : Rat)) / 2 ≤ ((ms.length + [some (Str.ofString "?")].length : Nat) : Rat) / 2 := by
    show ((ms.length : Rat)) / 2 ≤ ((ms.length + 1 : Nat) : Rat) / 2
    have : ((ms.length + 1 : Nat) : Rat) = (ms.length : Rat) + 1 := by exact_mod_cast rfl
    rw [this]
    grind
  exact Std.lt_of_le_of_lt l g
theorem paired_snoc {α β : Type} {F : α → β → Prop} : ∀ {as : List α} {bs : List β} {a : α} {b : β}, PySem.Paired F as bs → F a b → PySem.Paired F (as ++ [a]) (bs ++ [b])
  | _, _, _, _, .nil, h => .cons h .nil
  | _, _, _, _, .cons x r, h => .cons x (paired_snoc r h)
end Cm
namespace Cm
open PySem PySem.Spec PyProof.Rows L2 Gx
def isQ (m : Option Str) : Bool := decide (m = some (Str.ofString "?"))
def there (m : Option Str) : Bool := !decide (m = some (Str.ofString "?"))
def bare (m : Option Str) : Bool := decide (m = none) || decide (m = some (Str.ofString ""))
def isN (n : Str) (m : Option Str) : Bool := decide (m = some n)
theorem cast_succ (n : Nat) : ((n + 1 : Nat) : Rat) = (n : Rat) + 1 := by exact_mod_cast rfl
theorem sum_two {c : C} {h g : Option Str → Bool} {x : Rat} (hv : ∀ m, value c m = (if h m = true then 1/2 else 0) + (if g m = true then x else 0)) : ∀ ms : List (Option Str), Lw.sum (ms.map (value c)) = (ms.countP h : Rat) * (1/2) + (ms.countP g : Rat) * x
  | [] => by
    show (0 : Rat) = ((0 : Nat) : Rat) * (1/2) + ((0 : Nat) : Rat) * x
    have : ((0 : Nat) : Rat) = 0 := rfl
    rw [this, Rat.zero_mul, Rat.zero_mul, Rat.add_zero]
  | m :: r => by
    rw [List.map_cons, sum_cons, sum_two hv r, hv m, List.countP_cons, List.countP_cons]
    by_cases a : h m = true <;> by_cases b : g m = true <;> simp only [a, b, if_true, Bool.false_eq_true, if_false, Nat.add_zero] <;> (try rw [cast_succ]) <;> (try rw [cast_succ]) <;> grind
theorem ne_q {n : Str} (h : Pl.Nm n) : n ≠ Str.ofString "?" := fun e => by
  rw [e] at h
  have := h.2.2 63 (by decide +kernel)
  omega
theorem ne_e {n : Str} (h : Pl.Nm n) : n ≠ Str.ofString "" := fun e => by
  rw [e] at h
  exact absurd h.1 (by decide +kernel)
theorem q_ne_e : Str.ofString "?" ≠ Str.ofString "" := by decide +kernel
/-! what each claim's values are -/
theorem val_claim (m : Option Str) : value .claim m = (if there m = true then 1/2 else 0) + (if (false : Bool) = true then (0 : Rat) else 0) := by
  show (if m = some (Str.ofString "?") then 0 else 1/2) = _
  by_cases h : m = some (Str.ofString "?")
  · simp [there, h, Rat.add_zero]
  · simp [there, h, Rat.add_zero]
def half2 (a b : Str) (m : Option Str) : Bool := there m && (!isN a m && !isN b m)
theorem val_beats {a b : Str} (ha : a ≠ Str.ofString "?") (hb : b ≠ Str.ofString "?") (m : Option Str) : value (.beats a b) m = (if half2 a b m = true then 1/2 else 0) + (if isN a m = true then (1 : Rat) else 0) := by
  show (if m = some (Str.ofString "?") then 0 else if m = some a then 1 else if m = some b then 0 else 1/2) = _
  by_cases h : m = some (Str.ofString "?")
  · subst h
    have e1 : ¬ (some (Str.ofString "?") = some a) := fun e => ha (Option.some.inj e).symm
    simp [half2, there, isN, e1, Rat.add_zero]
  · by_cases h1 : m = some a
    · simp [half2, isN, h1, Rat.zero_add]
      intro e; exact absurd e ha
    · by_cases h2 : m = some b
      · have h3 : ¬ b = a := fun e => h1 (by rw [h2, e])
        simp [half2, isN, h2, h3, hb, Rat.zero_add]
      · simp [half2, there, isN, h, h1, h2, Rat.add_zero]
theorem val_over {n : Str} {s : Rat} (hn : n ≠ Str.ofString "?") (he : n ≠ Str.ofString "") (m : Option Str) : value (.over n s) m = (if bare m = true then 1/2 else 0) + (if isN n m = true then (1/2) / s else 0) := by
  show (if m = some (Str.ofString "?") then 0 else if m = none ∨ m = some (Str.ofString "") then 1/2 else if m = some n then (1/2)/s else 0) = _
  by_cases h : m = some (Str.ofString "?")
  · subst h
    have e1 : ¬ (Str.ofString "?" = n) := fun e => hn e.symm
    simp [bare, isN, e1, q_ne_e, Rat.add_zero]
  · by_cases h1 : m = none
    · simp [bare, isN, h1, Rat.add_zero]
    · by_cases h2 : m = some (Str.ofString "")
      · have e1 : ¬ (Str.ofString "" = n) := fun e => he e.symm
        simp [bare, isN, h2, e1, Rat.add_zero, Ne.symm q_ne_e]
      · by_cases h3 : m = some n
        · simp [bare, isN, h3, hn, he, Rat.zero_add]
        · simp [bare, isN, h, h1, h2, h3, Rat.zero_add]
def rest (n : Str) (m : Option Str) : Bool := there m && (!bare m && !isN n m)
theorem val_under {n : Str} {s : Rat} (hn : n ≠ Str.ofString "?") (he : n ≠ Str.ofString "") (m : Option Str) : value (.under n s) m = (if bare m = true then 1/2 else 0) + (if rest n m = true then (1/2) / (1 - s) else 0) := by
  show (if m = some (Str.ofString "?") then 0 else if m = none ∨ m = some (Str.ofString "") then 1/2 else if m = some n then 0 else (1/2)/(1 - s)) = _
  by_cases h : m = some (Str.ofString "?")
  · subst h
    simp [bare, rest, there, q_ne_e, Rat.add_zero]
  · by_cases h1 : m = none
    · simp [bare, rest, h1, Rat.add_zero]
    · by_cases h2 : m = some (Str.ofString "")
      · simp [bare, rest, h2, Rat.add_zero, Ne.symm q_ne_e]
      · by_cases h3 : m = some n
        · simp [bare, rest, isN, h3, hn, he, Rat.zero_add]
        · simp [bare, rest, there, isN, h, h1, h2, h3, Rat.zero_add]
/-! the counts, one by the others -/
theorem cnt_half2 {a b : Str} (ha : a ≠ Str.ofString "?") (hb : b ≠ Str.ofString "?") (hab : a ≠ b) : ∀ ms : List (Option Str), ms.countP there = ms.countP (half2 a b) + ms.countP (isN a) + ms.countP (isN b)
  | [] => rfl
  | m :: r => by
    have ih := cnt_half2 ha hb hab r
    rw [List.countP_cons, List.countP_cons, List.countP_cons, List.countP_cons, ih]
    by_cases h : m = some (Str.ofString "?")
    · subst h
      have e1 : ¬ (Str.ofString "?" = a) := fun e => ha e.symm
      have e2 : ¬ (Str.ofString "?" = b) := fun e => hb e.symm
      simp [half2, there, isN, e1, e2]
    · by_cases h1 : m = some a
      · simp [half2, there, isN, h1, ha, hab]; omega
      · by_cases h2 : m = some b
        · have h3 : ¬ b = a := fun e => hab e.symm
          simp [half2, there, isN, h2, h3, hb]; omega
        · simp [half2, there, isN, h, h1, h2]; omega
theorem cnt_rest {n : Str} (hn : n ≠ Str.ofString "?") (he : n ≠ Str.ofString "") : ∀ ms : List (Option Str), ms.countP there = ms.countP (rest n) + ms.countP bare + ms.countP (isN n)
  | [] => rfl
  | m :: r => by
    have ih := cnt_rest hn he r
    rw [List.countP_cons, List.countP_cons, List.countP_cons, List.countP_cons, ih]
    by_cases h : m = some (Str.ofString "?")
    · subst h
      have e1 : ¬ (Str.ofString "?" = n) := fun e => hn e.symm
      simp [rest, there, bare, isN, e1, q_ne_e]
    · by_cases h1 : m = none
      · simp [rest, there, bare, isN, h1]; omega
      · by_cases h2 : m = some (Str.ofString "")
        · have e1 : ¬ (Str.ofString "" = n) := fun e => he e.symm
          simp [rest, there, bare, isN, h2, e1, Ne.symm q_ne_e]; omega
        · by_cases h3 : m = some n
          · simp [rest, there, bare, isN, h3, hn, he]; omega
          · simp [rest, there, bare, isN, h, h1, h2, h3]; omega
/-! when a claim holds, by counts -/
theorem cast_lt {a b : Int} : ((a : Rat) < (b : Rat)) ↔ a < b := by exact_mod_cast Iff.rfl
theorem scaled {a b g x s : Rat} (h0 : 0 < s) (hx : x * s = 1/2) : a / 2 < b * (1/2) + g * x ↔ a * s < b * s + g := by
  rw [← Rat.mul_lt_mul_right h0]
  have e : (b * (1/2) + g * x) * s = (b * s + g) / 2 := by
    have : g * x * s = g * (1/2) := by rw [Rat.mul_assoc, hx]
    grind
  rw [e]
  constructor
  · intro h; grind
  · intro h; grind
theorem num_den (s : Rat) : s * (s.den : Rat) = (s.num : Rat) := by
  have e : s = (s.num : Rat) / (s.den : Rat) := by
    have := Rat.num_divInt_den s
    rw [Rat.divInt_eq_div] at this
    exact this.symm
  have hd : (s.den : Rat) ≠ 0 := by
    intro z
    have : (s.den : Rat) = ((0 : Nat) : Rat) := z
    have h2 : s.den = 0 := by exact_mod_cast this
    exact s.den_nz h2
  calc s * (s.den : Rat) = (s.num : Rat) / (s.den : Rat) * (s.den : Rat) := by rw [← e]
    _ = (s.num : Rat) := Rat.div_mul_cancel hd
theorem den_pos' (s : Rat) : (0 : Rat) < (s.den : Rat) := by exact_mod_cast Nat.pos_of_ne_zero s.den_nz
theorem inv2 {s : Rat} (h0 : 0 < s) : (1/2) / s * s = 1/2 := Rat.div_mul_cancel (ne0 h0)
theorem by_share {l b g : Nat} {s : Rat} {p w : Int} (h0 : 0 < s) (hw : 0 < w) (e : s * (w : Rat) = (p : Rat)) : ((l : Rat) / 2 < (b : Rat) * (1/2) + (g : Rat) * ((1/2) / s)) ↔ (l : Int) * p < (g : Int) * w + (b : Int) * p := by
  have hw2 : (0 : Rat) < (w : Rat) := by exact_mod_cast hw
  rw [scaled h0 (inv2 h0), ← Rat.mul_lt_mul_right hw2]
  have e1 : (l : Rat) * s * (w : Rat) = (((l : Int) * p : Int) : Rat) := by rw [Rat.mul_assoc, e, Rat.intCast_mul]; rfl
  have e2 : ((b : Rat) * s + (g : Rat)) * (w : Rat) = (((g : Int) * w + (b : Int) * p : Int) : Rat) := by
    rw [Rat.intCast_add, Rat.intCast_mul, Rat.intCast_mul, Rat.add_mul, Rat.mul_assoc, e, Rat.add_comm]
    rfl
  rw [e1, e2, cast_lt]
theorem holds_claim (ms : List (Option Str)) : holds .claim ms ↔ (ms.length : Int) < (ms.countP there : Int) := by
  unfold holds
  rw [sum_two val_claim]
  have e : ((ms.countP fun _ => false : Nat) : Rat) = 0 := by rw [List.countP_false]; rfl
  rw [Rat.mul_zero, Rat.add_zero]
  constructor
  · intro h
    have : (ms.length : Rat) < (ms.countP there : Rat) := by grind
    exact_mod_cast this
  · intro h
    have : (ms.length : Rat) < (ms.countP there : Rat) := by exact_mod_cast h
    grind
theorem holds_beats {a b : Str} (ha : a ≠ Str.ofString "?") (hb : b ≠ Str.ofString "?") (hab : a ≠ b) (ms : List (Option Str)) : holds (.beats a b) ms ↔ (ms.length : Int) < 2 * (ms.countP (isN a) : Int) + (ms.countP there : Int) - (ms.countP (isN a) : Int) - (ms.countP (isN b) : Int) := by
  unfold holds
  rw [sum_two (val_beats ha hb)]
  have c := cnt_half2 ha hb hab ms
  have e : (2 * (ms.countP (isN a) : Int) + (ms.countP there : Int) - (ms.countP (isN a) : Int) - (ms.countP (isN b) : Int)) = ((2 * ms.countP (isN a) + ms.countP (half2 a b) : Nat) : Int) := by omega
  rw [e]
  have e2 : ((2 * ms.countP (isN a) + ms.countP (half2 a b) : Nat) : Rat) = 2 * (ms.countP (isN a) : Rat) + (ms.countP (half2 a b) : Rat) := by exact_mod_cast rfl
  constructor
  · intro h
    have : (ms.length : Rat) < ((2 * ms.countP (isN a) + ms.countP (half2 a b) : Nat) : Rat) := by rw [e2]; grind
    exact_mod_cast this
  · intro h
    have : (ms.length : Rat) < ((2 * ms.countP (isN a) + ms.countP (half2 a b) : Nat) : Rat) := by exact_mod_cast h
    rw [e2] at this
    grind
theorem holds_over {n : Str} {s : Rat} (hn : n ≠ Str.ofString "?") (he : n ≠ Str.ofString "") (h0 : 0 < s) (ms : List (Option Str)) : holds (.over n s) ms ↔ (ms.length : Int) * s.num < (ms.countP (isN n) : Int) * (s.den : Int) + (ms.countP bare : Int) * s.num := by
  unfold holds
  rw [sum_two (val_over hn he), by_share (p := s.num) (w := (s.den : Int)) h0 (by have := s.den_nz; omega) (num_den s)]
theorem holds_under {n : Str} {s : Rat} (hn : n ≠ Str.ofString "?") (he : n ≠ Str.ofString "") (h1 : s < 1) (ms : List (Option Str)) : holds (.under n s) ms ↔ (ms.length : Int) * ((s.den : Int) - s.num) < ((ms.countP there : Int) - (ms.countP bare : Int) - (ms.countP (isN n) : Int)) * (s.den : Int) + (ms.countP bare : Int) * ((s.den : Int) - s.num) := by
  unfold holds
  have c := cnt_rest hn he ms
  have e : (ms.countP there : Int) - (ms.countP bare : Int) - (ms.countP (isN n) : Int) = (ms.countP (rest n) : Int) := by omega
  rw [e, sum_two (val_under hn he), by_share (p := (s.den : Int) - s.num) (w := (s.den : Int)) (sub_pos h1).1 (by have := s.den_nz; omega) ?_]
  have g := num_den s
  have : (1 - s) * (s.den : Rat) = (s.den : Rat) - (s.num : Rat) := by rw [← g]; grind
  rw [Rat.intCast_sub]
  exact this
/-! marks as data -/
def md : Option Str → PyData
  | none => .none
  | some s => .str s
theorem dp_mv {K : PySem.W.Frag} {H : Hp} (m : Option Str) : Dp K H (mv m) (md m) := by
  cases m with
  | none => exact .non
  | some s => exact .str s
theorem dpAll_mv {K : PySem.W.Frag} {H : Hp} : ∀ ms : List (Option Str), DpAll K H (ms.map mv) (ms.map md)
  | [] => .nil
  | m :: r => .cons (dp_mv m) (dpAll_mv r)
theorem plain_md : ∀ ms : List (Option Str), PyData.plainAll (ms.map md) = true ∧ PyData.depthAll (ms.map md) = 0
  | [] => ⟨by simp [PyData.plainAll], by simp [PyData.depthAll]⟩
  | m :: r => by
    obtain ⟨h1, h2⟩ := plain_md r
    cases m with
    | none => exact ⟨by simp [md, PyData.plainAll, PyData.plain] at *; exact h1, by simp [md, PyData.depthAll, PyData.depth] at *; exact h2⟩
    | some s => exact ⟨by simp [md, PyData.plainAll, PyData.plain] at *; exact h1, by simp [md, PyData.depthAll, PyData.depth] at *; exact h2⟩
theorem eqv_md (m : Option Str) (n : Str) : PyData.eqv (md m) (.str n) = isN n m := by
  cases m with
  | none => simp [md, PyData.eqv, isN]
  | some s => by_cases h : s = n <;> simp [md, PyData.eqv, isN, h]
theorem cnt_md (ms : List (Option Str)) (n : Str) : ((ms.map md).countP fun z => PyData.eqv z (.str n)) = ms.countP (isN n) := by
  rw [List.countP_map]
  congr 1
  funext m
  exact eqv_md m n
/-- count of a name among marks -/
theorem k_cntM {K : PySem.W.Frag} {H : Hp} {Q : VK} {p : Addr} {ms : List (Option Str)} {n : Str} (h : SqL K H p (ms.map mv)) (q : Q (.int (ms.countP (isN n) : Int)) H) : rCntL K (.ref p) [.str n] H Q := by
  obtain ⟨h1, h2⟩ := plain_md ms
  refine k_cntL (.lst h (dpAll_mv ms)) (.str n) h1 rfl (by omega) ?_
  rw [cnt_md]
  exact q
/-- how many of those walked are kept -/
theorem countP_take {P : Option Str → Bool} {ms : List (Option Str)} {i : Nat} {m : Option Str} (h : ms[i]? = some m) : ((ms.take (i + 1)).filter P) = (ms.take i).filter P ++ (if P m = true then [m] else []) := by
  rw [Lw.take_snoc h, List.filter_append]
  by_cases c : P m = true <;> simp [c]
theorem sum_rev : ∀ qs : List Rat, Lw.sum qs.reverse = Lw.sum qs
  | [] => rfl
  | q :: r => by rw [List.reverse_cons, Lw.sum_snoc, sum_rev r, sum_cons, Rat.add_comm]
theorem holds_rev (c : C) (ms : List (Option Str)) : holds c ms.reverse ↔ holds c ms := by
  unfold holds
  rw [List.map_reverse, sum_rev, List.length_reverse]
/-- the claim of a kind -/
def kd (k : Int) (a b : Str) (s : Rat) : C := if k = 0 then .beats a b else if k = 1 then .over a s else if k = 2 then .under a s else .claim
def inN (ns : List Str) (m : Option Str) : Bool := decide (∃ n ∈ ns, m = some n)
theorem cnt_all {P R : Option Str → Bool} : ∀ {ms : List (Option Str)}, (∀ m ∈ ms, (P m = true ↔ R m = false)) → ms.countP P + ms.countP R = ms.length
  | [], _ => rfl
  | m :: r, h => by
    have ih := cnt_all (ms := r) fun x hx => h x (List.mem_cons_of_mem m hx)
    have hm := h m (List.mem_cons_self ..)
    rw [List.countP_cons, List.countP_cons, List.length_cons]
    cases e : P m with
    | true =>
      rw [hm.mp e]
      simp
      omega
    | false =>
      cases e2 : R m with
      | true => simp; omega
      | false => rw [hm.mpr e2] at e; cases e
end Cm
namespace Cm
open PySem PySem.Spec PyProof.Rows L2 Gx
abbrev sh (d : PyData) : Prop := Dt.Sh 0 d
theorem sh_nm {g : Str} (h : Pl.Nm g) : sh (md (some g)) := Dt.sh_str h.ok
end Cm
namespace Cm
open PySem PySem.Spec PyProof.Rows L2 Gx
/-- a number as a text -/
def T (i : Int) : Str := Str.ofString (toString i)
theorem T_len {i : Int} (h : i.natAbs.log2 < 1920) : (T i).length ≤ 1921 := PyProof.Rows.int_text_len_1921 h
/-- a fraction as a text -/
def sf (s : Rat) : Str := if s.den = 1 then T s.num else T s.num ++ Str.ofString "/" ++ T (s.den : Int)
theorem log_lt {i : Int} {n : Nat} (h : i.natAbs < 2 ^ n) (hn : n ≤ 1900) : i.natAbs.log2 < 1920 := Nat.lt_of_lt_of_le (PySem.Flt.log2_lt_of (k := 1920) (by decide) (Nat.lt_of_lt_of_le h (Nat.pow_le_pow_right (by decide) (by omega)))) (Nat.le_refl _)
theorem sf_len {s : Rat} {n : Nat} (h : Fr.Sz n s) (hn : n ≤ 1900) : (sf s).length ≤ 4000 := by
  have h1 := T_len (log_lt h.1 hn)
  have h2 := T_len (log_lt (i := (s.den : Int)) h.2 hn)
  unfold sf
  split
  · omega
  · rw [Str.length_append, Str.length_append]
    have : (Str.ofString "/").length = 1 := by decide +kernel
    omega
end Cm
namespace Co
open PySem PySem.Spec PyProof.Rows L2 Gx
/-- a contest -/
inductive C
  | bare (ns : List Str)
  | most (ns : List Str) (k : Nat)
  | part (ns : List Str) (s : Rat)
def names : C → List Str
  | .bare ns => ns
  | .most ns _ => ns
  | .part ns _ => ns
def At (K : PySem.W.Frag) (H : Hp) (a : Addr) : C → Prop
  | .bare ns => ∃ dx p, H a = some (.ins (He.ga K "Contest") dx [("names", .ref p)]) ∧ SqT K H p (ns.map V.str)
  | .most ns k => ∃ dx p, H a = some (.ins (He.ga K "Most") dx [("names", .ref p), ("seats", .int (k : Int))]) ∧ SqT K H p (ns.map V.str)
  | .part ns s => ∃ dx p q, H a = some (.ins (He.ga K "Portion") dx [("names", .ref p), ("share", .ref q)]) ∧ SqT K H p (ns.map V.str) ∧ SqT K H q (Fr.fq s)
theorem At.same {K : PySem.W.Frag} {H H' : Hp} (e : Same H H') {a : Addr} : ∀ {c : C}, At K H a c → At K H' a c
  | .bare _, ⟨dx, p, h, g⟩ => ⟨dx, p, e _ _ h, seqT_same e g⟩
  | .most _ _, ⟨dx, p, h, g⟩ => ⟨dx, p, e _ _ h, seqT_same e g⟩
  | .part _ _, ⟨dx, p, q, h, g, g2⟩ => ⟨dx, p, q, e _ _ h, seqT_same e g, seqT_same e g2⟩
theorem At.but {K : PySem.W.Frag} {H H' : Hp} {l : Addr} {ys : List V} (b : But l H H') (hl : H l = some (.lst ys)) {a : Addr} : ∀ {c : C}, At K H a c → At K H' a c
  | .bare _, ⟨dx, p, h, g⟩ => ⟨dx, p, b _ _ (ne_of h hl Cm.ins_lst) h, seqT_but b hl g⟩
  | .most _ _, ⟨dx, p, h, g⟩ => ⟨dx, p, b _ _ (ne_of h hl Cm.ins_lst) h, seqT_but b hl g⟩
  | .part _ _, ⟨dx, p, q, h, g, g2⟩ => ⟨dx, p, q, b _ _ (ne_of h hl Cm.ins_lst) h, seqT_but b hl g, seqT_but b hl g2⟩
/-- how many marks name a name -/
def ct (ms : List (Option Str)) (n : Str) : Int := (ms.countP (Cm.isN n) : Int)
def cts (ns : List Str) (ms : List (Option Str)) : List Int := ns.map (ct ms)
/-- an outcome as it is told -/
def Out (K : PySem.W.Frag) (H : Hp) (v : V) : Option (List Str) → Prop
  | none => v = .non
  | some l => ∃ p, v = .ref p ∧ SqT K H p (l.map V.str)
theorem Out.same {K : PySem.W.Frag} {H H' : Hp} (e : Same H H') {v : V} : ∀ {o : Option (List Str)}, Out K H v o → Out K H' v o
  | none, h => h
  | some _, ⟨p, h, g⟩ => ⟨p, h, seqT_same e g⟩
theorem Out.but {K : PySem.W.Frag} {H H' : Hp} {l : Addr} {ys : List V} (b : But l H H') (hl : H l = some (.lst ys)) {v : V} : ∀ {o : Option (List Str)}, Out K H v o → Out K H' v o
  | none, h => h
  | some _, ⟨p, h, g⟩ => ⟨p, h, seqT_but b hl g⟩
def oD : Option (List Str) → PyData
  | none => .none
  | some l => .tuple (l.map .str)
theorem Out.dp {K : PySem.W.Frag} {H : Hp} {v : V} : ∀ {o : Option (List Str)}, Out K H v o → Dp K H v (oD o)
  | none, h => by rw [show v = .non from h]; exact .non
  | some l, ⟨p, h, g⟩ => by rw [h]; exact .tup g (Dt.strz l)
/-- those with fewer others ahead of them than seats -/
def aheadOf (ns : List Str) (ms : List (Option Str)) (n : Str) : List Str := ns.filter fun o => decide (o ≠ n) && decide (ct ms n ≤ ct ms o)
def inside (ns : List Str) (k : Nat) (ms : List (Option Str)) : List Str := ns.filter fun n => decide ((aheadOf ns ms n).length < k)
def due (ns : List Str) (k : Nat) (ms : List (Option Str)) : Option (List Str) := if (inside ns k ms).length < k then none else some (inside ns k ms)
/-! how many are as great, in a rising list -/
theorem low_cnt {rs : List Int} (h : rs.Pairwise (· ≤ ·)) {i : Nat} {x v : Int} (hx : rs[i]? = some x) (hv : v ≤ x) : rs.length ≤ rs.countP (fun y => decide (v ≤ y)) + i := by
  obtain ⟨hi, e⟩ := List.getElem?_eq_some_iff.mp hx
  have e2 : rs.countP (fun y => decide (v ≤ y)) = (rs.take i).countP (fun y => decide (v ≤ y)) + (rs.drop i).countP (fun y => decide (v ≤ y)) := by rw [← List.countP_append, List.take_append_drop]
  have e3 : (rs.drop i).countP (fun y => decide (v ≤ y)) = (rs.drop i).length := List.countP_eq_length.mpr fun y hy => by
    obtain ⟨j, hj, ej⟩ := List.mem_iff_getElem.mp hy
    rw [List.getElem_drop] at ej
    have hj2 : i + j < rs.length := by rw [List.length_drop] at hj; omega
    have : x ≤ y := by
      rw [← e, ← ej]
      rcases Nat.eq_zero_or_pos j with z | z
      · subst z; exact Int.le_refl _
      · exact List.pairwise_iff_getElem.mp h i (i + j) hi hj2 (by omega)
    exact decide_eq_true (by omega)
  rw [e2, e3, List.length_drop]
  omega
theorem high_cnt {rs : List Int} (h : rs.Pairwise (· ≤ ·)) {i : Nat} {x v : Int} (hx : rs[i]? = some x) (hv : x < v) : rs.countP (fun y => decide (v ≤ y)) + i + 1 ≤ rs.length := by
  obtain ⟨hi, e⟩ := List.getElem?_eq_some_iff.mp hx
  have e2 : rs.countP (fun y => decide (v ≤ y)) = (rs.take (i + 1)).countP (fun y => decide (v ≤ y)) + (rs.drop (i + 1)).countP (fun y => decide (v ≤ y)) := by rw [← List.countP_append, List.take_append_drop]
  have e3 : (rs.take (i + 1)).countP (fun y => decide (v ≤ y)) = 0 := List.countP_eq_zero.mpr fun y hy => by
    obtain ⟨j, hj, ej⟩ := List.mem_iff_getElem.mp hy
    rw [List.getElem_take] at ej
    have hj2 : j < i + 1 := by rw [List.length_take] at hj; omega
    have : y ≤ x := by
      rw [← e, ← ej]
      rcases Nat.lt_or_ge j i with z | z
      · exact List.pairwise_iff_getElem.mp h j i (by omega) hi z
      · have : j = i := by omega
        subst this; exact Int.le_refl _
    simp
    omega
  have e4 := List.countP_le_length (p := fun y => decide (v ≤ y)) (l := rs.drop (i + 1))
  rw [List.length_drop] at e4
  rw [e2, e3]
  omega
theorem cnt_split {α : Type} {p q : α → Bool} : ∀ l : List α, l.countP p = l.countP (fun a => q a && p a) + l.countP (fun a => !q a && p a)
  | [] => rfl
  | a :: r => by
    rw [List.countP_cons, List.countP_cons, List.countP_cons, cnt_split r (q := q)]
    cases p a <;> cases q a <;> simp <;> omega
/-- with one's self, in a list of unlike ones -/
theorem ahead_len {ns : List Str} (nd : ns.Nodup) {ms : List (Option Str)} {n : Str} (hn : n ∈ ns) : (aheadOf ns ms n).length + 1 = (cts ns ms).countP fun y => decide (ct ms n ≤ y) := by
  unfold aheadOf cts
  rw [← List.countP_eq_length_filter, List.countP_map, cnt_split (q := fun o => decide (o ≠ n)) (p := (fun y => decide (ct ms n ≤ y)) ∘ ct ms) ns]
  have e1 : ns.countP (fun a => !decide (a ≠ n) && ((fun y => decide (ct ms n ≤ y)) ∘ ct ms) a) = ns.countP (fun a => a == n) := by
    congr 1
    funext a
    by_cases h : a = n
    · subst h; simp
    · simp [h]
  have e2 : ns.countP (fun a => a == n) = 1 := by
    have h1 : ns.count n = 1 := by rw [List.Nodup.count nd, if_pos hn]
    exact h1
  rw [e1, e2]
  rfl
/-- the outcome, by the rising counts -/
theorem due_none {ns : List Str} (nd : ns.Nodup) {k : Nat} {ms : List (Option Str)} {rs : List Int} {x : Int} (pm : rs.Perm (cts ns ms)) (pw : rs.Pairwise (· ≤ ·)) (k1 : 1 ≤ k) (kn : k < ns.length) (h1 : rs[ns.length - k]? = some x) (h0 : rs[ns.length - k - 1]? = some x) : due ns k ms = none := by
  have hl : rs.length = ns.length := by rw [pm.length_eq]; unfold cts; simp
  have up := high_cnt pw h1 (show x < x + 1 by omega)
  have sub : (inside ns k ms).length ≤ rs.countP (fun y => decide (x + 1 ≤ y)) := by
    have e : rs.countP (fun y => decide (x + 1 ≤ y)) = ns.countP fun n => decide (x + 1 ≤ ct ms n) := by
      rw [pm.countP_eq]
      unfold cts
      rw [List.countP_map]
      rfl
    rw [e]
    unfold inside
    rw [← List.countP_eq_length_filter]
    refine List.countP_mono_left fun n hn h => ?_
    have h := of_decide_eq_true h
    have al := ahead_len nd (ms := ms) hn
    refine decide_eq_true ?_
    rcases (show x < ct ms n ∨ ct ms n ≤ x by omega) with c | c
    · omega
    · have := low_cnt pw h0 c
      rw [pm.countP_eq] at this
      omega
  unfold due
  rw [if_pos (by omega)]
theorem due_some {ns : List Str} (nd : ns.Nodup) {k : Nat} {ms : List (Option Str)} {rs : List Int} {x y : Int} (pm : rs.Perm (cts ns ms)) (pw : rs.Pairwise (· ≤ ·)) (k1 : 1 ≤ k) (kn : k < ns.length) (h1 : rs[ns.length - k]? = some x) (h0 : rs[ns.length - k - 1]? = some y) (ne : y ≠ x) :
    due ns k ms = some (ns.filter fun n => decide (x ≤ ct ms n)) := by
  have hl : rs.length = ns.length := by rw [pm.length_eq]; unfold cts; simp
  have yx : y < x := by
    obtain ⟨i0, e0⟩ := List.getElem?_eq_some_iff.mp h0
    obtain ⟨i1, e1⟩ := List.getElem?_eq_some_iff.mp h1
    have := List.pairwise_iff_getElem.mp pw (ns.length - k - 1) (ns.length - k) i0 i1 (by omega)
    omega
  have lo := low_cnt pw h1 (Int.le_refl x)
  have hi := high_cnt pw h0 yx
  have e : rs.countP (fun z => decide (x ≤ z)) = ns.countP fun n => decide (x ≤ ct ms n) := by
    rw [pm.countP_eq]
    unfold cts
    rw [List.countP_map]
    rfl
  have ei : inside ns k ms = ns.filter fun n => decide (x ≤ ct ms n) := by
    unfold inside
    refine List.filter_congr fun n hn => ?_
    have al := ahead_len nd (ms := ms) hn
    rw [← pm.countP_eq] at al
    rw [decide_eq_decide]
    constructor
    · intro h
      rcases (show ct ms n < x ∨ x ≤ ct ms n by omega) with c | c
      · have c2 : ct ms n ≤ y ∨ y < ct ms n := by omega
        rcases c2 with c2 | c2
        · have := low_cnt pw h0 c2
          omega
        · -- between y and x: as many as from x on
          have e3 : rs.countP (fun z => decide (ct ms n ≤ z)) ≥ rs.countP (fun z => decide (x ≤ z)) + 1 := by
            have hm : ct ms n ∈ rs := pm.symm.mem_iff.mp (List.mem_map_of_mem hn)
            obtain ⟨j, hj, ej⟩ := List.mem_iff_getElem.mp hm
            have gj : rs[j]? = some (ct ms n) := by rw [List.getElem?_eq_getElem hj, ej]
            rcases Nat.lt_or_ge j (ns.length - k) with z | z
            · have := low_cnt pw gj (Int.le_refl _)
              have := high_cnt pw h0 yx
              omega
            · have : x ≤ ct ms n := by
                obtain ⟨i1, e1⟩ := List.getElem?_eq_some_iff.mp h1
                rcases Nat.eq_or_lt_of_le z with w | w
                · have : x = ct ms n := Option.some.inj (h1.symm.trans (by rw [w]; exact gj))
                  omega
                · have := List.pairwise_iff_getElem.mp pw (ns.length - k) j i1 hj w
                  omega
              omega
          omega
      · exact c
    · intro h
      have e4 : rs.countP (fun z => decide (ct ms n ≤ z)) ≤ rs.countP (fun z => decide (x ≤ z)) := List.countP_mono_left fun z _ hz => decide_eq_true (by have := of_decide_eq_true hz; omega)
      omega
  unfold due
  rw [ei, if_neg]
  rw [← List.countP_eq_length_filter]
  omega
/-- the count's own reading -/
theorem k_cnt {K : PySem.W.Frag} {H : Hp} {Q : VK} {p : Addr} {ms : List (Option Str)} {n : Str} (h : SqT K H p (ms.map Cm.mv)) (q : Q (.int (ct ms n)) H) : rCntT K (.ref p) (.str n) H Q := by
  obtain ⟨h1, h2⟩ := Cm.plain_md ms
  refine k_cntTx h (Cm.dpAll_mv ms) (.str n) h1 rfl (by omega) ?_
  rw [Cm.cnt_md]
  exact q
theorem k_cntL {K : PySem.W.Frag} {H : Hp} {Q : VK} {p : Addr} {ms : List (Option Str)} {n : Str} (h : SqL K H p (ms.map Cm.mv)) (q : Q (.int (ct ms n)) H) : rCntL K (.ref p) [.str n] H Q := Cm.k_cntM h q
theorem ct_le {ms : List (Option Str)} {n : Str} : 0 ≤ ct ms n ∧ ct ms n ≤ ms.length := by
  unfold ct
  have := List.countP_le_length (p := Cm.isN n) (l := ms)
  omega
theorem ct_rev (ms : List (Option Str)) (n : Str) : ct ms.reverse n = ct ms n := by
  unfold ct
  rw [List.countP_reverse]
theorem due_rev (ns : List Str) (k : Nat) (ms : List (Option Str)) : due ns k ms.reverse = due ns k ms := by
  have : ct ms.reverse = ct ms := funext (ct_rev ms)
  unfold due inside aheadOf
  rw [this]
theorem mk_names {ns : List Str} {H : Hp} {K : PySem.W.Frag} {p : Addr} (h : H p = some (.tup (ns.map V.str))) : SqT K H p (ns.map V.str) := SqT.of h
end Co
namespace Co
open PySem PySem.Spec PyProof.Rows L2 Gx
theorem sh_names {ns : List Str} (h : ∀ s ∈ ns, Pl.Nm s) : SeqAt.shaped (.tuple (ns.map .str)) = true := Dt.Sh.ok (k := 1) (Dt.sh_tup fun x hx => by
  obtain ⟨s, hs, rfl⟩ := List.mem_map.mp hx
  exact Dt.sh_str (h s hs).ok)
theorem due_sub {ns : List Str} {k : Nat} {ms : List (Option Str)} {o : List Str} (h : due ns k ms = some o) : ∀ s ∈ o, s ∈ ns := fun s hs => by
  unfold due at h
  split at h
  · cases h
  · rw [← Option.some.inj h] at hs
    exact (List.mem_filter.mp hs).1
/-! more than a share -/
def shareOut (ns : List Str) (s : Rat) (ms : List (Option Str)) : List Str := ns.filter fun n => decide (s.num * (cts ns ms).sum < ct ms n * (s.den : Int))
theorem sum_le {ms : List (Option Str)} : ∀ {ns : List Str}, 0 ≤ (cts ns ms).sum ∧ (cts ns ms).sum ≤ ((ns.length * ms.length : Nat) : Int)
  | [] => by simp [cts]
  | n :: r => by
    have ih := sum_le (ms := ms) (ns := r)
    have h := ct_le (ms := ms) (n := n)
    have e : (cts (n :: r) ms).sum = ct ms n + (cts r ms).sum := by simp [cts]
    rw [e, List.length_cons, Nat.succ_mul]
    omega
theorem cnt_or {P Q R : Option Str → Bool} : ∀ {ms : List (Option Str)}, (∀ m, P m = (Q m || R m)) → (∀ m, Q m = true → R m = false) → ms.countP P = ms.countP Q + ms.countP R
  | [], _, _ => rfl
  | m :: r, h, g => by
    have ih := cnt_or (ms := r) h g
    have gm := g m
    rw [List.countP_cons, List.countP_cons, List.countP_cons, ih, h m]
    cases e : Q m <;> cases e2 : R m <;> simp
    · omega
    · omega
    · rw [gm e] at e2; cases e2
theorem sum_cts {ms : List (Option Str)} : ∀ {ns : List Str}, ns.Nodup → (cts ns ms).sum = (ms.countP (Cm.inN ns) : Int)
  | [], _ => by
    have : ms.countP (Cm.inN []) = 0 := List.countP_eq_zero.mpr fun m _ => by simp [Cm.inN]
    rw [this]
    rfl
  | n :: r, nd => by
    have nd2 := List.nodup_cons.mp nd
    have ih := sum_cts (ms := ms) nd2.2
    have e : (cts (n :: r) ms).sum = ct ms n + (cts r ms).sum := by simp [cts]
    have k : ms.countP (Cm.inN (n :: r)) = ms.countP (Cm.isN n) + ms.countP (Cm.inN r) := cnt_or (fun m => by
      rw [Bool.eq_iff_iff]
      simp only [Cm.inN, Cm.isN, Bool.or_eq_true, decide_eq_true_eq, List.mem_cons]
      constructor
      · rintro ⟨k, e | h, z⟩
        · exact .inl (by rw [z, e])
        · exact .inr ⟨k, h, z⟩
      · rintro (z | ⟨k, h, z⟩)
        · exact ⟨n, .inl rfl, z⟩
        · exact ⟨k, .inr h, z⟩) (fun m h => by
      have h : m = some n := of_decide_eq_true h
      refine decide_eq_false ?_
      rintro ⟨k, hk, z⟩
      rw [h] at z
      exact nd2.1 (Option.some.inj z ▸ hk))
    rw [e, ih, k]
    unfold ct
    omega
theorem ct_more {ns : List Str} (hnm : ∀ s ∈ ns, Pl.Nm s) {xs ms : List (Option Str)} (hx : ∀ m ∈ xs, m = none ∨ m = some (Str.ofString "")) : cts ns (xs ++ ms) = cts ns ms := by
  unfold cts
  refine List.map_congr_left fun n hn => ?_
  unfold ct
  rw [List.countP_append]
  have : xs.countP (Cm.isN n) = 0 := List.countP_eq_zero.mpr fun m hm => by
    rcases hx m hm with e | e
    · rw [e]; simp [Cm.isN]
    · rw [e]
      have := Cm.ne_e (hnm n hn)
      simp [Cm.isN]
      exact fun z => this z.symm
  rw [this]
  omega
theorem shareOut_congr {ns : List Str} {s : Rat} {us ms : List (Option Str)} (h : cts ns us = cts ns ms) : shareOut ns s us = shareOut ns s ms := by
  unfold shareOut
  rw [h]
  refine List.filter_congr fun n hn => ?_
  have e : ct us n = ct ms n := by
    obtain ⟨i, hi, e⟩ := List.mem_iff_getElem.mp hn
    have h2 := congrArg (fun l => l[i]?) h
    simp only [cts, List.getElem?_map, List.getElem?_eq_getElem hi, Option.map_some, e] at h2
    exact Option.some.inj h2
  rw [e]
theorem cts_rev (ns : List Str) (ms : List (Option Str)) : cts ns ms.reverse = cts ns ms := by
  unfold cts
  exact List.map_congr_left fun n _ => ct_rev ms n
end Co
namespace Co
open PySem PySem.Spec PyProof.Rows L2 Gx
/-! claims of outcomes -/
def has (os : List Str) (n : Str) : Bool := Cm.inN os (some n)
theorem has_iff {os : List Str} {n : Str} : has os n = true ↔ n ∈ os := by
  unfold has Cm.inN
  rw [decide_eq_true_eq]
  constructor
  · rintro ⟨k, h, e⟩
    rw [Option.some.inj e]; exact h
  · intro h
    exact ⟨n, h, rfl⟩
theorem k_has {K : PySem.W.Frag} {H : Hp} {Q : VK} {p : Addr} {os : List Str} {n : Str} (h : SqL K H p (os.map V.str) ∨ SqT K H p (os.map V.str)) (q : Q (.bl (has os n)) H) : rInU K (.str n) (.ref p) H Q := k_in h rfl (Cm.flat_strs os) (Cm.in_mv (some n) os) q
theorem k_nothas {K : PySem.W.Frag} {H : Hp} {Q : VK} {p : Addr} {os : List Str} {n : Str} (h : SqL K H p (os.map V.str) ∨ SqT K H p (os.map V.str)) (q : Q (.bl (!has os n)) H) : rNiU K (.str n) (.ref p) H Q := k_ni h rfl (Cm.flat_strs os) (Cm.in_mv (some n) os) q
def fit (ns : List Str) (k : Nat) (os : List Str) : Prop := os.length = k ∧ os = ns.filter (has os)
theorem eqv_strs : ∀ xs ys : List Str, PyData.eqvAll (xs.map .str) (ys.map .str) = decide (xs = ys)
  | [], [] => by simp [PyData.eqvAll]
  | [], y :: ys => by simp [PyData.eqvAll]
  | x :: xs, [] => by simp [PyData.eqvAll]
  | x :: xs, y :: ys => by
    rw [List.map_cons, List.map_cons]
    simp only [PyData.eqvAll, eqv_strs xs ys]
    by_cases h : x = y <;> by_cases g : xs = ys <;> simp [PyData.eqv, h, g]
theorem eqv_tup (xs ys : List Str) : PyData.eqv (.tuple (xs.map .str)) (.tuple (ys.map .str)) = decide (xs = ys) := by
  rw [← eqv_strs]
  simp [PyData.eqv]
theorem eqv_lst (xs ys : List Str) : PyData.eqv (.list (xs.map .str)) (.list (ys.map .str)) = decide (xs = ys) := by
  rw [← eqv_strs]
  simp [PyData.eqv]
/-- the claims of an outcome -/
def mostA (ns os xs : List Str) : List Cm.C := xs.flatMap fun o => (ns.filter fun t => !has os t).map fun t => .beats o t
def mostC (ns os : List Str) : List Cm.C := mostA ns os os
def partC (ns : List Str) (s : Rat) (os : List Str) : List Cm.C := if os = [] then ns.map (.under · s) else os.map (.over · s)
/-- claims at some addresses -/
def Cls (K : PySem.W.Frag) (H : Hp) (vs : List V) (cs : List Cm.C) : Prop := PySem.Paired (fun v c => ∃ a, v = V.ref a ∧ Cm.At K H a c) vs cs
theorem Cls.same {K : PySem.W.Frag} {H H' : Hp} (e : Same H H') : ∀ {vs : List V} {cs : List Cm.C}, Cls K H vs cs → Cls K H' vs cs
  | _, _, .nil => .nil
  | _, _, .cons ⟨a, h, g⟩ r => .cons ⟨a, h, g.same e⟩ (Cls.same e r)
theorem Cls.but {K : PySem.W.Frag} {H H' : Hp} {l : Addr} {ys : List V} (b : But l H H') (hl : H l = some (.lst ys)) : ∀ {vs : List V} {cs : List Cm.C}, Cls K H vs cs → Cls K H' vs cs
  | _, _, .nil => .nil
  | _, _, .cons ⟨a, h, g⟩ r => .cons ⟨a, h, g.but b hl⟩ (Cls.but b hl r)
theorem Cls.snoc {K : PySem.W.Frag} {H : Hp} {a : Addr} {c : Cm.C} (h : Cm.At K H a c) : ∀ {vs : List V} {cs : List Cm.C}, Cls K H vs cs → Cls K H (vs ++ [.ref a]) (cs ++ [c])
  | _, _, .nil => .cons ⟨a, rfl, h⟩ .nil
  | _, _, .cons x r => .cons x (Cls.snoc h r)
theorem Cls.len {K : PySem.W.Frag} {H : Hp} {vs : List V} {cs : List Cm.C} (h : Cls K H vs cs) : vs.length = cs.length := PySem.Paired.length h
theorem Cls.get {K : PySem.W.Frag} {H : Hp} : ∀ {vs : List V} {cs : List Cm.C} {i : Nat} {v : V}, Cls K H vs cs → vs[i]? = some v → ∃ a c, v = .ref a ∧ cs[i]? = some c ∧ Cm.At K H a c
  | _, _, 0, v, .cons (b := c) ⟨a, h1, h2⟩ r, e => ⟨a, c, (Option.some.inj e).symm.trans h1, rfl, h2⟩
  | _, _, i + 1, v, .cons ⟨a, h1, h2⟩ r, e => Cls.get (i := i) r e
theorem most_len {ns os xs : List Str} : (mostA ns os xs).length ≤ xs.length * ns.length := by
  unfold mostA
  rw [List.length_flatMap]
  have h : ∀ l : List Str, (l.map fun o => ((ns.filter fun t => !has os t).map fun t => Cm.C.beats o t).length).sum ≤ l.length * ns.length := fun l => by
    induction l with
    | nil => simp
    | cons o r ih =>
      rw [List.map_cons, List.sum_cons, List.length_cons, Nat.succ_mul]
      have : ((ns.filter fun t => !has os t).map fun t => Cm.C.beats o t).length ≤ ns.length := by rw [List.length_map]; exact List.length_filter_le ..
      omega
  exact h xs
/-- some of the names, in their order -/
theorem sub_filter : ∀ {ns os : List Str}, os.Sublist ns → ns.Nodup → os = ns.filter (has os)
  | [], os, h, _ => by rw [List.sublist_nil.mp h]; rfl
  | n :: r, os, h, nd => by
    have nd2 := List.nodup_cons.mp nd
    cases h with
    | cons _ h2 =>
      have ih := sub_filter h2 nd2.2
      have : has os n = false := by
        cases e : has os n with
        | false => rfl
        | true => exact absurd (h2.subset (has_iff.mp e)) nd2.1
      rw [List.filter_cons, this]
      exact ih
    | cons_cons _ h2 =>
      rename_i t
      have ih := sub_filter h2 nd2.2
      have : has (n :: t) n = true := has_iff.mpr (List.mem_cons_self ..)
      rw [List.filter_cons, if_pos this]
      have e : r.filter (has (n :: t)) = r.filter (has t) := List.filter_congr fun x hx => by
        rw [Bool.eq_iff_iff, has_iff, has_iff, List.mem_cons]
        constructor
        · rintro (z | z)
          · exact absurd (z ▸ hx) nd2.1
          · exact z
        · exact .inr
      rw [e, ← ih]
end Co
namespace Co
open PySem PySem.Spec PyProof.Rows L2 Gx
/-! claims as texts -/
def word : Cm.C → Str
  | .claim => "none"
  | .beats _ _ => "beats"
  | .over _ _ => "over"
  | .under _ _ => "under"
def shown : Cm.C → Str
  | .claim => "nothing"
  | .beats o t => o ++ Str.ofString " beats " ++ t
  | .over n s => n ++ Str.ofString " over " ++ Cm.sf s
  | .under n s => n ++ Str.ofString " under " ++ Cm.sf s
def Short : Cm.C → Prop
  | .claim => True
  | .beats o t => o.length ≤ 1000 ∧ t.length ≤ 1000
  | .over n s => n.length ≤ 1000 ∧ Fr.Sz 20 s
  | .under n s => n.length ≤ 1000 ∧ Fr.Sz 20 s
end Co
/-! tuples with an empty dict among their things, beside texts -/
namespace Mx
open PySem PySem.Spec PyProof.Rows L2 Gx PySem.SeqAt
section
variable {A : Around} {s : Shared}
theorem deq_str (b : Str) (u : Tok) {l : Addr} (hl : s.TypeIs (.ref l) "dict") (prog : Program) (w : World) (E : Value → Shared → Prop) (Q : Value → Shared → Prop) (hq : Q .notImplemented s) : wpAny (model prog w) A (call (.builtin "dict.__eq__") [.ref l, .str b u]) Q E s := by
  refine wpAny_call_entry PySem.F.slot_dict_eq hl PySem.F.entry_dict_eq ?_ (PySem.F.args_dict_eq_2 _ _)
  show wpAny _ _ (Builtin.Dict.dictSlotArgs "__eq__" ⟨[.ref l, .str b u], []⟩ >>= _) _ _ s
  refine wpAny_bind ?_
  unfold Builtin.Dict.dictSlotArgs
  refine wpAny_bind (wpAny_notOrdered_dict hl ?_)
  show wpAny _ _ (pure (Value.ref l, Value.str b u)) _ _ s
  refine wpAny_pure ?_
  refine wpAny_bind (wpAny_isInstance (T := "str") (typeIs_str s b u) PySem.F.sub_str_dict ?_)
  simp only [Bool.not_false, if_true]
  refine wpAny_bind (wpAny_rule ?_)
  exact wpAny_bind (wpAny_pure (wpAny_pure ⟨_, rfl, hq⟩))
theorem seq_dict (b : Str) (u : Tok) (l : Addr) (cc : Value) (dd : Option Addr) (es : Array DictEntry) (ep : Nat) (sl : Array (Option Value)) :
    Meets (Builtin.«str.__eq__» ⟨[.str b u, .ref l], []⟩) (fun _ R s => s.heap.get? l = some { cls := cc, dict := dd, data := .dict es ep, slots := sl } ∧ R (.ok (.ret .notImplemented)) s) :=
  .of_wp fun prog w A R s h => by
    obtain ⟨hp, g, d, tk, os⟩ := s
    obtain ⟨hl, h⟩ := h
    wp_walk using wpAny_loadPart' hl, wpAny_load hl
    exact ⟨_, rfl, h⟩
/-- an empty dict -/
def IsD (h : Heap) (l : Addr) : Prop := ∃ dd es ep sl, h.get? l = some { cls := .type "dict", dict := dd, data := .dict es ep, slots := sl }
theorem IsD.ty {l : Addr} (h : IsD s.heap l) : s.TypeIs (.ref l) "dict" := by
  obtain ⟨_, _, _, _, h⟩ := h
  exact ⟨_, h, rfl⟩
theorem rc_ds (b : Str) (u : Tok) {l : Addr} (hl : IsD s.heap l) (hu : A.units < cLine) : RcAt A s (.ref l) (.str b u) false := fun prog w E Q h => by
  obtain ⟨dd, es, ep, sl, ho⟩ := id hl
  exact rc_eq_decline_or (k := false) hl.ty (typeIs_str s b u) (by decide) PySem.F.sub_str_dict PySem.F.slot_dict_eq PySem.F.slot_str_eq_refl
    (fun Q' hq => deq_str b u hl.ty prog w E Q' hq)
    (fun _ hq => call_meets PySem.F.slot_str_eq_refl (typeIs_str s b u) PySem.F.entry_str_eq (PySem.F.args_str_eq_2 _ _) (seq_dict b u l _ dd es ep sl) ⟨ho, hq⟩)
    (fun _ hq => wpAny_of_eq (rfl : isSame (.ref l) (.str b u) = pure false) hq) (.inr hu) h
theorem eq_ds (b : Str) (u : Tok) {l : Addr} (hl : IsD s.heap l) (hu : A.units < cLine) : EqAt A s (.ref l) (.str b u) false := fun prog w E Q h => by
  unfold eqBool
  refine wpAny_holding ?_
  refine wpAny_ite_split (fun hab => absurd (eq_of_beq hab) nofun) (fun _ => ?_)
  exact wpAny_bind (rc_ds b u hl hu prog w E _ (wpAny_truthy_bool h))
theorem rc_sd (b : Str) (u : Tok) {l : Addr} (hl : IsD s.heap l) (hu : A.units < cLine) : RcAt A s (.str b u) (.ref l) false := fun prog w E Q h => by
  obtain ⟨dd, es, ep, sl, ho⟩ := id hl
  exact rc_eq_decline_or (k := false) (typeIs_str s b u) hl.ty (by decide) PySem.F.sub_dict_str PySem.F.slot_str_eq PySem.F.slot_dict_eq_refl
    (fun _ hq => call_meets PySem.F.slot_str_eq (typeIs_str s b u) PySem.F.entry_str_eq (PySem.F.args_str_eq_2 _ _) (seq_dict b u l _ dd es ep sl) ⟨ho, hq⟩)
    (fun Q' hq => deq_str b u hl.ty prog w E Q' hq)
    (fun _ hq => wpAny_of_eq (rfl : isSame (.str b u) (.ref l) = pure false) hq) (.inr hu) h
theorem eq_sd (b : Str) (u : Tok) {l : Addr} (hl : IsD s.heap l) (hu : A.units < cLine) : EqAt A s (.str b u) (.ref l) false := fun prog w E Q h => by
  unfold eqBool
  refine wpAny_holding ?_
  refine wpAny_ite_split (fun hab => absurd (eq_of_beq hab) nofun) (fun _ => ?_)
  exact wpAny_bind (rc_sd b u hl hu prog w E _ (wpAny_truthy_bool h))
end
/-- two things, compared: data, or an empty dict with a text -/
inductive Ceq (K : PySem.W.Frag) (H : Hp) : V → V → Bool → Prop
  | dat {y x : V} {d e : PyData} (hy : Dp K H y d) (hx : Dp K H x e) (s1 : SeqAt.shaped d = true) (s2 : SeqAt.shaped e = true) : Ceq K H y x (PyData.eqv d e)
  | ds {a : Addr} (b : Str) (h : H a = some (.dK [])) : Ceq K H (.ref a) (.str b) false
  | sd {a : Addr} (b : Str) (h : H a = some (.dK [])) : Ceq K H (.str b) (.ref a) false
section
variable {X : Cx} {pins : List (Addr × Obj)} {σ : L2.St} {H : Hp} {s : Shared}
theorem isD (I : Inv X pins σ H s) {a : Addr} (h : H a = some (.dK [])) : IsD s.heap a := by
  obtain ⟨_, hd, vs, rel, o, es, ep, eo, exd, hdat, hes, hv⟩ := dk_of I.hok h
  obtain ⟨cls, dd, dat, sl⟩ := o
  obtain ⟨e1, e2⟩ := exd
  simp only at e1 e2 hdat
  subst e1
  subst hdat
  exact ⟨dd, es, ep, sl, eo⟩
theorem Ceq.at (I : Inv X pins σ H s) (hu : X.A.units + 65 < cLine) {y x : V} {b : Bool} (h : Ceq X.K H y x b) {u v : Value} (ru : RelV y u) (rv : RelV x v) : EqAt X.A.in1 s u v b := by
  have hu1 : X.A.in1.units + 64 < cLine := by rw [Around.in1_units]; omega
  cases h with
  | dat hy hx s1 s2 =>
    obtain ⟨as, r1⟩ := Dp.reads I _ _ u hy ru
    obtain ⟨bs, r2⟩ := Dp.reads I _ _ v hx rv
    exact SeqAt.eqAt_reads _ _ X.A.in1 s u v as bs r1 r2 (SeqAt.canLay_of_shaped s1) (SeqAt.canLay_of_shaped s2) (SeqAt.room_of_shaped s1 hu1)
  | ds b h =>
    obtain ⟨tk, rfl⟩ := (show ∃ tk, v = Value.str b tk from rv)
    obtain rfl : u = Value.ref _ := ru
    exact eq_ds b tk (isD I h) (by omega)
  | sd b h =>
    obtain ⟨tk, rfl⟩ := (show ∃ tk, u = Value.str b tk from ru)
    obtain rfl : v = Value.ref _ := rv
    exact eq_sd b tk (isD I h) (by omega)
end
theorem paired_atM {α β : Type} {R : α → β → Prop} : ∀ {as : List α} {bs : List β} {i : Nat}, Paired R as bs → i < as.length → ∃ a b, as[i]? = some a ∧ bs[i]? = some b ∧ R a b
  | _, _, 0, .cons h _, _ => ⟨_, _, rfl, rfl, h⟩
  | _, _, i + 1, .cons _ r, l => paired_atM (i := i) r (by simpa using l)
theorem paired_lenM {α β : Type} {R : α → β → Prop} : ∀ {as : List α} {bs : List β}, Paired R as bs → as.length = bs.length
  | _, _, .nil => rfl
  | _, _, .cons _ r => by rw [List.length_cons, List.length_cons, paired_lenM r]
/-- things, each compared with one -/
def CeqL (K : PySem.W.Frag) (H : Hp) (x : V) (xs : List V) (bs : List Bool) : Prop := Paired (fun y b => Ceq K H y x b) xs bs
def rInM (K : PySem.W.Frag) (neg : Bool) : R2 := fun x y H Q => ∃ p xs bs, y = .ref p ∧ SqT K H p xs ∧ CeqL K H x xs bs ∧ Q (.bl (if neg then !bs.any id else bs.any id)) H
theorem vals_get : ∀ {xs : List V} {us : List Value} {j : Nat} {u : Value}, Vals xs us → us[j]? = some u → ∃ x, xs[j]? = some x ∧ RelV x u
  | _, _, j, u, .nil, h => by simp at h
  | _, _, 0, u, .cons r _, h => by
    obtain rfl := Option.some.inj h
    exact ⟨_, rfl, r⟩
  | _, _, j + 1, u, .cons _ t, h => vals_get (j := j) t h
theorem vals_len : ∀ {xs : List V} {us : List Value}, Vals xs us → us.length = xs.length
  | _, _, .nil => rfl
  | _, _, .cons _ t => by rw [List.length_cons, List.length_cons, vals_len t]
open Classical in
/-- which value is alike -/
noncomputable def eF (us : List Value) (bs : List Bool) (w : Value) : Bool := decide (∃ i : Nat, us[i]? = some w ∧ bs[i]? = some true)
open Classical in
theorem eF_iff {us : List Value} {bs : List Bool} {w : Value} : eF us bs w = true ↔ ∃ i : Nat, us[i]? = some w ∧ bs[i]? = some true := by
  unfold eF
  exact decide_eq_true_iff
theorem eF_any {us : List Value} {bs : List Bool} (h : us.length = bs.length) : us.any (eF us bs) = bs.any id := by
  cases e : bs.any id with
  | true =>
    obtain ⟨b, hb, hb2⟩ := List.any_eq_true.mp e
    obtain ⟨i, hi, e2⟩ := List.getElem_of_mem hb
    rw [List.any_eq_true]
    refine ⟨us[i]'(by omega), List.getElem_mem _, ?_⟩
    refine eF_iff.mpr ⟨i, List.getElem?_eq_getElem _, ?_⟩
    rw [List.getElem?_eq_getElem hi, e2]
    exact congrArg some hb2
  | false =>
    rw [List.any_eq_false] at e ⊢
    intro w hw z
    obtain ⟨i, _, h2⟩ := eF_iff.mp z
    exact e true (List.mem_of_getElem? h2) rfl
theorem eF_at {X : Cx} {pins : List (Addr × Obj)} {σ : L2.St} {H : Hp} {s : Shared} (I : Inv X pins σ H s) (hu : X.A.units + 65 < cLine) {x : V} {v : Value} (rx : RelV x v) {xs : List V} {us : List Value} {bs : List Bool} (r : Vals xs us) (h : CeqL X.K H x xs bs) : ∀ w ∈ us, EqAt X.A.in1 s w v (eF us bs w) := fun w hw => by
  have key : ∀ (i : Nat) (b : Bool), us[i]? = some w → bs[i]? = some b → EqAt X.A.in1 s w v b := fun i b h1 h2 => by
    obtain ⟨y, hy, ry⟩ := vals_get r h1
    obtain ⟨y', b', e1, e2, c⟩ := paired_atM h (List.getElem?_eq_some_iff.mp hy).1
    rw [hy] at e1
    obtain rfl := Option.some.inj e1
    rw [h2] at e2
    obtain rfl := Option.some.inj e2
    exact c.at I hu ry rx
  obtain ⟨j, hj, e⟩ := List.getElem_of_mem hw
  have lx := vals_len r
  have lb := paired_lenM h
  have h1 : us[j]? = some w := by rw [List.getElem?_eq_getElem hj, e]
  have h2 : bs[j]? = some (bs[j]'(by omega)) := List.getElem?_eq_getElem _
  cases q : eF us bs w with
  | true =>
    obtain ⟨i, q1, q2⟩ := eF_iff.mp q
    exact key i true q1 q2
  | false =>
    cases b : bs[j]'(by omega) with
    | true => rw [b] at h2; rw [eF_iff.mpr ⟨j, h1, h2⟩] at q; cases q
    | false => rw [b] at h2; exact key j false h1 h2
theorem op_inM {X : Cx} (hu : X.A.units + 65 < cLine) : OpR X (compareOp .In) (rInM X.K false) := by
  intro pins s σ H x y v u Q I rx ry h
  obtain ⟨p, xs, bs, rfl, hq, hc, q⟩ := h
  cases ry
  obtain ⟨its, r, pl, hz⟩ := I.tuple hq
  have lb : its.length = bs.length := by rw [vals_len r, paired_lenM hc]
  refine SeqAt.in_tupleAt (eF its bs) pl (fun w hw => eF_at I hu rx r hc w (by simpa using hw)) ⟨.bl _, H, I, rfl, ?_⟩
  rw [show its.toArray.any (eF its bs) = its.any (eF its bs) by simp, eF_any lb]
  exact q
theorem op_niM {X : Cx} (hu : X.A.units + 65 < cLine) : OpR X (compareOp .NotIn) (rInM X.K true) := by
  intro pins s σ H x y v u Q I rx ry h
  obtain ⟨p, xs, bs, rfl, hq, hc, q⟩ := h
  cases ry
  obtain ⟨its, r, pl, hz⟩ := I.tuple hq
  have lb : its.length = bs.length := by rw [vals_len r, paired_lenM hc]
  refine SeqAt.notIn_tupleAt (eF its bs) pl (fun w hw => eF_at I hu rx r hc w (by simpa using hw)) ⟨.bl _, H, I, rfl, ?_⟩
  rw [show its.toArray.any (eF its bs) = its.any (eF its bs) by simp, eF_any lb]
  exact q
/-- tuples of unlike lengths: never alike -/
def rLenT (K : PySem.W.Frag) (r : Bool) : R2 := fun x y H Q => ∃ a b xs ys, x = .ref a ∧ y = .ref b ∧ SqT K H a xs ∧ SqT K H b ys ∧ xs.length ≠ ys.length ∧ (∀ (j : Nat) x y, xs[j]? = some x → ys[j]? = some y → ∃ c, Ceq K H x y c) ∧ Q (.bl r) H
theorem lenT_at {X : Cx} {pins : List (Addr × Obj)} {σ : L2.St} {H : Hp} {s : Shared} (I : Inv X pins σ H s) (hu : X.A.units + 65 < cLine) {xs ys : List V} {us vs : List Value} (rx : Vals xs us) (ry : Vals ys vs) (h : ∀ (j : Nat) x y, xs[j]? = some x → ys[j]? = some y → ∃ c, Ceq X.K H x y c) : ∃ e : Nat → Bool, ∀ j (h1 : j < us.toArray.size) (h2 : j < vs.toArray.size), EqAt X.A.in1 s us.toArray[j] vs.toArray[j] (e j) := by
  have : ∀ j : Nat, ∃ c : Bool, ∀ (h1 : j < us.toArray.size) (h2 : j < vs.toArray.size), EqAt X.A.in1 s us.toArray[j] vs.toArray[j] c := fun j => by
    by_cases c : j < us.length ∧ j < vs.length
    · obtain ⟨x, hx, r1⟩ := vals_get rx (List.getElem?_eq_getElem c.1)
      obtain ⟨y, hy, r2⟩ := vals_get ry (List.getElem?_eq_getElem c.2)
      obtain ⟨b, hb⟩ := h j x y hx hy
      exact ⟨b, fun _ _ => by simpa using hb.at I hu r1 r2⟩
    · exact ⟨false, fun h1 h2 => absurd ⟨by simpa using h1, by simpa using h2⟩ c⟩
  exact ⟨fun j => Classical.choose (this j), fun j => Classical.choose_spec (this j)⟩
theorem op_eqM {X : Cx} (hu : X.A.units + 65 < cLine) : OpR X (compareOp .Eq) (rLenT X.K false) := by
  intro pins s σ H x y v u Q I rx ry h
  obtain ⟨a, b, xs, ys, rfl, rfl, hx, hy, hl, hc, q⟩ := h
  cases rx
  cases ry
  obtain ⟨us, r1, p1, _⟩ := I.tuple hx
  obtain ⟨vs, r2, p2, _⟩ := I.tuple hy
  obtain ⟨e, he⟩ := lenT_at I hu r1 r2 hc
  refine SeqAt.eq_tupleAt p1 p2 (by omega) he ⟨.bl _, H, I, rfl, ?_⟩
  rw [show (us.toArray.size == vs.toArray.size) = false by
    rw [beq_eq_false_iff_ne]
    simp only [List.size_toArray, vals_len r1, vals_len r2]
    exact hl, Bool.and_false]
  exact q
theorem op_neM {X : Cx} (hu : X.A.units + 65 < cLine) : OpR X (compareOp .NotEq) (rLenT X.K true) := by
  intro pins s σ H x y v u Q I rx ry h
  obtain ⟨a, b, xs, ys, rfl, rfl, hx, hy, hl, hc, q⟩ := h
  cases rx
  cases ry
  obtain ⟨us, r1, p1, _⟩ := I.tuple hx
  obtain ⟨vs, r2, p2, _⟩ := I.tuple hy
  obtain ⟨e, he⟩ := lenT_at I hu r1 r2 hc
  refine SeqAt.RcNeAt.tuples p1 p2 (by omega) he _ _ _ _ ⟨.bl _, H, I, rfl, ?_⟩
  rw [show (us.toArray.size == vs.toArray.size) = false by
    rw [beq_eq_false_iff_ne]
    simp only [List.size_toArray, vals_len r1, vals_len r2]
    exact hl, Bool.and_false]
  exact q
end Mx
namespace Mx
open PySem PySem.Spec PyProof.Rows L2 Gx
/-- what stands in an outcome that is told: a text, or another thing; P: what its lists are -/
inductive It (K : PySem.W.Frag) (H : Hp) (P : Addr → Prop) : V → Option Str → Prop
  | str {b : Str} (h : PyData.strOk b = true) : It K H P (.str b) (some b)
  | non : It K H P .non none
  | int (i : Int) : It K H P (.int i) none
  | bl (b : Bool) : It K H P (.bl b) none
  | tup {p : Addr} {b : Str} (h : SqT K H p [.str b]) (o : PyData.strOk b = true) : It K H P (.ref p) none
  | lst {p : Addr} {b : Str} (h : H p = some (.lst [.str b])) (n : P p) (o : PyData.strOk b = true) : It K H P (.ref p) none
  | dct {p : Addr} (h : H p = some (.dK [])) : It K H P (.ref p) none
section
variable {K : PySem.W.Frag} {H H' : Hp} {l : Addr} {P : Addr → Prop} {x v : V} {o : Option Str}
theorem It.but (h : It K H P x o) (e : But l H H') {ys : List V} (hl : H l = some (.lst ys)) (nP : ∀ x, P x → x ≠ l) : It K H' P x o := by
  cases h with
  | str h => exact .str h
  | non => exact .non
  | int i => exact .int i
  | bl b => exact .bl b
  | tup h o => exact .tup (seqT_but e hl h) o
  | lst h n o => exact .lst (e _ _ (nP _ n) h) n o
  | dct h => exact .dct (e _ _ (fun z => by subst z; rw [hl] at h; cases h) h)
theorem It.same (h : It K H P x o) (e : Same H H') : It K H' P x o := by
  cases h with
  | str h => exact .str h
  | non => exact .non
  | int i => exact .int i
  | bl b => exact .bl b
  | tup h o => exact .tup (seqT_same e h) o
  | lst h n o => exact .lst (e _ _ h) n o
  | dct h => exact .dct (e _ _ h)
theorem sh1 {b : Str} (h : PyData.strOk b = true) : SeqAt.shaped (.str b) = true := (Dt.sh_str (k := 0) h).ok
theorem It.ceq (h : It K H P x o) {n : Str} (hn : PyData.strOk n = true) : Ceq K H x (.str n) (decide (o = some n)) ∧ Ceq K H (.str n) x (decide (o = some n)) := by
  have f : ∀ {d : PyData}, Dp K H x d → SeqAt.shaped d = true → PyData.eqv d (.str n) = decide (o = some n) → PyData.eqv (.str n) d = decide (o = some n) → Ceq K H x (.str n) (decide (o = some n)) ∧ Ceq K H (.str n) x (decide (o = some n)) := fun h1 h2 e1 e2 => ⟨e1 ▸ .dat h1 (.str n) h2 (sh1 hn), e2 ▸ .dat (.str n) h1 (sh1 hn) h2⟩
  have s1 : ∀ {b : Str}, PyData.strOk b = true → SeqAt.shaped (.tuple [.str b]) = true := fun h => Dt.Sh.ok (k := 1) (Dt.sh_tup fun x hx => by rw [List.mem_singleton.mp hx]; exact Dt.sh_str h)
  have s2 : ∀ {b : Str}, PyData.strOk b = true → SeqAt.shaped (.list [.str b]) = true := fun h => Dt.Sh.ok (k := 1) (Dt.sh_lst fun x hx => by rw [List.mem_singleton.mp hx]; exact Dt.sh_str h)
  cases h with
  | @str b h =>
    refine f (.str b) (sh1 h) ?_ ?_
    · by_cases e : b = n <;> simp [PyData.eqv, e]
    · by_cases e : b = n
      · simp [PyData.eqv, e]
      · have e2 : n ≠ b := fun z => e z.symm
        simp [PyData.eqv, e, e2]
  | non => exact f .non rfl (by simp [PyData.eqv]) (by simp [PyData.eqv])
  | int i => exact f (.int i) rfl (by simp [PyData.eqv]) (by simp [PyData.eqv])
  | bl b => exact f (.bl b) rfl (by simp [PyData.eqv]) (by simp [PyData.eqv])
  | tup h o => exact f (.tup h (.cons (.str _) .nil)) (s1 o) (by simp [PyData.eqv]) (by simp [PyData.eqv])
  | lst h _ o => exact f (.lst (SqL.of h) (.cons (.str _) .nil)) (s2 o) (by simp [PyData.eqv]) (by simp [PyData.eqv])
  | dct h => exact ⟨.ds n h, .sd n h⟩
/-- what is told for an outcome: a tuple of such things, or another thing -/
inductive Th (K : PySem.W.Frag) (H : Hp) (P : Addr → Prop) : V → Option (List (Option Str)) → Prop
  | tup {p : Addr} {xs : List V} {os : List (Option Str)} (h : SqT K H p xs) (i : Paired (It K H P) xs os) : Th K H P (.ref p) (some os)
  | non : Th K H P .non none
  | int (i : Int) : Th K H P (.int i) none
  | bl (b : Bool) : Th K H P (.bl b) none
  | str (b : Str) : Th K H P (.str b) none
  | lst {p : Addr} {xs : List V} (h : H p = some (.lst xs)) (n : P p) : Th K H P (.ref p) none
  | dct {p : Addr} (h : H p = some (.dK [])) : Th K H P (.ref p) none
theorem pr_mp {α β : Type} {R R' : α → β → Prop} (f : ∀ a b, R a b → R' a b) : ∀ {as : List α} {bs : List β}, Paired R as bs → Paired R' as bs
  | _, _, .nil => .nil
  | _, _, .cons h r => .cons (f _ _ h) (pr_mp f r)
variable {t : Option (List (Option Str))}
theorem Th.but (h : Th K H P v t) (e : But l H H') {ys : List V} (hl : H l = some (.lst ys)) (nP : ∀ x, P x → x ≠ l) : Th K H' P v t := by
  cases h with
  | tup h i => exact .tup (seqT_but e hl h) (pr_mp (fun _ _ h => h.but e hl nP) i)
  | non => exact .non
  | int i => exact .int i
  | bl b => exact .bl b
  | str b => exact .str b
  | lst h n => exact .lst (e _ _ (nP _ n) h) n
  | dct h => exact .dct (e _ _ (fun z => by subst z; rw [hl] at h; cases h) h)
theorem Th.same (h : Th K H P v t) (e : Same H H') : Th K H' P v t := by
  cases h with
  | tup h i => exact .tup (seqT_same e h) (pr_mp (fun _ _ h => h.same e) i)
  | non => exact .non
  | int i => exact .int i
  | bl b => exact .bl b
  | str b => exact .str b
  | lst h n => exact .lst (e _ _ h) n
  | dct h => exact .dct (e _ _ h)
theorem It.mono {P' : Addr → Prop} (h : It K H P x o) (e : ∀ x, P x → P' x) : It K H P' x o := by
  cases h with
  | str h => exact .str h
  | non => exact .non
  | int i => exact .int i
  | bl b => exact .bl b
  | tup h o => exact .tup h o
  | lst h n o => exact .lst h (e _ n) o
  | dct h => exact .dct h
theorem Th.mono {P' : Addr → Prop} (h : Th K H P v t) (e : ∀ x, P x → P' x) : Th K H P' v t := by
  cases h with
  | tup h i => exact .tup h (pr_mp (fun _ _ h => h.mono e) i)
  | non => exact .non
  | int i => exact .int i
  | bl b => exact .bl b
  | str b => exact .str b
  | lst h n => exact .lst h (e _ n)
  | dct h => exact .dct h
theorem Th.oth (h : Th K H P v none) : ∃ u, TyX K H v u ∧ PySem.W.kitOne K u (.type "tuple") = some false := by
  cases h with
  | non => exact ⟨.type "NoneType", .base .non, kit_ty (by decide +kernel)⟩
  | int i => exact ⟨.type "int", .base (.int i), kit_ty (by decide +kernel)⟩
  | bl b => exact ⟨.type "bool", .base (.bl b), kit_ty (by decide +kernel)⟩
  | str b => exact ⟨.type "str", .base (.str b), kit_ty (by decide +kernel)⟩
  | lst h n => exact ⟨.type "list", ty_lst (SqL.of h), kit_ty (by decide +kernel)⟩
  | dct h => exact ⟨.type "dict", .base (.dK h), kit_ty (by decide +kernel)⟩
end
/-- an outcome that could be of a contest for seats -/
def fitO (ns : List Str) (k : Nat) (os : List (Option Str)) : Prop := os.length = k ∧ os = (ns.filter fun n => decide (some n ∈ os)).map some
def couldB (ns : List Str) (k : Nat) : Option (List (Option Str)) → Bool
  | none => false
  | some os => decide (os.length = k) && decide (os = (ns.filter fun n => decide (some n ∈ os)).map some)
theorem couldB_iff {ns : List Str} {k : Nat} {os : List (Option Str)} : couldB ns k (some os) = true ↔ fitO ns k os := by
  unfold couldB fitO
  rw [Bool.and_eq_true, decide_eq_true_iff, decide_eq_true_iff]
theorem split_some : ∀ os : List (Option Str), none ∈ os ∨ ∃ zs : List Str, os = zs.map some
  | [] => .inr ⟨[], rfl⟩
  | none :: r => .inl (List.mem_cons_self ..)
  | some z :: r => (split_some r).elim (fun h => .inl (List.mem_cons_of_mem _ h)) fun ⟨zs, h⟩ => .inr ⟨z :: zs, by rw [h]; rfl⟩
theorem sub_lenM {α : Type} [DecidableEq α] : ∀ {as bs : List α}, as.Nodup → (∀ a ∈ as, a ∈ bs) → as.length ≤ bs.length
  | [], _, _, _ => Nat.zero_le _
  | a :: r, bs, nd, h => by
    rw [List.nodup_cons] at nd
    have ha := h a (List.mem_cons_self ..)
    have ih := sub_lenM (as := r) (bs := bs.erase a) nd.2 fun x hx => (List.mem_erase_of_ne (fun e => by subst e; exact nd.1 hx)).mpr (h x (List.mem_cons_of_mem _ hx))
    rw [List.length_erase_of_mem ha] at ih
    have := List.length_pos_of_mem ha
    rw [List.length_cons]
    omega
/-- with another thing among them the names found are fewer -/
theorem few_names {ns : List Str} (nd : ns.Nodup) {os : List (Option Str)} (h : none ∈ os) : (ns.filter fun n => decide (some n ∈ os)).length < os.length := by
  have l := sub_lenM (as := none :: (ns.filter fun n => decide (some n ∈ os)).map some) (bs := os) (by
    rw [List.nodup_cons]
    refine ⟨(fun z => by obtain ⟨_, _, e⟩ := List.mem_map.mp z; cases e), ?_⟩
    have := nd.filter fun n => decide (some n ∈ os)
    rw [List.nodup_iff_pairwise_ne]
    exact List.Pairwise.map some (fun _ _ n e => n (Option.some.inj e)) this) (fun a ha => by
    rcases List.mem_cons.mp ha with e | ha
    · rw [e]; exact h
    · obtain ⟨n, hn, rfl⟩ := List.mem_map.mp ha
      exact of_decide_eq_true (List.mem_filter.mp hn).2)
  rw [List.length_cons, List.length_map] at l
  omega
theorem none_unfit {ns : List Str} {k : Nat} {os : List (Option Str)} (h : none ∈ os) : ¬ fitO ns k os := fun z => by
  rw [z.2] at h
  obtain ⟨_, _, e⟩ := List.mem_map.mp h
  cases e
theorem mem_some {n : Str} {zs : List Str} : (some n ∈ zs.map some) ↔ n ∈ zs := by
  rw [List.mem_map]
  exact ⟨fun ⟨_, h, e⟩ => by rw [← Option.some.inj e]; exact h, fun h => ⟨n, h, rfl⟩⟩
theorem filt_some {ns zs : List Str} : (ns.filter fun n => decide (some n ∈ zs.map some)) = ns.filter (Co.has zs) := by
  refine List.filter_congr fun n _ => ?_
  by_cases h : n ∈ zs
  · rw [Co.has_iff.mpr h, decide_eq_true (mem_some.mpr h)]
  · rw [decide_eq_false fun z => h (mem_some.mp z)]
    cases e : Co.has zs n with
    | false => rfl
    | true => exact absurd (Co.has_iff.mp e) h
theorem fit_some {ns zs : List Str} {k : Nat} : fitO ns k (zs.map some) ↔ Co.fit ns k zs := by
  unfold fitO Co.fit
  rw [List.length_map, filt_some]
  exact ⟨fun ⟨a, b⟩ => ⟨a, List.map_inj_right (fun _ _ h => Option.some.inj h) |>.mp b⟩, fun ⟨a, b⟩ => ⟨a, congrArg (List.map some) b⟩⟩
theorem it_strs {K : PySem.W.Frag} {H : Hp} {P : Addr → Prop} : ∀ {xs : List V} {zs : List Str}, Paired (It K H P) xs (zs.map some) → xs = zs.map V.str ∧ ∀ z ∈ zs, PyData.strOk z = true
  | _, [], .nil => ⟨rfl, fun _ h => (nomatch h)⟩
  | _, z :: zs, .cons (.str h) r => by
    obtain ⟨e, g⟩ := it_strs r
    refine ⟨by rw [e]; rfl, fun x hx => ?_⟩
    rcases List.mem_cons.mp hx with q | q
    · rw [q]; exact h
    · exact g x q
theorem ceq_map {K : PySem.W.Frag} {H : Hp} {P : Addr → Prop} {n : Str} (hn : PyData.strOk n = true) : ∀ {xs : List V} {os : List (Option Str)}, Paired (It K H P) xs os → CeqL K H (.str n) xs (os.map fun o => decide (o = some n))
  | _, _, .nil => .nil
  | _, _, .cons h r => .cons (h.ceq hn).1 (ceq_map hn r)
theorem any_map (os : List (Option Str)) (n : Str) : (os.map fun o => decide (o = some n)).any id = decide (some n ∈ os) := by
  rw [List.any_map]
  by_cases h : some n ∈ os
  · rw [decide_eq_true h, List.any_eq_true]
    exact ⟨_, h, by simp⟩
  · rw [decide_eq_false h, List.any_eq_false]
    intro o ho z
    have : o = some n := by simpa using z
    exact h (this ▸ ho)
theorem ceq_names {K : PySem.W.Frag} {H : Hp} {P : Addr → Prop} {x : V} {o : Option Str} (h : It K H P x o) : ∀ {ns : List Str}, (∀ n ∈ ns, PyData.strOk n = true) → CeqL K H x (ns.map V.str) (ns.map fun n => decide (o = some n))
  | [], _ => .nil
  | n :: r, hn => .cons (h.ceq (hn n (List.mem_cons_self ..))).2 (ceq_names h fun z hz => hn z (List.mem_cons_of_mem _ hz))
abbrev rNeX (K : PySem.W.Frag) : R2 := fun x y H Q => rNeU K x y H Q ∨ rLenT K true x y H Q
abbrev rEqX (K : PySem.W.Frag) : R2 := fun x y H Q => rEqU K x y H Q ∨ rLenT K false x y H Q
theorem op_inMK {X : Cx} {K : PySem.W.Frag} {k : Nat} (h : X.K = K) (hr : Room k X.A) : OpR X (compareOp .In) (rInM K false) := h ▸ op_inM (Room.un65 hr)
theorem op_niMK {X : Cx} {K : PySem.W.Frag} {k : Nat} (h : X.K = K) (hr : Room k X.A) : OpR X (compareOp .NotIn) (rInM K true) := h ▸ op_niM (Room.un65 hr)
theorem op_neX {X : Cx} {K : PySem.W.Frag} {k : Nat} (h : X.K = K) (hr : Room k X.A) : OpR X (compareOp .NotEq) (rNeX K) := (op_neK h hr).or (h ▸ op_neM (Room.un65 hr))
theorem op_eqX {X : Cx} {K : PySem.W.Frag} {k : Nat} (h : X.K = K) (hr : Room k X.A) : OpR X (compareOp .Eq) (rEqX K) := (op_eqK h hr).or (h ▸ op_eqM (Room.un65 hr))
end Mx
namespace Lw
open PySem PySem.Spec PyProof.Rows L2 Gx
def sp_Beats___init__ (K : PySem.W.Frag) : Sp := fun vs H Q _ => ∃ (a dx : Addr) (u0 u1 : V), vs = [.ref a, u0, u1] ∧ H a = some (.ins (He.ga K "Beats") dx []) ∧ ∀ H', But a H H' → H' a = some (.ins (He.ga K "Beats") dx [("one", u0), ("other", u1)]) → Q .non H'
def sp_Over___init__ (K : PySem.W.Frag) : Sp := fun vs H Q _ => ∃ (a dx : Addr) (u0 u1 : V), vs = [.ref a, u0, u1] ∧ H a = some (.ins (He.ga K "Over") dx []) ∧ ∀ H', But a H H' → H' a = some (.ins (He.ga K "Over") dx [("name", u0), ("share", u1)]) → Q .non H'
def sp_Under___init__ (K : PySem.W.Frag) : Sp := fun vs H Q _ => ∃ (a dx : Addr) (u0 u1 : V), vs = [.ref a, u0, u1] ∧ H a = some (.ins (He.ga K "Under") dx []) ∧ ∀ H', But a H H' → H' a = some (.ins (He.ga K "Under") dx [("name", u0), ("share", u1)]) → Q .non H'
def sp_Contest___init__ (K : PySem.W.Frag) : Sp := fun vs H Q _ => ∃ (a C dx : Addr) (u : V), vs = [.ref a, u] ∧ H a = some (.ins C dx []) ∧ Cls K C ∧ NoAttr K C "names" ∧ ∀ H', But a H H' → H' a = some (.ins C dx [("names", u)]) → Q .non H'
def sp_Contest_claims (K : PySem.W.Frag) : Sp := fun vs H _ E => ∃ (a : Addr) (v : V), vs = [.ref a, v] ∧ E (.ref (He.ga K "NoOutcome")) none H
def sp_Most___init__ (K : PySem.W.Frag) : Sp := fun vs H Q _ => ∃ (a dx : Addr) (u0 u1 : V), vs = [.ref a, u0, u1] ∧ H a = some (.ins (He.ga K "Most") dx []) ∧ ∀ H', But a H H' → H' a = some (.ins (He.ga K "Most") dx [("names", u0), ("seats", u1)]) → Q .non H'
def sp_Most_claims (K : PySem.W.Frag) : Sp := fun vs H Q E => ∃ (a dx p : Addr) (PP : Addr → Prop) (v : V) (t : Option (List (Option Str))) (ns : List Str) (k : Nat), vs = [.ref a, v] ∧ H a = some (.ins (He.ga K "Most") dx [("names", .ref p), ("seats", .int (k : Int))]) ∧
  SqT K H p (ns.map V.str) ∧ ns.length ≤ 60 ∧ ns.Nodup ∧ (∀ s ∈ ns, Pl.Nm s) ∧ Mx.Th K H PP v t ∧ (∀ os, t = some os → os.length ≤ 60) ∧
  (Mx.couldB ns k t = true → ∀ r H', Same H H' → Q r H') ∧ (Mx.couldB ns k t = false → ∀ H', Same H H' → E (.ref (He.ga K "NoOutcome")) none H')
def sp_Portion___init__ (K : PySem.W.Frag) : Sp := fun vs H Q _ => ∃ (a dx : Addr) (u0 u1 : V), vs = [.ref a, u0, u1] ∧ H a = some (.ins (He.ga K "Portion") dx []) ∧ ∀ H', But a H H' → H' a = some (.ins (He.ga K "Portion") dx [("names", u0), ("share", u1)]) → Q .non H'
/-- an outcome that could be of a contest for a share -/
def partB (ns : List Str) : Option (List (Option Str)) → Bool
  | none => false
  | some [] => true
  | some [o] => ns.any fun n => decide (o = some n)
  | some _ => false
def sp_Portion_claims (K : PySem.W.Frag) : Sp := fun vs H Q E => ∃ (a dx p : Addr) (PP : Addr → Prop) (z : Addr) (v : V) (t : Option (List (Option Str))) (ns : List Str) (s : Rat), vs = [.ref a, v] ∧ H a = some (.ins (He.ga K "Portion") dx [("names", .ref p), ("share", .ref z)]) ∧
  SqT K H p (ns.map V.str) ∧ SqT K H z (Fr.fq s) ∧ ns.length ≤ 60 ∧ (∀ s ∈ ns, Pl.Nm s) ∧ Mx.Th K H PP v t ∧
  (partB ns t = true → ∀ r H', Same H H' → Q r H') ∧ (partB ns t = false → ∀ H', Same H H' → E (.ref (He.ga K "NoOutcome")) none H')
def sp__law_source (K : PySem.W.Frag) : Sp := fun vs H Q _ => ∃ (a : Addr) (ns : List Int), vs = [.ref a] ∧ SqL K H a (ns.map V.int) ∧ ns.length ≤ 63 ∧
  ∀ (l : Addr) (cs : List Int) H', Same H H' → H l = none → H' l = some (.lst (cs.map V.int)) → Sr.Src cs → Q (.ref l) H'
def sp__law_draw (K : PySem.W.Frag) : Sp := fun vs H Q _ => ∃ (l : Addr) (cs : List Int) (m : Int), vs = [.ref l, .int m] ∧ H l = some (.lst (cs.map V.int)) ∧ Sr.Src cs ∧ 1 ≤ m ∧ m < 2 ^ 64 ∧
  ∀ (r : Int) (cs' : List Int) H', But l H H' → H' l = some (.lst (cs'.map V.int)) → Sr.Src cs' → 0 ≤ r → r < m → Q (.int r) H'
def sp__law_unlike (K : PySem.W.Frag) : Sp := fun vs H Q _ => ∃ (l : Addr) (cs : List Int) (m : Nat), vs = [.ref l, .int (m : Int)] ∧ H l = some (.lst (cs.map V.int)) ∧ Sr.Src cs ∧ 2 ≤ m ∧ m ≤ 9 ∧
  ∀ (q : Addr) (ns : List Str) (cs' : List Int) H', But l H H' → H' l = some (.lst (cs'.map V.int)) → Sr.Src cs' → H q = none → H' q = some (.lst (ns.map V.str)) → ns.length = m → ns.Nodup → (∀ s ∈ ns, Pl.Nm s) → Q (.ref q) H'
def sp__law_lowest (K : PySem.W.Frag) : Sp := fun vs H Q _ => ∃ (a b : Int), vs = [.int a, .int b] ∧ 0 < b ∧ Okd a b ∧ ∀ p H', Same H H' → H p = none → SqT K H' p (Fr.fq (Rat.divInt a b)) → Q (.ref p) H'
def sp__law_half (K : PySem.W.Frag) : Sp := fun vs H Q _ => ∃ (l : Addr) (cs : List Int), vs = [.ref l] ∧ H l = some (.lst (cs.map V.int)) ∧ Sr.Src cs ∧
  ∀ (q : Addr) (s : Rat) (part whole : Int) (cs' : List Int) H', But l H H' → H' l = some (.lst (cs'.map V.int)) → Sr.Src cs' → H q = none → SqT K H' q (Fr.fq s) → s = Rat.divInt part whole → 1 ≤ part → part < whole → whole ≤ 1000000 → whole ≤ 2 * part → Q (.ref q) H'
def sp__law_mixed_up (K : PySem.W.Frag) : Sp := fun vs H Q _ => ∃ (l q : Addr) (cs : List Int) (ns : List Str), vs = [.ref l, .ref q] ∧ H l = some (.lst (cs.map V.int)) ∧ Sr.Src cs ∧ H q = some (.lst (ns.map V.str)) ∧ q ≠ l ∧ ns.length ≤ 9 ∧
  ∀ (p : Addr) (ms : List Str) (cs' : List Int) H', But l H H' → H' l = some (.lst (cs'.map V.int)) → Sr.Src cs' → H p = none → H' p = some (.lst (ms.map V.str)) → ms.Perm ns → Q (.ref p) H'
theorem but_new {H H1 H2 : Hp} {l p : Addr} (np : H p = none) (b : But l H H1) (c : But p H1 H2) : But l H H2 := fun x o n h => c _ _ (fun z => by subst z; rw [np] at h; cases h) (b _ _ n h)
theorem But.free' {H H' : Hp} {l x : Addr} (b : But l H H') (n : x ≠ l) (h : H' x = none) : H x = none := by
  cases g : H x with
  | none => rfl
  | some o => rw [b _ _ n g] at h; cases h
theorem erase_mapM {α β : Type} (f : α → β) : ∀ (l : List α) (i : Nat), (l.map f).eraseIdx i = (l.eraseIdx i).map f
  | [], _ => rfl
  | _ :: _, 0 => rfl
  | _ :: r, i + 1 => by simp only [List.map_cons, List.eraseIdx_cons_succ, erase_mapM f r i]
def BI (H : Hp) (l lc p q : Addr) (os : List Str) (j : Nat) (w : Int) (k : Int) : L2.St → Hp → Prop := fun σ H' => ∃ (zs : List Str) (cs : List Int), σ = [some (.ref l), some (.ref lc), some (.ref p), some (.int w), some (.ref q), some (.int (j : Int))] ∧ H' q = some (.lst (zs.map V.str)) ∧ (k ≤ w → zs = os) ∧ zs.length ≤ 20 ∧ (∀ z ∈ zs, Pl.Nm z) ∧ But l H H' ∧ H' l = some (.lst (cs.map V.int)) ∧ Sr.Src cs
theorem its {K : PySem.W.Frag} {H : Hp} {PP : Addr → Prop} : ∀ {zs : List Str}, (∀ z ∈ zs, Pl.Nm z) → Paired (Mx.It K H PP) (zs.map V.str) (zs.map some)
  | [], _ => .nil
  | z :: r, h => .cons (.str (h z (List.mem_cons_self ..)).ok) (its fun x hx => h x (List.mem_cons_of_mem _ hx))
theorem its_set {K : PySem.W.Frag} {H : Hp} {PP : Addr → Prop} {x : V} {o : Option Str} (h : Mx.It K H PP x o) : ∀ {xs : List V} {os : List (Option Str)} (j : Nat), Paired (Mx.It K H PP) xs os → Paired (Mx.It K H PP) (xs.set j x) (os.set j o)
  | _, _, _, .nil => .nil
  | _, _, 0, .cons _ r => .cons h r
  | _, _, j + 1, .cons g r => .cons g (its_set h j r)
theorem its_flat {K : PySem.W.Frag} {H H' : Hp} {PP : Addr → Prop} : ∀ {xs : List V} {ts : List (Option Str)}, Paired (Mx.It K H PP) xs ts → (∀ x ∈ xs, x = .non ∨ ∃ b, x = .str b) → Paired (Mx.It K H' PP) xs ts
  | _, _, .nil, _ => .nil
  | _, _, .cons h r, g => by
    refine .cons ?_ (its_flat r fun x hx => g x (List.mem_cons_of_mem _ hx))
    rcases g _ (List.mem_cons_self ..) with e | ⟨b, e⟩
    · subst e; cases h; exact .non
    · subst e; cases h with | str h => exact .str h
def sp__law_bent (K : PySem.W.Frag) : Sp := fun vs H Q _ => ∃ (l lc p : Addr) (cs : List Int) (os ns : List Str), vs = [.ref l, .ref lc, .ref p] ∧ lc ≠ l ∧ p ≠ l ∧ H l = some (.lst (cs.map V.int)) ∧ Sr.Src cs ∧ H lc = some (.lst (os.map V.str)) ∧ 1 ≤ os.length ∧ os.length ≤ 9 ∧ H p = some (.lst (ns.map V.str)) ∧ 1 ≤ ns.length ∧ ns.length ≤ 9 ∧ (∀ s ∈ os, Pl.Nm s) ∧ (∀ s ∈ ns, Pl.Nm s) ∧
  ∀ (v : V) (t : Option (List (Option Str))) (cs' : List Int) H', But l H H' → H' l = some (.lst (cs'.map V.int)) → Sr.Src cs' → Mx.Th K H' (fun x => H x = none) v t → (∀ os, t = some os → os.length ≤ 60) → Q v H'
def sp__law_thing (K : PySem.W.Frag) : Sp := fun vs H Q _ => ∃ (l p : Addr) (cs : List Int) (ns : List Str), vs = [.ref l, .ref p] ∧ H l = some (.lst (cs.map V.int)) ∧ Sr.Src cs ∧ H p = some (.lst (ns.map V.str)) ∧ 1 ≤ ns.length ∧ (∀ s ∈ ns, Pl.Nm s) ∧
  ∀ (v : V) (t : Option (List (Option Str))) (cs' : List Int) H', But l H H' → H' l = some (.lst (cs'.map V.int)) → Sr.Src cs' → Mx.Th K H' (fun x => H x = none) v t → (∀ os, t = some os → os.length ≤ 60) → Q v H'
/-- a contest, by its sort -/
inductive Kd : Type
  | most (k : Nat)
  | part (s : Rat)
  | bare
def CAt (K : PySem.W.Frag) (H : Hp) (a : Addr) (ns : List Str) : Kd → Prop
  | .most k => ∃ dx p, H a = some (.ins (He.ga K "Most") dx [("names", .ref p), ("seats", .int (k : Int))]) ∧ SqT K H p (ns.map V.str)
  | .part s => ∃ dx p z, H a = some (.ins (He.ga K "Portion") dx [("names", .ref p), ("share", .ref z)]) ∧ SqT K H p (ns.map V.str) ∧ SqT K H z (Fr.fq s)
  | .bare => ∃ dx p, H a = some (.ins (He.ga K "Contest") dx [("names", .ref p)]) ∧ SqT K H p (ns.map V.str)
def okB (ns : List Str) (t : Option (List (Option Str))) : Kd → Bool
  | .most k => Mx.couldB ns k t
  | .part _ => partB ns t
  | .bare => false
theorem CAt.same {K : PySem.W.Frag} {H H' : Hp} {a : Addr} {ns : List Str} (e : Same H H') : ∀ {d : Kd}, CAt K H a ns d → CAt K H' a ns d
  | .most _, ⟨dx, p, h1, h2⟩ => ⟨dx, p, e _ _ h1, seqT_same e h2⟩
  | .part _, ⟨dx, p, z, h1, h2, h3⟩ => ⟨dx, p, z, e _ _ h1, seqT_same e h2, seqT_same e h3⟩
  | .bare, ⟨dx, p, h1, h2⟩ => ⟨dx, p, e _ _ h1, seqT_same e h2⟩
theorem CAt.but {K : PySem.W.Frag} {H H' : Hp} {a l : Addr} {ns : List Str} {xs : List V} (e : But l H H') (hl : H l = some (.lst xs)) : ∀ {d : Kd}, CAt K H a ns d → CAt K H' a ns d
  | .most _, ⟨dx, p, h1, h2⟩ => ⟨dx, p, e _ _ (ne_of h1 hl (by intro z; cases z)) h1, seqT_but e hl h2⟩
  | .part _, ⟨dx, p, z, h1, h2, h3⟩ => ⟨dx, p, z, e _ _ (ne_of h1 hl (by intro z; cases z)) h1, seqT_but e hl h2, seqT_but e hl h3⟩
  | .bare, ⟨dx, p, h1, h2⟩ => ⟨dx, p, e _ _ (ne_of h1 hl (by intro z; cases z)) h1, seqT_but e hl h2⟩
def ansV (b : Bool) : List V := if b = true then [.str (Str.ofString "told"), .bl true] else [.str (Str.ofString "refused"), .bl false]
def sp__law_refused (K : PySem.W.Frag) : Sp := fun vs H Q _ => ∃ (a : Addr) (PP : Addr → Prop) (v : V) (t : Option (List (Option Str))) (ns : List Str) (d : Kd), vs = [.ref a, v] ∧ CAt K H a ns d ∧ ns.length ≤ 60 ∧ ns.Nodup ∧ (∀ s ∈ ns, Pl.Nm s) ∧ Mx.Th K H PP v t ∧ (∀ os, t = some os → os.length ≤ 60) ∧ ∀ r H', Same H H' → H' r = some (.lst (ansV (okB ns t d))) → Q (.ref r) H'
def sp__law_could (K : PySem.W.Frag) : Sp := fun vs H Q _ => ∃ (p : Addr) (PP : Addr → Prop) (v : V) (t : Option (List (Option Str))) (ns : List Str) (k : Nat), vs = [v, .ref p, .int (k : Int)] ∧ SqL K H p (ns.map V.str) ∧ ns.length ≤ 60 ∧ ns.Nodup ∧ (∀ s ∈ ns, Pl.Nm s) ∧ Mx.Th K H PP v t ∧ (∀ os, t = some os → os.length ≤ 60) ∧ ∀ H', Same H H' → Q (.bl (Mx.couldB ns k t)) H'
def sp__law_asked (K : PySem.W.Frag) : Sp := fun vs H Q _ => ∃ (a : Addr) (PP : Addr → Prop) (v : V) (t : Option (List (Option Str))) (ns : List Str) (d : Kd) (b : Bool), vs = [.ref a, v, .bl b] ∧ CAt K H a ns d ∧ ns.length ≤ 60 ∧ ns.Nodup ∧ (∀ s ∈ ns, Pl.Nm s) ∧ Mx.Th K H PP v t ∧ (∀ os, t = some os → os.length ≤ 60) ∧ b = okB ns t d ∧ ∀ H', Same H H' → Q (.bl true) H'
theorem erase_mapL {α β : Type} (f : α → β) : ∀ (l : List α) (i : Nat), (l.map f).eraseIdx i = (l.eraseIdx i).map f
  | [], _ => rfl
  | _ :: _, 0 => rfl
  | _ :: r, i + 1 => by simp only [List.map_cons, List.eraseIdx_cons_succ, erase_mapL f r i]
theorem filt_one (m : Str) : ∀ {ns : List Str}, ns.Nodup → (ns.filter fun n => decide (some n ∈ [some m])) = if m ∈ ns then [m] else []
  | [], _ => by simp
  | n :: r, nd => by
    rw [List.nodup_cons] at nd
    have ih := filt_one m nd.2
    rw [List.filter_cons, ih]
    by_cases e : n = m
    · subst e
      rw [if_neg nd.1]
      simp
    · have e2 : ¬ m = n := fun z => e z.symm
      simp [e, e2]
theorem one_part {ns : List Str} (nd : ns.Nodup) : ∀ t : Option (List (Option Str)), (Mx.couldB ns 1 t || decide (t = some [])) = partB ns t
  | none => rfl
  | some [] => by simp [partB]
  | some [o] => by
    have e : decide (some [o] = some ([] : List (Option Str))) = false := by simp
    rw [e, Bool.or_false]
    show (decide (1 = 1) && decide ([o] = (ns.filter fun n => decide (some n ∈ [o])).map some)) = ns.any fun n => decide (o = some n)
    rw [decide_eq_true rfl, Bool.true_and]
    cases o with
    | none =>
      have f : (ns.filter fun n => decide (some n ∈ [(none : Option Str)])) = [] := by
        rw [List.filter_eq_nil_iff]
        intro a _
        simp
      rw [f, decide_eq_false (by simp)]
      symm
      rw [List.any_eq_false]
      intro n _
      simp
    | some m =>
      rw [filt_one m nd]
      by_cases h : m ∈ ns
      · rw [if_pos h, decide_eq_true (by simp)]
        symm
        rw [List.any_eq_true]
        exact ⟨m, h, by simp⟩
      · rw [if_neg h, decide_eq_false (by simp)]
        symm
        rw [List.any_eq_false]
        intro n hn z
        have : some m = some n := of_decide_eq_true z
        exact h (Option.some.inj this ▸ hn)
  | some (x :: y :: r) => by
    have e : decide (some (x :: y :: r) = some ([] : List (Option Str))) = false := by simp
    rw [e, Bool.or_false]
    show Mx.couldB ns 1 (some (x :: y :: r)) = false
    show (decide ((x :: y :: r).length = 1) && decide ((x :: y :: r) = (ns.filter fun n => decide (some n ∈ (x :: y :: r))).map some)) = false
    rw [decide_eq_false (show ¬ (x :: y :: r).length = 1 by simp), Bool.false_and]
abbrev TT (K : PySem.W.Frag) (H : Hp) (P : Addr → Prop) (v : V) (t : Option (List (Option Str))) : Prop := Mx.Th K H P v t ∧ ∀ os, t = some os → os.length ≤ 60
def sp_law (K : PySem.W.Frag) : Sp := fun vs H Q _ => ∃ (a : Addr) (ns : List Int), vs = [.ref a] ∧ SqL K H a (ns.map V.int) ∧ ns.length ≤ 63 ∧ ∀ H', Q (.bl true) H'
end Lw
namespace Lw
open PySem PySem.Spec PyProof.Rows L2 Gx
section
variable {P : Program} {w : World} {K : PySem.W.Frag} {mg : Str → Option Value} {base : Heap} {f : Addr} {fd : FuncData}
theorem ok_Beats___init__ (F : FnP K "__init__" "Beats.__init__" s_Beats___init__ f fd) (T : Txt K mg) : FnOk P w K mg base (L2.CX P w) 1 f fd ["self", "one", "other"] (sp_Beats___init__ K) := by
  refine F.ok sc_Beats___init__ (fun vs H Q E h => ?_) (fun cdv A outer s H vs Q E hr h => ?_)
  · obtain ⟨a, dx, u0, u1, rfl, _⟩ := h; rfl
  · refine ⟨_, (pss_cons (ps_fld (pv 0) (pv 1) rfl) (pss_one (ps_fld (pv 0) (pv 2) rfl))), ?_⟩
    obtain ⟨a, dx, u0, u1, rfl, h0, kk⟩ := h
    walk_at "go"
    refine k_sfldx h0 T.cl_Beats T.f_Beats_one (fun H1 b1 h1 => ?_) (by walk_at "pl")
    walk_at "go"
    refine k_sfldx h1 T.cl_Beats T.f_Beats_other (fun H2 b2 h2 => ?_) (by walk_at "pl")
    walk_at "go"
    exact kk H2 (b1.trans b2) (by rw [h2]; walk_at "pf")
end
end Lw
namespace Lw
open PySem PySem.Spec PyProof.Rows L2 Gx
section
variable {P : Program} {w : World} {K : PySem.W.Frag} {mg : Str → Option Value} {base : Heap} {f : Addr} {fd : FuncData}
theorem ok_Over___init__ (F : FnP K "__init__" "Over.__init__" s_Over___init__ f fd) (T : Txt K mg) : FnOk P w K mg base (L2.CX P w) 1 f fd ["self", "name", "share"] (sp_Over___init__ K) := by
  refine F.ok sc_Over___init__ (fun vs H Q E h => ?_) (fun cdv A outer s H vs Q E hr h => ?_)
  · obtain ⟨a, dx, u0, u1, rfl, _⟩ := h; rfl
  · refine ⟨_, (pss_cons (ps_fld (pv 0) (pv 1) rfl) (pss_one (ps_fld (pv 0) (pv 2) rfl))), ?_⟩
    obtain ⟨a, dx, u0, u1, rfl, h0, kk⟩ := h
    walk_at "go"
    refine k_sfldx h0 T.cl_Over T.f_Over_name (fun H1 b1 h1 => ?_) (by walk_at "pl")
    walk_at "go"
    refine k_sfldx h1 T.cl_Over T.f_Over_share (fun H2 b2 h2 => ?_) (by walk_at "pl")
    walk_at "go"
    exact kk H2 (b1.trans b2) (by rw [h2]; walk_at "pf")
end
end Lw
namespace Lw
open PySem PySem.Spec PyProof.Rows L2 Gx
section
variable {P : Program} {w : World} {K : PySem.W.Frag} {mg : Str → Option Value} {base : Heap} {f : Addr} {fd : FuncData}
theorem ok_Under___init__ (F : FnP K "__init__" "Under.__init__" s_Under___init__ f fd) (T : Txt K mg) : FnOk P w K mg base (L2.CX P w) 1 f fd ["self", "name", "share"] (sp_Under___init__ K) := by
  refine F.ok sc_Under___init__ (fun vs H Q E h => ?_) (fun cdv A outer s H vs Q E hr h => ?_)
  · obtain ⟨a, dx, u0, u1, rfl, _⟩ := h; rfl
  · refine ⟨_, (pss_cons (ps_fld (pv 0) (pv 1) rfl) (pss_one (ps_fld (pv 0) (pv 2) rfl))), ?_⟩
    obtain ⟨a, dx, u0, u1, rfl, h0, kk⟩ := h
    walk_at "go"
    refine k_sfldx h0 T.cl_Under T.f_Under_name (fun H1 b1 h1 => ?_) (by walk_at "pl")
    walk_at "go"
    refine k_sfldx h1 T.cl_Under T.f_Under_share (fun H2 b2 h2 => ?_) (by walk_at "pl")
    walk_at "go"
    exact kk H2 (b1.trans b2) (by rw [h2]; walk_at "pf")
end
end Lw
namespace Lw
open PySem PySem.Spec PyProof.Rows L2 Gx
section
variable {P : Program} {w : World} {K : PySem.W.Frag} {mg : Str → Option Value} {base : Heap} {f : Addr} {fd : FuncData}
theorem ok_Contest___init__ (F : FnP K "__init__" "Contest.__init__" s_Contest___init__ f fd) (T : Txt K mg) : FnOk P w K mg base (L2.CX P w) 1 f fd ["self", "names"] (sp_Contest___init__ K) := by
  refine F.ok sc_Contest___init__ (fun vs H Q E h => ?_) (fun cdv A outer s H vs Q E hr h => ?_)
  · obtain ⟨a, C, dx, u, rfl, _⟩ := h; rfl
  · refine ⟨_, (pss_one (ps_fld (pv 0) (pv 1) rfl)), ?_⟩
    obtain ⟨a, C, dx, u, rfl, h0, hc, hn, kk⟩ := h
    walk_at "go"
    refine k_sfldx h0 hc hn (fun H1 b1 h1 => ?_) (by walk_at "pl")
    walk_at "go"
    exact kk H1 b1 (by rw [h1]; walk_at "pf")
end
end Lw
namespace Lw
open PySem PySem.Spec PyProof.Rows L2 Gx
section
variable {P : Program} {w : World} {K : PySem.W.Frag} {mg : Str → Option Value} {base : Heap} {f : Addr} {fd : FuncData}
theorem ok_Contest_claims (F : FnP K "claims" "Contest.claims" s_Contest_claims f fd) (T : Txt K mg) : FnOk P w K mg base (L2.CX P w) 1 f fd ["self", "outcome"] (sp_Contest_claims K) := by
  refine F.ok sc_Contest_claims (fun vs H Q E h => ?_) (fun cdv A outer s H vs Q E hr h => ?_)
  · obtain ⟨a, v, rfl, _⟩ := h; rfl
  · refine ⟨_, (pss_one (ps_raise rfl (takes_of rfl rfl rfl rfl) (pmk_own PySem.F.excBase_ValueError T.x_NoOutcome.1 T.g_NoOutcome T.x_NoOutcome.2.1 (raises_own T.x_NoOutcome.2.2.1 T.x_NoOutcome.2.2.2) rfl))), ?_⟩
    obtain ⟨a, v, rfl, ke⟩ := h
    walk_at "go"
    exact ke
end
end Lw
namespace Lw
open PySem PySem.Spec PyProof.Rows L2 Gx
section
variable {P : Program} {w : World} {K : PySem.W.Frag} {mg : Str → Option Value} {base : Heap} {f : Addr} {fd : FuncData}
theorem ok_Most___init__ (F : FnP K "__init__" "Most.__init__" s_Most___init__ f fd) (T : Txt K mg) (s_Contest___init__ : SCl P w K mg base 1 "Contest" "__init__" ["self", "names"] (sp_Contest___init__ K)) : FnOk P w K mg base (L2.CX P w) 2 f fd ["self", "names", "seats"] (sp_Most___init__ K) := by
  refine F.ok sc_Most___init__ (fun vs H Q E h => ?_) (fun cdv A outer s H vs Q E hr h => ?_)
  · obtain ⟨a, dx, u0, u1, rfl, _⟩ := h; rfl
  · refine ⟨_, (pss_cons (ps_expr (psup s_Contest___init__ hr (by first | decide | omega) (pa_cons (pv 0) (pa_cons (pv 1) pa_nil)))) (pss_one (ps_fld (pv 0) (pv 2) rfl))), ?_⟩
    obtain ⟨a, dx, u0, u1, rfl, h0, kk⟩ := h
    walk_at "go"
    refine ⟨a, _, dx, u0, rfl, h0, T.cl_Most, T.f_Most_names, fun H1 b1 h1 => ?_⟩
    walk_at "go"
    refine k_sfldx h1 T.cl_Most T.f_Most_seats (fun H2 b2 h2 => ?_) (by walk_at "pl")
    walk_at "go"
    exact kk H2 (b1.trans b2) (by rw [h2]; walk_at "pf")
end
end Lw
namespace Lw
open PySem PySem.Spec PyProof.Rows L2 Gx
section
variable {P : Program} {w : World} {K : PySem.W.Frag} {mg : Str → Option Value} {base : Heap} {f : Addr} {fd : FuncData}
theorem ok_Most_claims (F : FnP K "claims" "Most.claims" s_Most_claims f fd) (T : Txt K mg) (k_Beats : KCl P w K mg base 1 "Beats" ["self", "one", "other"] (sp_Beats___init__ K)) : FnOk P w K mg base (L2.CX P w) 3 f fd ["self", "outcome"] (sp_Most_claims K) := by
  refine F.ok sc_Most_claims (fun vs H Q E h => ?_) (fun cdv A outer s H vs Q E hr h => ?_)
  · obtain ⟨a, dx, p, PP, v, t, ns, k, rfl, _⟩ := h; rfl
  · refine ⟨_, (pss_cons (ps_if (PW.pt (pw_or (pt_not (pt_val (pe_callB (callK (K := K) (r := rIsi) rfl call_isi) (by rfl) T.n_isinstance (by decide +kernel) (pa_cons (pv 1) (pa_cons (pe_bltn (v := .ty "tuple") (by rfl) T.n_tuple (by decide +kernel) rfl) pa_nil))))) (pw_or1 (pt_cmpR (op_neK (K := K) rfl hr) (pe_callB (callK (K := K) (r := rLenU) rfl call_lenU) (by rfl) T.n_len (by decide +kernel) (pa_cons (pv 1) pa_nil)) (pe_fldK (K := K) rfl (pv 0) rfl) (nomark _))))) (pss_one (ps_raise rfl (takes_of rfl rfl rfl rfl) (pmk_own PySem.F.excBase_ValueError T.x_NoOutcome.1 T.g_NoOutcome T.x_NoOutcome.2.1 (raises_own T.x_NoOutcome.2.2.1 T.x_NoOutcome.2.2.2) rfl))) pss_nil) (pss_cons (ps_if (pt_cmpR (Mx.op_neX (K := K) rfl hr) (pv 1) (pe_callTy (callK (K := K) (r := rTupV) rfl call_tupV) (by rfl) T.n_tuple (by decide +kernel) (pa_cons (pe_lc (own := [("name", 5)]) (g := gName 5) (by rfl) sc_Most_claims.nd (pi_seqU (pe_fldK (K := K) rfl (pv 0) rfl)) (blkOk_by (own := [("name", 5)]) (N := ["self", "outcome", "found", "one", "other", "name"]) (sc := defScope s_Most_claims) (by decide +kernel)) (fun _ _ _ _ _ => pg_name (i := 5) sc_Most_claims.nd rfl (Or.inl rfl)) (fun _ _ _ _ _ => (pts_one (pt_cmpR (Mx.op_inMK (K := K) rfl hr) (pv 5) (pv 1) (by with_unfolding_all rfl)))) (fun _ _ _ _ _ => (pv 5))) pa_nil)) (nomark _)) (pss_one (ps_raise rfl (takes_of rfl rfl rfl rfl) (pmk_own PySem.F.excBase_ValueError T.x_NoOutcome.1 T.g_NoOutcome T.x_NoOutcome.2.1 (raises_own T.x_NoOutcome.2.2.1 T.x_NoOutcome.2.2.2) rfl))) pss_nil) (pss_cons (ps_set (i := 2) sc_Most_claims.nd rfl (Or.inl rfl) (pe_lst pa_nil)) (pss_cons (ps_for (passes_of rfl) rfl (pi_seqU (pv 1)) (pg_name (i := 3) sc_Most_claims.nd rfl (Or.inl rfl)) (pss_one (ps_for (passes_of rfl) rfl (pi_seqU (pe_fldK (K := K) rfl (pv 0) rfl)) (pg_name (i := 4) sc_Most_claims.nd rfl (Or.inl rfl)) (pss_one (ps_if (pt_cmpR (op_niUK (K := K) rfl hr) (pv 4) (pv 1) (by with_unfolding_all rfl)) (pss_one (ps_expr (pe_bmK (K := K) rfl PySem.F.plainAttrs_list PySem.F.slot_list_append PySem.F.type_list_append mt_append (pv 2) (pa_cons (pmake rfl k_Beats hr (by first | decide | omega) (pa_cons (pv 3) (pa_cons (pv 4) pa_nil))) pa_nil)))) pss_nil))))) (pss_one (ps_ret (pv 2))))))), ?_⟩
    obtain ⟨a, dx, p, PP, v, t, ns, k, rfl, ha, hp, n60, nnd, hnm, ht, t60, kk, ke⟩ := h
    cases t with
    | none =>
      obtain ⟨u, hu, hk⟩ := ht.oth
      walk_at "go"
      refine k_isi (.ty "tuple") hu hk ?_
      walk_at "go"
      exact ke rfl H (Same.refl H)
    | some os =>
    cases ht with
    | @tup q xs _ hq it =>
    have o60 := t60 os rfl
    have xl : xs.length = os.length := Mx.paired_lenM it
    replace kk : Mx.fitO ns k os → ∀ r H', Same H H' → Q r H' := fun f => kk (Mx.couldB_iff.mpr f)
    replace ke : ¬ Mx.fitO ns k os → ∀ H', Same H H' → E (.ref (He.ga K "NoOutcome")) none H' := fun f => ke (by cases e : Mx.couldB ns k (some os) with | false => rfl | true => exact absurd (Mx.couldB_iff.mp e) f)
    walk_at "go"
    refine k_isi (.ty "tuple") (ty_tup hq) (kit_ty (r := true) (by decide +kernel)) ?_
    walk_at "go"
    refine k_lenT ?_ hq
    rw [xl]
    walk_at "go"
    refine k_fldx ha T.cl_Most T.f_Most_seats (by walk_at "lk") ?_
    walk_at "go"
    refine k_ifn (fun c => ?_) (fun c => ?_)
    · walk_at "go"
      exact ke (fun z => c (by rw [z.1])) H (Same.refl H)
    walk_at "go"
    refine k_fldx ha T.cl_Most T.f_Most_names (by walk_at "lk") ?_
    walk_at "go"
    refine k_lcU (.inr hp) (fun D i ys H' => ys = ((ns.take i).filter fun n => decide (some n ∈ os)).map V.str ∧ Same H H') (fun D H' nD sD hD => ⟨rfl, sD⟩) (fun D i ys H' nD h => h.2) ?_ ?_
    · rintro D i x ys H' nD hx ⟨rfl, s⟩ hD
      obtain ⟨n, hn, rfl⟩ := Cm.get_map hx
      have hlen : ((ns.take i).filter fun n => decide (some n ∈ os)).length ≤ 60 := Nat.le_trans (List.length_filter_le ..) (by rw [List.length_take]; omega)
      refine k_lcB rfl ?_
      walk_at "go"
      refine ⟨q, xs, os.map (fun o => decide (o = some n)), rfl, seqT_same s hq, Mx.ceq_map (hnm n (List.mem_of_getElem? hn)).ok (Mx.pr_mp (fun _ _ h => h.same s) it), ?_⟩
      rw [Mx.any_map]
      walk_at "go"
      refine k_if (fun c => ?_) (fun c => ?_)
      · walk_at "go"
        refine ⟨_, hD, (by rw [sizeLine_eq, List.length_map]; omega), _, ⟨?_, But.same nD s But.upd⟩, upd_same⟩
        rw [take_snoc hn, List.filter_append]
        simp [c]
      · refine ⟨_, ⟨?_, s⟩, hD⟩
        rw [take_snoc hn, List.filter_append]
        simp [c]
    rintro D ys H1 nD ⟨rfl, s1⟩ hD
    rw [List.length_map, List.take_of_length_le (Nat.le_refl _)] at hD
    walk_at "go"
    refine k_tupL (SqL.of hD) (fun w H2 nw s2 hw => ?_)
    have s12 := s1.trans s2
    walk_at "go"
    rcases Mx.split_some os with hnone | ⟨zs, rfl⟩
    · have fl := Mx.few_names nnd hnone
      refine .inr ⟨q, w, xs, _, rfl, rfl, seqT_same s12 hq, SqT.of hw, by rw [List.length_map]; omega, fun j x y hx hy => ?_, ?_⟩
      · obtain ⟨o, ho, hi⟩ := Mx.paired_atM it (List.getElem?_eq_some_iff.mp hx).1 |>.imp fun _ h => h
        obtain ⟨n, hn, rfl⟩ := Cm.get_map hy
        obtain ⟨e1, e2, e3⟩ := hi
        rw [hx] at e1
        obtain rfl := Option.some.inj e1
        exact ⟨_, ((e3.same s12).ceq (hnm n (List.mem_filter.mp (List.mem_of_getElem? hn)).1).ok).1⟩
      walk_at "go"
      exact ke (Mx.none_unfit hnone) H2 s12
    obtain ⟨rfl, hok⟩ := Mx.it_strs it
    rw [Mx.filt_some] at hw
    have os_ : ∃ os : List Str, os = zs := ⟨zs, rfl⟩
    obtain ⟨os, rfl⟩ := os_
    rw [List.length_map] at c o60
    have sh1 : SeqAt.shaped (.tuple (os.map .str)) = true := Dt.Sh.ok (k := 1) (Dt.sh_tup fun x hx => by
      obtain ⟨n, hn, rfl⟩ := List.mem_map.mp hx
      exact Dt.sh_str (hok n hn))
    have sh2 : SeqAt.shaped (.tuple ((ns.filter (Co.has os)).map .str)) = true := Dt.Sh.ok (k := 1) (Dt.sh_tup fun x hx => by
      obtain ⟨n, hn, rfl⟩ := List.mem_map.mp hx
      exact Dt.sh_str (hnm n (List.mem_filter.mp hn).1).ok)
    refine .inl ?_
    refine k_neD (.tup (seqT_same s12 hq) (Dt.strz os)) (.tup (SqT.of hw) (Dt.strz _)) ?_ sh1 sh2
    rw [Co.eqv_tup]
    walk_at "go"
    refine k_ifn (fun c2 => ?_) (fun c2 => ?_)
    · walk_at "go"
      exact ke (fun z => c2 (Mx.fit_some.mp z).2) H2 s12
    have fits : Co.fit ns k os := ⟨by omega, c2⟩
    walk_at "go"
    refine k_lstx (fun f H3 nf s3 hf => ?_) (by simp)
    walk_at "go"
    have s03 := s12.trans s3
    have nf0 : H f = none := s12.free nf
    refine k_itUT (seqT_same s03 hq) ?_
    have bnd : ∀ i, (Co.mostA ns os (os.take i)).length ≤ 3600 := fun i => Nat.le_trans Co.most_len (Nat.mul_le_mul (Nat.le_trans (by rw [List.length_take]; omega) o60) n60)
    refine k_loopT (fun i σ H' => ∃ (t1 t2 : Option V) (vs : List V), σ = [some (.ref a), some (.ref q), some (.ref f), t1, t2, none] ∧ Same H H' ∧ H' f = some (.lst vs) ∧ Co.Cls K H' vs (Co.mostA ns os (os.take i))) ⟨none, none, [], rfl, s03, hf, .nil⟩ (fun i σ H' _ ⟨_, _, _, _, s, _⟩ => seqT_same s hq) ?_ ?_
    rotate_left
    · rintro σ H4 ⟨t1, t2, vs, rfl, s4, hf4, hc4⟩
      rw [List.length_map, List.take_of_length_le (Nat.le_refl _)] at hc4
      walk_at "go"
      exact kk (Mx.fit_some.mpr fits) _ H4 s4
    rintro i x σ H4 hx ⟨t1, t2, vs, rfl, s4, hf4, hc4⟩
    obtain ⟨o, ho, rfl⟩ := Cm.get_map hx
    walk_at "go"
    refine k_fldx (s4 _ _ ha) T.cl_Most T.f_Most_names (by walk_at "lk") ?_
    refine k_itUT (seqT_same s4 hp) ?_
    refine k_loopT (fun j σ H' => ∃ (t2 : Option V) (vs : List V), σ = [some (.ref a), some (.ref q), some (.ref f), some (.str o), t2, none] ∧ Same H H' ∧ H' f = some (.lst vs) ∧ Co.Cls K H' vs (Co.mostA ns os (os.take i) ++ ((ns.take j).filter fun t => !Co.has os t).map fun t => .beats o t))
      ⟨_, vs, rfl, s4, hf4, by simpa using hc4⟩ (fun j σ H' _ ⟨_, _, _, s, _⟩ => seqT_same s hp) ?_ ?_
    rotate_left
    · rintro σ H5 ⟨t2, vs, rfl, s5, hf5, hc5⟩
      rw [List.length_map, List.take_of_length_le (Nat.le_refl _)] at hc5
      refine ⟨_, _, vs, rfl, s5, hf5, ?_⟩
      have e : Co.mostA ns os (os.take (i + 1)) = Co.mostA ns os (os.take i) ++ (ns.filter fun t => !Co.has os t).map fun t => .beats o t := by
        unfold Co.mostA
        rw [take_snoc ho, List.flatMap_append]
        simp
      rw [e]
      exact hc5
    rintro j y σ H5 hy ⟨t2, vs, rfl, s5, hf5, hc5⟩
    obtain ⟨t, ht, rfl⟩ := Cm.get_map hy
    have vl : vs.length ≤ 10000 := by
      have h1 := hc5.len
      have h2 := bnd i
      have h3 : ((ns.take j).filter fun t => !Co.has os t).length ≤ 60 := Nat.le_trans (List.length_filter_le ..) (by rw [List.length_take]; omega)
      rw [List.length_append, List.length_map] at h1
      omega
    walk_at "go"
    refine Co.k_nothas (.inr (seqT_same s5 hq)) ?_
    walk_at "go"
    refine k_ifnb (fun c => ?_) (fun c => ?_)
    · walk_at "go"
      refine ⟨k_app0 hf5, ?_⟩
      walk_at "go"
      refine k_makex (fun a0 d0 A1 x0 xd0 g0 i0 o0 => ⟨a0, d0, _, _, rfl, i0, fun A2 c0 i0 => ⟨rfl, ?_⟩⟩)
      have s6 := But.same x0 g0 c0
      have hf6 := s6 _ _ hf5
      walk_at "go"
      refine k_app1 hf6 (by rw [sizeLine_eq]; omega) (fun H7 b7 hf7 => ?_)
      refine ⟨_, _, rfl, But.same nf0 (s5.trans s6) b7, hf7, ?_⟩
      rw [take_snoc ht, List.filter_append, List.map_append, ← List.append_assoc]
      simp only [List.filter_cons, c, List.filter_nil]
      exact ((hc5.same s6).snoc (c := .beats o t) ⟨d0, i0⟩).but b7 hf6
    · walk_at "go"
      refine ⟨_, _, rfl, s5, hf5, ?_⟩
      rw [take_snoc ht, List.filter_append]
      simpa [c] using hc5
end
end Lw
namespace Lw
open PySem PySem.Spec PyProof.Rows L2 Gx
section
variable {P : Program} {w : World} {K : PySem.W.Frag} {mg : Str → Option Value} {base : Heap} {f : Addr} {fd : FuncData}
theorem ok_Portion___init__ (F : FnP K "__init__" "Portion.__init__" s_Portion___init__ f fd) (T : Txt K mg) (s_Contest___init__ : SCl P w K mg base 1 "Contest" "__init__" ["self", "names"] (sp_Contest___init__ K)) : FnOk P w K mg base (L2.CX P w) 2 f fd ["self", "names", "share"] (sp_Portion___init__ K) := by
  refine F.ok sc_Portion___init__ (fun vs H Q E h => ?_) (fun cdv A outer s H vs Q E hr h => ?_)
  · obtain ⟨a, dx, u0, u1, rfl, _⟩ := h; rfl
  · refine ⟨_, (pss_cons (ps_expr (psup s_Contest___init__ hr (by first | decide | omega) (pa_cons (pv 0) (pa_cons (pv 1) pa_nil)))) (pss_one (ps_fld (pv 0) (pv 2) rfl))), ?_⟩
    obtain ⟨a, dx, u0, u1, rfl, h0, kk⟩ := h
    walk_at "go"
    refine ⟨a, _, dx, u0, rfl, h0, T.cl_Portion, T.f_Portion_names, fun H1 b1 h1 => ?_⟩
    walk_at "go"
    refine k_sfldx h1 T.cl_Portion T.f_Portion_share (fun H2 b2 h2 => ?_) (by walk_at "pl")
    walk_at "go"
    exact kk H2 (b1.trans b2) (by rw [h2]; walk_at "pf")
end
end Lw
namespace Lw
open PySem PySem.Spec PyProof.Rows L2 Gx
section
variable {P : Program} {w : World} {K : PySem.W.Frag} {mg : Str → Option Value} {base : Heap} {f : Addr} {fd : FuncData}
theorem ok_Portion_claims (F : FnP K "claims" "Portion.claims" s_Portion_claims f fd) (T : Txt K mg) (k_Over : KCl P w K mg base 1 "Over" ["self", "name", "share"] (sp_Over___init__ K)) (k_Under : KCl P w K mg base 1 "Under" ["self", "name", "share"] (sp_Under___init__ K)) : FnOk P w K mg base (L2.CX P w) 3 f fd ["self", "outcome"] (sp_Portion_claims K) := by
  refine F.ok sc_Portion_claims (fun vs H Q E h => ?_) (fun cdv A outer s H vs Q E hr h => ?_)
  · obtain ⟨a, dx, p, PP, z, v, t, ns, s, rfl, _⟩ := h; rfl
  · refine ⟨_, (pss_cons (ps_if (PW.pt (pw_or (pt_not (pt_val (pe_callB (callK (K := K) (r := rIsi) rfl call_isi) (by rfl) T.n_isinstance (by decide +kernel) (pa_cons (pv 1) (pa_cons (pe_bltn (v := .ty "tuple") (by rfl) T.n_tuple (by decide +kernel) rfl) pa_nil))))) (pw_or1 (pt_cmpR op_gt (pe_callB (callK (K := K) (r := rLenU) rfl call_lenU) (by rfl) T.n_len (by decide +kernel) (pa_cons (pv 1) pa_nil)) pe_int (nomark _))))) (pss_one (ps_raise rfl (takes_of rfl rfl rfl rfl) (pmk_own PySem.F.excBase_ValueError T.x_NoOutcome.1 T.g_NoOutcome T.x_NoOutcome.2.1 (raises_own T.x_NoOutcome.2.2.1 T.x_NoOutcome.2.2.2) rfl))) pss_nil) (pss_cons (ps_if (pt_cmpR (Mx.op_eqX (K := K) rfl hr) (pv 1) (pe_tup pa_nil) (nomark _)) (pss_one (ps_ret (pe_lc (own := [("name", 2)]) (g := gName 2) (by rfl) sc_Portion_claims.nd (pi_seqU (pe_fldK (K := K) rfl (pv 0) rfl)) (blkOk_by (own := [("name", 2)]) (N := ["self", "outcome", "name"]) (sc := defScope s_Portion_claims) (by decide +kernel)) (fun _ _ _ _ _ => pg_name (i := 2) sc_Portion_claims.nd rfl (Or.inl rfl)) (fun _ _ _ _ _ => pts_nil) (fun _ _ _ _ _ => (pmake rfl k_Under hr (by first | decide | omega) (pa_cons (pv 2) (pa_cons (pe_fldK (K := K) rfl (pv 0) rfl) pa_nil))))))) pss_nil) (pss_cons (ps_if (pt_cmpR (Mx.op_niMK (K := K) rfl hr) (pe_ix (ix_K (K := K) rfl) (pv 1) pe_int (fun _ _ => rfl)) (pe_fldK (K := K) rfl (pv 0) rfl) (by with_unfolding_all rfl)) (pss_one (ps_raise rfl (takes_of rfl rfl rfl rfl) (pmk_own PySem.F.excBase_ValueError T.x_NoOutcome.1 T.g_NoOutcome T.x_NoOutcome.2.1 (raises_own T.x_NoOutcome.2.2.1 T.x_NoOutcome.2.2.2) rfl))) pss_nil) (pss_one (ps_ret (pe_lst (pa_cons (pmake rfl k_Over hr (by first | decide | omega) (pa_cons (pe_ix (ix_K (K := K) rfl) (pv 1) pe_int (fun _ _ => rfl)) (pa_cons (pe_fldK (K := K) rfl (pv 0) rfl) pa_nil))) pa_nil))))))), ?_⟩
    obtain ⟨a, dx, p, PP, z, v, t, ns, s, rfl, ha, hp, hz, n60, hnm, ht, kk, ke⟩ := h
    cases t with
    | none =>
      obtain ⟨u, hu, hk⟩ := ht.oth
      walk_at "go"
      refine k_isi (.ty "tuple") hu hk ?_
      walk_at "go"
      exact ke rfl H (Same.refl H)
    | some os =>
    cases ht with
    | @tup q xs _ hq it =>
    have xl : xs.length = os.length := Mx.paired_lenM it
    walk_at "go"
    refine k_isi (.ty "tuple") (ty_tup hq) (kit_ty (r := true) (by decide +kernel)) ?_
    walk_at "go"
    refine k_lenT ?_ hq
    rw [xl]
    walk_at "go"
    refine k_if (fun c => ?_) (fun c => ?_)
    · walk_at "go"
      refine ke ?_ H (Same.refl H)
      match os, c with
      | [], c => simp at c
      | [_], c => simp at c
      | _ :: _ :: _, _ => rfl
    walk_at "go"
    refine k_tupx (fun e H1 ne s1 he => ?_) (by simp)
    walk_at "go"
    cases os with
    | nil =>
      cases it
      refine .inl ?_
      refine k_eqD (.tup (seqT_same s1 hq) (Dt.strz [])) (.tup (SqT.of he) (Dt.strz [])) ?_ rfl rfl
      rw [Co.eqv_tup]
      walk_at "go"
      refine k_if (fun _ => ?_) (fun c => absurd rfl c)
      walk_at "go"
      refine k_fldx (s1 _ _ ha) T.cl_Portion T.f_Portion_names (by walk_at "lk") ?_
      walk_at "go"
      refine k_lcU (.inr (seqT_same s1 hp)) (fun D i ys H' => Same H1 H' ∧ ys.length = i) (fun D H' nD sD hD => ⟨sD, rfl⟩) (fun D i ys H' nD h => h.1) ?_ ?_
      · rintro D i x ys H' nD hx ⟨s2, yl⟩ hD
        obtain ⟨n, hn, rfl⟩ := Cm.get_map hx
        have hi := (List.getElem?_eq_some_iff.mp hn).1
        refine k_lcB rfl ?_
        walk_at "go"
        refine k_fldx (s2 _ _ (s1 _ _ ha)) T.cl_Portion T.f_Portion_share (by walk_at "lk") ?_
        walk_at "go"
        refine k_makex (fun a0 d0 A1 x0 xd0 g0 i0 o0 => ⟨a0, d0, _, _, rfl, i0, fun A2 c0 i0 => ⟨rfl, ?_⟩⟩)
        have s6 := But.same x0 g0 c0
        have hD6 := s6 _ _ hD
        exact ⟨_, hD6, (by rw [sizeLine_eq]; omega), _, ⟨But.same nD (s2.trans s6) But.upd, by simp [yl]⟩, upd_same⟩
      · rintro D ys H2 nD ⟨s2, _⟩ hD
        exact kk rfl _ H2 (s1.trans s2)
    | cons o r =>
    cases r with
    | cons o2 r2 => exact absurd (by rw [List.length_cons, List.length_cons]; omega) c
    | nil =>
      rcases it with _ | ⟨hx, it2⟩
      cases it2
      rename_i x
      have hq1 := seqT_same s1 hq
      refine .inr ⟨q, e, [x], [], rfl, rfl, hq1, SqT.of he, by simp, fun j x y _ hy => by simp at hy, ?_⟩
      walk_at "go"
      refine k_ixT hq1 (v := x) (atI_nat (j := 0) rfl) ?_
      walk_at "go"
      refine k_fldx (s1 _ _ ha) T.cl_Portion T.f_Portion_names (by walk_at "lk") ?_
      refine ⟨p, _, _, rfl, seqT_same s1 hp, Mx.ceq_names (hx.same s1) fun n hn => (hnm n hn).ok, ?_⟩
      have e1 : (ns.map fun n => decide (o = some n)).any id = ns.any fun n => decide (o = some n) := by rw [List.any_map]; rfl
      rw [if_pos rfl, e1]
      walk_at "go"
      cases e2 : ns.any fun n => decide (o = some n) with
      | false =>
        walk_at "go"
        exact ke e2 H1 s1
      | true =>
      walk_at "go"
      refine k_ixT hq1 (v := x) (atI_nat (j := 0) rfl) ?_
      walk_at "go"
      refine k_fldx (s1 _ _ ha) T.cl_Portion T.f_Portion_share (by walk_at "lk") ?_
      obtain ⟨n, hn, e3⟩ := List.any_eq_true.mp e2
      have e3 : o = some n := of_decide_eq_true e3
      subst e3
      cases hx with
      | str _ =>
      walk_at "go"
      refine k_makex (fun a0 d0 A1 x0 xd0 g0 i0 o0 => ⟨a0, d0, _, _, rfl, i0, fun A2 c0 i0 => ⟨rfl, ?_⟩⟩)
      have s6 := But.same x0 g0 c0
      walk_at "go"
      refine k_lstx (fun l H3 nl s3 h3 => ?_) (by simp [sizeLine_eq])
      exact kk e2 _ H3 ((s1.trans s6).trans s3)
end
end Lw
namespace Lw
open PySem PySem.Spec PyProof.Rows L2 Gx
section
variable {P : Program} {w : World} {K : PySem.W.Frag} {mg : Str → Option Value} {base : Heap} {f : Addr} {fd : FuncData}
theorem ok__law_source (F : FnP K "_law_source" "_law_source" s__law_source f fd) (T : Txt K mg) : FnOk P w K mg base (L2.CX P w) 1 f fd ["_law_script"] (sp__law_source K) := by
  refine F.ok sc__law_source (fun vs H Q E h => ?_) (fun cdv A outer s H vs Q E hr h => ?_)
  · obtain ⟨a, ns, rfl, _⟩ := h; rfl
  · refine ⟨_, (pss_cons (ps_set (i := 1) sc__law_source.nd rfl (Or.inl rfl) (pe_callTy (callK (K := K) (r := rLstU) rfl call_lstU) (by rfl) T.n_list (by decide +kernel) (pa_cons (pe_slice (sl_K (K := K) rfl) (pv 0) (po_some pe_int) (po_some pe_int)) pa_nil))) (C8.pss_cut (ps_if (PW.pt (pw_or (pt_cmpR (op_eqK (K := K) rfl hr) (pv 1) (pe_lst pa_nil) (nomark _)) (pw_or1 (pt_cmpR (op_eqK (K := K) rfl hr) (pe_op op_modN (pe_ix (ix_K (K := K) rfl) (pv 0) pe_int (fun _ _ => rfl)) pe_int) pe_int (nomark _))))) (pss_cons (ps_set (i := 3) sc__law_source.nd rfl (Or.inl rfl) (pe_op (op_addK (K := K) rfl) pe_int (pe_op op_modN (pe_callB (callK (K := K) (r := rSum) rfl (cr_sum rfl)) (by rfl) T.n_sum (by decide +kernel) (pa_cons (pe_lc (own := [("_law_k", 2), ("_law_cell", 5)]) (g := (gTup _ 2 (gCons (gName 2) (gCons (gName 5) gNil)))) (by rfl) sc__law_source.nd (pi_enum (by rfl) T.n_enumerate (pa_cons (pe_slice (sl_K (K := K) rfl) (pv 0) po_none (po_some pe_int)) pa_nil)) (blkOk_by (own := [("_law_k", 2), ("_law_cell", 5)]) (N := ["_law_script", "_law_cells", "_law_k", "_law_number", "_law_other", "_law_cell"]) (sc := defScope s__law_source) (by decide +kernel)) (fun _ _ _ _ _ => (pg_tup rfl (pgs_cons (pg_name (i := 2) sc__law_source.nd rfl (Or.inl rfl)) (pgs_cons (pg_name (i := 5) sc__law_source.nd rfl (Or.inl rfl)) pgs_nil)))) (fun _ _ _ _ _ => pts_nil) (fun _ _ _ _ _ => (pe_op (op_mulK (K := K) rfl) (pe_op op_modN (pv 5) pe_int) (pe_op (op_addK (K := K) rfl) (pv 2) pe_int)))) pa_nil)) pe_int))) (pss_cons (ps_set (i := 1) sc__law_source.nd rfl (Or.inl rfl) (pe_lst pa_nil)) (pss_one (ps_for (passes_of rfl) rfl (pi_range1 rfl T.n_range (pa_cons pe_int pa_nil)) (pg_name (i := 2) sc__law_source.nd rfl (Or.inl rfl)) (pss_cons (ps_set (i := 3) sc__law_source.nd rfl (Or.inl rfl) (pe_op op_modN (pe_op (op_addK (K := K) rfl) (pe_op (op_mulK (K := K) rfl) (pv 3) pe_int) (pv 2)) pe_int)) (pss_cons (ps_set (i := 4) sc__law_source.nd rfl (Or.inl rfl) (pe_op op_modN (pe_op (op_mulK (K := K) rfl) (pe_op op_modN (pe_op (op_mulK (K := K) rfl) (pv 3) (pv 3)) pe_int) pe_int) pe_int)) (pss_one (ps_expr (pe_bmK (K := K) rfl PySem.F.plainAttrs_list PySem.F.slot_list_append PySem.F.type_list_append mt_append (pv 1) (pa_cons (pe_op (op_addK (K := K) rfl) (pv 3) (pe_op (op_mulK (K := K) rfl) pe_int (pv 4))) pa_nil)))))))))) pss_nil) (pss_one (ps_ret (pe_op (op_addK (K := K) rfl) (pe_lst (pa_cons pe_int pa_nil)) (pv 1)))))), ?_⟩
    obtain ⟨a, ns, rfl, hS, hl, kk⟩ := h
    walk_at "go"
    refine k_slL hS (fun p1 H1 n1 s1 h1 => ?_)
    rw [Sr.cut1] at h1
    walk_at "go"
    refine k_lstL (SqL.of h1) (fun c0 H2 n2 s2 h2 => ?_)
    walk_at "go"
    have e1 : ((ns.map V.int).drop 1).take 62 = ((ns.drop 1).take 62).map V.int := by rw [List.map_take, List.map_drop]
    rw [e1] at h2
    have fin : ∀ (c : Addr) (cs : List Int) (t1 t2 t3 : Option V) H', Same H H' → H' c = some (.lst (cs.map V.int)) → cs ≠ [] → cs.length ≤ 62 → ∀ (D : Ends), D.rt = Q →
        tRet (tOp (rAddU K) (tLst (tCons (tC (.int 0)) tNil)) (tVar 1)) D [some (.ref a), some (.ref c), t1, t2, t3, none] H' := fun c cs t1 t2 t3 H' s h ne hle D eD => by
      walk_at "go"
      refine k_lstx (fun p8 H8 n8 s8 h8 => ?_) (by simp [sizeLine_eq])
      walk_at "go"
      refine k_addL h8 (s8 _ _ h) (fun p9 H9 n9 s9 h9 => ?_) (by simp [sizeLine_eq]; omega)
      rw [eD]
      refine kk p9 (0 :: cs) H9 ((s.trans s8).trans s9) ?_ h9 ⟨0, cs, rfl, Int.le_refl 0, ne, hle⟩
      cases q : H p9 with
      | none => rfl
      | some o => exact absurd ((s.trans s8) _ _ q) (by rw [n9]; simp)
    have s02 := s1.trans s2
    refine k_cut (fun σ H' => ∃ (c : Addr) (cs : List Int) (t1 t2 t3 : Option V), Same H H' ∧ H' c = some (.lst (cs.map V.int)) ∧ cs ≠ [] ∧ cs.length ≤ 62 ∧ σ = [some (.ref a), some (.ref c), t1, t2, t3, none]) ?_ ?_
    rotate_left
    · rintro σ H' ⟨c, cs, t1, t2, t3, s, h, ne, hle, rfl⟩
      exact fin c cs t1 t2 t3 H' s h ne hle _ rfl
    have other : ∀ (b : Bool) H3, Same H H3 → (H3 c0 = some (.lst (((ns.drop 1).take 62).map V.int))) → (b = false → ((ns.drop 1).take 62) ≠ []) → True := fun _ _ _ _ _ => trivial
    refine k_evT (fun b H3 => Same H H3 ∧ H3 c0 = some (.lst (((ns.drop 1).take 62).map V.int)) ∧ (b = false → ((ns.drop 1).take 62) ≠ [])) (fun Q' kq => ?_) ?_
    · walk_at "go"
      refine k_lstx (fun p3 H3 n3 s3 h3 => ?_) (by simp)
      refine k_eqD (Dk.dp_ints (SqL.of (s3 _ _ h2))) (.lst (SqL.of h3) .nil) ?_ (Dk.shaped_ints _) rfl
      walk_at "go"
      have s03 := s02.trans s3
      by_cases c : ((ns.drop 1).take 62) = []
      · rw [c, show PyData.eqv (.list (([] : List Int).map PyData.int)) (.list []) = true by simp [PyData.eqv, PyData.eqvAll]]
        walk_at "go"
        exact kq _ _ ⟨s03, s3 _ _ h2, fun z => nomatch z⟩
      · have e : PyData.eqv (.list (((ns.drop 1).take 62).map PyData.int)) (.list []) = false := by
          cases q : ((ns.drop 1).take 62) with
          | nil => exact absurd q c
          | cons x r => simp [PyData.eqv, PyData.eqvAll]
        rw [e]
        walk_at "go"
        obtain ⟨n, r, rfl⟩ : ∃ n r, ns = n :: r := by
          cases ns with
          | nil => simp at c
          | cons n r => exact ⟨n, r, rfl⟩
        refine k_ixL (seqL_same s03 hS) (v := .int n) (atI_nat (j := 0) rfl) ?_
        walk_at "go"
        exact kq _ _ ⟨s03, s3 _ _ h2, fun _ => c⟩
    rintro b H3 ⟨s03, h3, hb⟩
    cases b with
    | false =>
      walk_at "go"
      exact ⟨c0, _, _, _, _, s03, h3, hb rfl, by rw [List.length_take]; omega, rfl⟩
    | true =>
      walk_at "go"
      refine k_slL (seqL_same s03 hS) (fun p4 H4 n4 s4 h4 => ?_)
      rw [Sr.cut63, List.take_of_length_le (by simpa using hl)] at h4
      walk_at "go"
      refine k_enumx (SqL.of h4) ?_
      refine k_lcP enum_it (fun D i ys H' => Same H4 H' ∧ (∃ zs : List Int, ys = zs.map V.int) ∧ ys.length = i) (fun D H' nD sD hD => ⟨sD, ⟨[], rfl⟩, rfl⟩) (fun D i ys H' nD h => seqL_same h.1 (SqL.of h4)) ?_ ?_
      · rintro D i T ys G1 G2 nD hi ⟨sG, ⟨zs, rfl⟩, hz⟩ nT sT hT hD
        have hi2 : i < ns.length := by simpa using hi
        have ex : (ns.map V.int).getD i .non = .int (ns[i]'hi2) := by simp [hi2]
        rw [ex] at hT
        refine k_lcT ?_
        refine k_gtup (SqT.of hT) rfl ?_
        walk_at "go"
        refine ⟨rfl, ?_⟩
        walk_at "go"
        refine k_mulB (m := 40) (n := 20) (by omega) (by omega) (by decide) ?_
        exact ⟨_, hD, (by rw [sizeLine_eq]; omega), _, ⟨But.same nD (sG.trans sT) But.upd, ⟨zs ++ [_], by simp; rfl⟩, by simp at hz ⊢; omega⟩, upd_same⟩
      · rintro D ys H5 nD ⟨s5, ⟨zs, rfl⟩, hz⟩ hD
        walk_at "go"
        refine k_sum (SqL.of hD) ?_
        walk_at "go"
        refine k_lstx (fun c1 H6 n6 s6 h6 => ?_) (by simp)
        walk_at "go"
        have s06 := ((s03.trans s4).trans s5).trans s6
        have v0 := Int.emod_nonneg zs.sum (show (2147483629 : Int) ≠ 0 by decide)
        have v1 := Int.emod_lt_of_pos zs.sum (show (0 : Int) < 2147483629 by decide)
        refine k_rng1 (by decide) ?_
        refine k_loopR (n := 40) (fun i σ H' => ∃ (t1 t2 : Option V) (x : Int) (cs : List Int), σ = [some (.ref a), some (.ref c1), t1, some (.int x), t2, none] ∧ Same H H' ∧ H' c1 = some (.lst (cs.map V.int)) ∧ cs.length = i ∧ x.natAbs < 2 ^ 33) ⟨none, none, _, [], rfl, s06, h6, rfl, by omega⟩ ?_ ?_
        · rintro i σ H7 hi ⟨t1, t2, x, cs, rfl, s7, h7, hcs, hx⟩
          walk_at "go"
          refine k_mulB (m := 33) (n := 20) hx (by decide) (by decide) ?_
          walk_at "go"
          have y0 := Int.emod_nonneg (x * 48271 + (i : Int)) (show (2147483647 : Int) ≠ 0 by decide)
          have y1 := Int.emod_lt_of_pos (x * 48271 + (i : Int)) (show (0 : Int) < 2147483647 by decide)
          generalize (x * 48271 + (i : Int)) % 2147483647 = y at y0 y1
          refine k_mulB (m := 33) (n := 33) (by omega) (by omega) (by decide) ?_
          walk_at "go"
          have z0 := Int.emod_nonneg (y * y) (show (2147483629 : Int) ≠ 0 by decide)
          have z1 := Int.emod_lt_of_pos (y * y) (show (0 : Int) < 2147483629 by decide)
          generalize (y * y) % 2147483629 = z at z0 z1
          refine k_mulB (m := 33) (n := 20) (by omega) (by decide) (by decide) ?_
          walk_at "go"
          refine ⟨k_app0 h7, ?_⟩
          walk_at "go"
          refine k_mulB (m := 33) (n := 33) (by decide) (by omega) (by decide) ?_
          walk_at "go"
          refine k_app1 h7 (by rw [List.length_map, sizeLine_eq]; omega) (fun H8 b8 h8 => ?_)
          refine ⟨_, _, y, cs ++ [_], rfl, But.same ?_ s7 b8, by rw [h8]; simp; rfl, by simp [hcs], by omega⟩
          cases q : H c1 with
          | none => rfl
          | some o => exact absurd (((s03.trans s4).trans s5) _ _ q) (by rw [n6]; simp)
        · rintro σ H7 ⟨t1, t2, x, cs, rfl, s7, h7, hcs, hx⟩
          exact ⟨c1, cs, _, _, _, s7, h7, (fun z => by rw [z] at hcs; cases hcs), by omega, rfl⟩
end
end Lw
namespace Lw
open PySem PySem.Spec PyProof.Rows L2 Gx
section
variable {P : Program} {w : World} {K : PySem.W.Frag} {mg : Str → Option Value} {base : Heap} {f : Addr} {fd : FuncData}
theorem ok__law_draw (F : FnP K "_law_draw" "_law_draw" s__law_draw f fd) (T : Txt K mg) : FnOk P w K mg base (L2.CX P w) 1 f fd ["_law_source_here", "_law_most"] (sp__law_draw K) := by
  refine F.ok sc__law_draw (fun vs H Q E h => ?_) (fun cdv A outer s H vs Q E hr h => ?_)
  · obtain ⟨l, cs, m, rfl, _⟩ := h; rfl
  · refine ⟨_, (pss_cons (ps_set (i := 2) sc__law_draw.nd rfl (Or.inl rfl) (pe_op (op_addK (K := K) rfl) pe_int (pe_op op_modN (pe_ix (ix_K (K := K) rfl) (pv 0) pe_int (fun _ _ => rfl)) (pe_op op_sub (pe_callB (callK (K := K) (r := rLenU) rfl call_lenU) (by rfl) T.n_len (by decide +kernel) (pa_cons (pv 0) pa_nil)) pe_int)))) (pss_cons (ps_asg (pe_op (op_addK (K := K) rfl) (pe_ix (ix_K (K := K) rfl) (pv 0) pe_int (fun _ _ => rfl)) pe_int) (pg_sub (pv 0) pe_int set_list)) (pss_cons (ps_set (i := 3) sc__law_draw.nd rfl (Or.inl rfl) (pe_ix (ix_K (K := K) rfl) (pv 0) (pv 2) (fun _ _ => rfl))) (pss_cons (ps_asg (pe_op op_fdivG (pv 3) (pv 1)) (pg_sub (pv 0) (pv 2) set_list)) (pss_one (ps_ret (pe_op op_modN (pv 3) (pv 1)))))))), ?_⟩
    obtain ⟨l, cs, m, rfl, hl, ⟨k, r, rfl, k0, ne, hr⟩, m1, m2, kk⟩ := h
    have hpos : 0 < r.length := List.length_pos_iff.mpr ne
    walk_at "go"
    refine k_ixL (SqL.of hl) (v := .int k) (atI_nat (j := 0) rfl) ?_
    walk_at "go"
    refine k_lenL ?_ (SqL.of hl)
    walk_at "go"
    have hlen : ((((k :: r).map V.int).length : Nat) : Int) - 1 = (r.length : Int) := by simp
    rw [hlen]
    walk_at "go"
    obtain ⟨j, ej⟩ := Int.eq_ofNat_of_zero_le (show 0 ≤ k % (r.length : Int) from Int.emod_nonneg _ (by omega))
    have hj : j < r.length := by
      have := Int.emod_lt_of_pos k (show (0 : Int) < (r.length : Int) by omega)
      omega
    rw [ej]
    walk_at "go"
    refine k_ixL (SqL.of hl) (v := .int k) (atI_nat (j := 0) rfl) ?_
    walk_at "go"
    refine k_setL (j := 0) hl (ixN_nat (j := 0) (by simp)) (fun H1 b1 h1 => ?_)
    walk_at "go"
    have e1 : ((k :: r).map V.int).set 0 (.int (k + 1)) = ((k + 1) :: r).map V.int := rfl
    rw [e1] at h1
    have e2 : (1 : Int) + (j : Int) = ((j + 1 : Nat) : Int) := by omega
    rw [e2]
    refine k_ixL (SqL.of h1) (v := .int (r[j]'hj)) (atI_nat (j := j + 1) (by simp [hj])) ?_
    walk_at "go"
    refine k_setL (j := j + 1) h1 (ixN_nat (by simp; omega)) (fun H2 b2 h2 => ?_)
    walk_at "go"
    refine kk _ ((k + 1) :: r.set j (r[j]'hj / m)) H2 (b1.trans b2) ?_ ⟨k + 1, _, rfl, by omega, fun z => ?_, by simpa using hr⟩ (Int.emod_nonneg _ (by omega)) (Int.emod_lt_of_pos _ (by omega))
    · rw [h2]
      simp [List.map_set]
    · have h := congrArg List.length z
      rw [List.length_set] at h
      exact ne (List.length_eq_zero_iff.mp h)
end
end Lw
namespace Lw
open PySem PySem.Spec PyProof.Rows L2 Gx
section
variable {P : Program} {w : World} {K : PySem.W.Frag} {mg : Str → Option Value} {base : Heap} {f : Addr} {fd : FuncData}
theorem ok__law_unlike (F : FnP K "_law_unlike" "_law_unlike" s__law_unlike f fd) (T : Txt K mg) (c__law_draw : Cl P w K mg base 1 "_law_draw" ["_law_source_here", "_law_most"] (sp__law_draw K)) : FnOk P w K mg base (L2.CX P w) 2 f fd ["_law_source_here", "_law_many"] (sp__law_unlike K) := by
  refine F.ok sc__law_unlike (fun vs H Q E h => ?_) (fun cdv A outer s H vs Q E hr h => ?_)
  · obtain ⟨l, cs, m, rfl, _⟩ := h; rfl
  · refine ⟨_, (pss_cons (ps_set (i := 2) sc__law_unlike.nd rfl (Or.inr rfl) pe_str) (pss_cons (ps_setLc (i := 4) (own := [("_law_k", 3)]) (g := gName 3) (by rfl) sc__law_unlike.nd rfl rfl (sw_true rfl rfl rfl (by decide +kernel)) (pi_range1 rfl T.n_range (pa_cons (pe_op (op_addK (K := K) rfl) pe_int (pcall c__law_draw hr (by first | decide | omega) (takes_of rfl rfl rfl rfl) (pa_cons (pv 0) (pa_cons pe_int pa_nil)))) pa_nil)) (blkOk_by (own := [("_law_k", 3)]) (N := ["_law_source_here", "_law_many", "_law_letters", "_law_k", "_law_base", "_law_at", "_law_first", "_law_found"]) (sc := defScope s__law_unlike) (by decide +kernel)) (fun _ _ _ _ _ => pg_name (i := 3) sc__law_unlike.nd rfl (Or.inl rfl)) (fun _ _ _ _ _ => pts_nil) (fun _ _ _ _ _ => (pe_ix (ix_K (K := K) rfl) (pv 2) (pcallN c__law_draw hr (by first | decide | omega) (pa_cons (pv 0) (pa_cons pe_int pa_nil))) (fun _ _ => rfl)))) (pss_cons (ps_set (i := 5) sc__law_unlike.nd rfl (Or.inl rfl) (pcall c__law_draw hr (by first | decide | omega) (takes_of rfl rfl rfl rfl) (pa_cons (pv 0) (pa_cons (pe_callB (callK (K := K) (r := rLenU) rfl call_lenU) (by rfl) T.n_len (by decide +kernel) (pa_cons (pv 4) pa_nil)) pa_nil)))) (pss_cons (ps_set (i := 6) sc__law_unlike.nd rfl (Or.inl rfl) (pcall c__law_draw hr (by first | decide | omega) (takes_of rfl rfl rfl rfl) (pa_cons (pv 0) (pa_cons pe_int pa_nil)))) (pss_cons (ps_set (i := 7) sc__law_unlike.nd rfl (Or.inl rfl) (pe_lst pa_nil)) (pss_cons (ps_for (passes_of rfl) rfl (pi_range1 rfl T.n_range (pa_cons (pv 1) pa_nil)) (pg_name (i := 3) sc__law_unlike.nd rfl (Or.inl rfl)) (pss_cons (ps_asg (pe_ix (ix_K (K := K) rfl) (pv 2) (pe_op op_modN (pe_op (op_addK (K := K) rfl) (pv 6) (pv 3)) pe_int) (fun _ _ => rfl)) (pg_sub (pv 4) (pv 5) set_list)) (pss_one (ps_expr (pe_bmK (K := K) rfl PySem.F.plainAttrs_list PySem.F.slot_list_append PySem.F.type_list_append mt_append (pv 7) (pa_cons (pe_m1 PySem.F.slot_str_join PySem.F.type_str_join (mt_joinK (K := K) rfl) pe_str (pv 4)) pa_nil)))))) (C8.pss_cut (ps_if (pt_cmpR (op_eqK (K := K) rfl hr) (pcall c__law_draw hr (by first | decide | omega) (takes_of rfl rfl rfl rfl) (pa_cons (pv 0) (pa_cons pe_int pa_nil))) pe_int (nomark _)) (pss_one (ps_asg (pe_op (op_addK (K := K) rfl) (pe_ix (ix_K (K := K) rfl) (pv 7) pe_int (fun _ _ => rfl)) (pe_ix (ix_K (K := K) rfl) (pv 2) (pcall c__law_draw hr (by first | decide | omega) (takes_of rfl rfl rfl rfl) (pa_cons (pv 0) (pa_cons pe_int pa_nil))) (fun _ _ => rfl))) (pg_sub (pv 7) pe_int set_list))) pss_nil) (pss_one (ps_ret (pv 7)))))))))), ?_⟩
    obtain ⟨l, cs, m, rfl, hl, hsr, m2, m9, kk⟩ := h
    walk_at "go"
    refine ⟨l, cs, 7, rfl, hl, hsr, by decide, by decide, fun r cs1 H1 b1 hl1 sr1 r0 r1 => ?_⟩
    walk_at "go"
    obtain ⟨z, ez⟩ := Int.eq_ofNat_of_zero_le (show 0 ≤ 1 + r by omega)
    have hz : 1 ≤ z ∧ z ≤ 7 := by omega
    rw [ez]
    refine k_rng1 (by omega) ?_
    rw [show ((z : Int)).toNat = z by omega]
    refine k_lcR (fun D i ys H' => ∃ (ks : List Nat) (cs2 : List Int), ys = (ks.map Pl.one).map V.str ∧ ks.length = i ∧ Pl.Letters ks ∧ But l H1 H' ∧ H' l = some (.lst (cs2.map V.int)) ∧ Sr.Src cs2) (fun D H' nD sD hD => ⟨[], cs1, rfl, rfl, fun _ h => (nomatch h), But.of sD, sD _ _ hl1, sr1⟩) ?_ ?_
    · rintro D i ys H' nD hi ⟨ks, cs2, rfl, hc, hL, bl, hl2, sr2⟩ hD
      have nlD : l ≠ D := ne_of_none hl1 nD
      refine k_lcB rfl ?_
      walk_at "go"
      refine ⟨l, cs2, 26, rfl, hl2, sr2, by decide, by decide, fun r cs3 H3 b3 hl3 sr3 r0 r1 => ?_⟩
      refine k_ixS (by rw [sizeLine_eq]; decide +kernel) (Pl.abc_at r0 r1) ?_
      have hD3 := b3 _ _ (Ne.symm nlD) hD
      refine ⟨_, hD3, (by rw [sizeLine_eq]; simp; omega), _, ⟨ks ++ [_], cs3, by simp; rfl, by simp [hc], ?_, ?_, ?_, sr3⟩, upd_same⟩
      · intro c hc2
        rcases List.mem_append.mp hc2 with h | h
        · exact hL c h
        · rw [List.mem_singleton.mp h]; omega
      · intro a o n h
        have na : a ≠ D := ne_of_none h nD
        rw [upd_ne na]
        exact b3 _ _ n (bl _ _ n h)
      · rw [upd_ne nlD]; exact hl3
    rintro b ys H2 nb ⟨ks, cs2, rfl, hc, hL, bl2, hl2, sr2⟩ hb
    have nlb : l ≠ b := ne_of_none hl1 nb
    walk_at "go"
    refine k_lenL ?_ (SqL.of hb)
    walk_at "go"
    have hblen : ((ks.map Pl.one).map V.str).length = z := by simp [hc]
    rw [hblen]
    refine ⟨l, cs2, (z : Int), rfl, hl2, sr2, by omega, by omega, fun r3 cs3 H3 b3 hl3 sr3 r30 r31 => ?_⟩
    obtain ⟨at_, ea⟩ := Int.eq_ofNat_of_zero_le r30
    have hat : at_ < z := by omega
    rw [ea]
    walk_at "go"
    refine ⟨l, cs3, 26, rfl, hl3, sr3, by decide, by decide, fun c0 cs4 H4 b4 hl4 sr4 c00 c01 => ?_⟩
    walk_at "go"
    refine k_lstx (fun p H5 np s5 hp => ?_) (by simp)
    walk_at "go"
    have hl5 := s5 _ _ hl4
    have hb5 := s5 _ _ (b4 _ _ (Ne.symm nlb) (b3 _ _ (Ne.symm nlb) hb))
    have nbp : b ≠ p := ne_of_none (b4 _ _ (Ne.symm nlb) (b3 _ _ (Ne.symm nlb) hb)) np
    have nlp : l ≠ p := ne_of_none hl4 np
    have bl5 : But l H H5 := fun a o n h => s5 _ _ (b4 _ _ n (b3 _ _ n (bl2 _ _ n (b1 _ _ n h))))
    have nob : ∀ {a : Addr} {o : HO}, a ≠ l → H a = some o → a ≠ b ∧ a ≠ p := fun {a o} n h => ⟨fun e => by subst e; exact absurd (b1 _ _ n h) (by rw [nb]; simp), fun e => by subst e; exact absurd (b4 _ _ n (b3 _ _ n (bl2 _ _ n (b1 _ _ n h)))) (by rw [np]; simp)⟩
    refine k_rng1 (by omega) ?_
    rw [show ((m : Int)).toNat = m by omega]
    refine k_loopR (n := m) (fun i σ H' => ∃ (t : Option V) (ks2 : List Nat), σ = [some (.ref l), some (.int (m : Int)), some (.str Pl.abc), t, some (.ref b), some (.int (at_ : Int)), some (.int c0), some (.ref p)] ∧
      H' l = some (.lst (cs4.map V.int)) ∧ But l H H' ∧ H' b = some (.lst ((ks2.map Pl.one).map V.str)) ∧ ks2.length = z ∧ (∀ c, ks2.set at_ c = ks.set at_ c) ∧ H' p = some (.lst ((Pl.some_ ks at_ c0 i).map V.str)))
      ⟨_, ks, rfl, hl5, bl5, hb5, hc, fun _ => rfl, hp⟩ ?_ ?_
    · rintro i σ H6 hi ⟨t, ks2, rfl, hl6, bl6, hb6, hc2, hset, hp6⟩
      walk_at "go"
      refine k_ixS (by rw [sizeLine_eq]; decide +kernel) (Pl.abc_at (by omega) (by omega)) ?_
      walk_at "go"
      refine k_setL (j := at_) hb6 (ixN_nat (by simp; omega)) (fun H7 b7 hb7 => ?_)
      walk_at "go"
      have hp7 := b7 _ _ (Ne.symm nbp) hp6
      refine ⟨k_app0 hp7, ?_⟩
      walk_at "go"
      have hx : ((ks2.map Pl.one).map V.str).set at_ (.str ⟨#[97 + ((c0 + (i : Int)) % 26).toNat]⟩) = ((ks2.set at_ (97 + ((c0 + (i : Int)) % 26).toNat)).map Pl.one).map V.str := by
        rw [List.map_set, List.map_set]
        rfl
      rw [hx] at hb7
      refine k_join (.inl (SqL.of hb7)) (by rw [Pl.sum_ones, show (Str.ofString "").length = 0 by decide +kernel]; simp; omega) ?_
      walk_at "go"
      have e2 := Pl.join_ones (ks2.set at_ (97 + ((c0 + (i : Int)) % 26).toNat))
      refine k_app1 hp7 (by rw [sizeLine_eq]; simp [Pl.some_len]; omega) (fun H8 b8 hp8 => ?_)
      refine ⟨_, ks2.set at_ (97 + ((c0 + (i : Int)) % 26).toNat), rfl, ?_, ?_, b8 _ _ nbp hb7, by simp [hc2], fun c => by rw [List.set_set, hset], ?_⟩
      · exact b8 _ _ nlp (b7 _ _ nlb hl6)
      · intro a o n h
        obtain ⟨n1, n2⟩ := nob n h
        exact b8 _ _ n2 (b7 _ _ n1 (bl6 _ _ n h))
      · rw [hp8, Pl.some_succ, List.map_append]
        have e3 : Txt.join (Str.ofString "") ((ks2.set at_ (97 + ((c0 + (i : Int)) % 26).toNat)).map Pl.one) = Pl.nm ks at_ (97 + ((c0 + (i : Int)) % 26).toNat) := by
          unfold Pl.nm
          rw [← hset]
          exact e2
        rw [e3]
        rfl
    rintro σ H6 ⟨t, ks2, rfl, hl6, bl6, hb6, hc2, hset, hp6⟩
    have nd := Pl.some_nd (show at_ < ks.length by omega) c0 m9
    have hnm := Pl.some_nm (k := at_) hL (by omega) (by omega) c0 m
    have hlen := Pl.some_len ks at_ c0 m
    have hsz := @Pl.some_size ks at_ c0 m
    generalize Pl.some_ ks at_ c0 m = ns at hp6 nd hnm hlen hsz
    have npH : H p = none := by
      cases q : H p with
      | none => rfl
      | some o =>
        have n : p ≠ l := Ne.symm nlp
        exact absurd (b4 _ _ n (b3 _ _ n (bl2 _ _ n (b1 _ _ n q)))) (by rw [np]; simp)
    refine k_cut (fun σ H' => ∃ (ns : List Str) (cs5 : List Int), σ = [some (.ref l), some (.int (m : Int)), some (.str Pl.abc), t, some (.ref b), some (.int (at_ : Int)), some (.int c0), some (.ref p)] ∧ But l H H' ∧ H' l = some (.lst (cs5.map V.int)) ∧ Sr.Src cs5 ∧ H' p = some (.lst (ns.map V.str)) ∧
      ns.length = m ∧ ns.Nodup ∧ (∀ s ∈ ns, Pl.Nm s)) ?_ ?_
    rotate_left
    · rintro σ H7 ⟨ns2, cs5, rfl, bl7, hl7, sr7, hp7, hlen2, nd2, hnm2⟩
      walk_at "go"
      exact kk p ns2 cs5 H7 bl7 hl7 sr7 npH hp7 hlen2 nd2 hnm2
    walk_at "go"
    refine ⟨l, cs4, 4, rfl, hl6, sr4, by decide, by decide, fun r7 cs7 H7 b7 hl7 sr7 r70 r71 => ?_⟩
    walk_at "go"
    have hp7 := b7 _ _ (Ne.symm nlp) hp6
    have bl7 : But l H H7 := bl6.trans b7
    refine k_if (fun c => ?_) (fun c => ?_)
    rotate_left
    · walk_at "go"
      exact ⟨ns, cs7, rfl, bl7, hl7, sr7, hp7, hlen, nd, hnm⟩
    walk_at "go"
    obtain ⟨s0, s1, rr, rfl⟩ : ∃ s0 s1 r, ns = s0 :: s1 :: r := by
      match ns, hlen with
      | [], h => simp at h; omega
      | [a], h => simp at h; omega
      | a :: b :: r, _ => exact ⟨a, b, r, rfl⟩
    have sz0 := hsz s0 (by simp)
    refine k_ixL (SqL.of hp7) (v := .str s0) (atI_nat (j := 0) rfl) ?_
    walk_at "go"
    refine ⟨l, cs7, 26, rfl, hl7, sr7, by decide, by decide, fun r8 cs8 H8 b8 hl8 sr8 r80 r81 => ?_⟩
    refine k_ixS (by rw [sizeLine_eq]; decide +kernel) (Pl.abc_at r80 r81) ?_
    walk_at "go"
    refine k_addS ?_ (by rw [sizeLine_eq]; show s0.cps.size + 1 ≤ _; omega)
    walk_at "go"
    have hp8 := b8 _ _ (Ne.symm nlp) hp7
    refine k_setL (j := 1) hp8 (ixN_nat (j := 1) (by simp)) (fun H9 b9 hp9 => ?_)
    walk_at "go"
    have szn : (s0 ++ (⟨#[97 + r8.toNat]⟩ : Str)).cps.size = z + 1 := by
      show (s0.cps ++ #[97 + r8.toNat]).size = _
      simp [sz0, hc]
    refine ⟨s0 :: (s0 ++ ⟨#[97 + r8.toNat]⟩) :: rr, cs8, rfl, ?_, b9 _ _ nlp hl8, sr8, by rw [hp9]; rfl, by simpa using hlen, ?_, ?_⟩
    · intro a o n h
      exact b9 _ _ (nob n h).2 (b8 _ _ n (bl7 _ _ n h))
    · rw [List.nodup_cons, List.nodup_cons] at nd ⊢
      refine ⟨fun h => ?_, fun h => ?_, nd.2.2⟩
      · rcases List.mem_cons.mp h with e | e
        · rw [← e] at szn; omega
        · exact nd.1 (List.mem_cons_of_mem _ e)
      · have := hsz _ (List.mem_cons_of_mem _ (List.mem_cons_of_mem _ h))
        omega
    · intro s hs
      rcases List.mem_cons.mp hs with e | e
      · rw [e]; exact hnm s0 (by simp)
      · rcases List.mem_cons.mp e with e | e
        · rw [e]
          have g := hnm s0 (by simp)
          refine ⟨by omega, by omega, fun c hc => ?_⟩
          have : c ∈ s0.cps.toList ∨ c = 97 + r8.toNat := by
            have h2 : c ∈ (s0.cps ++ #[97 + r8.toNat]).toList := hc
            simpa using h2
          rcases this with h | h
          · exact g.2.2 c h
          · omega
        · exact hnm s (List.mem_cons_of_mem _ (List.mem_cons_of_mem _ e))
end
end Lw
namespace Lw
open PySem PySem.Spec PyProof.Rows L2 Gx
section
variable {P : Program} {w : World} {K : PySem.W.Frag} {mg : Str → Option Value} {base : Heap} {f : Addr} {fd : FuncData}
theorem ok__law_lowest (F : FnP K "_law_lowest" "_law_lowest" s__law_lowest f fd) (T : Txt K mg) : FnOk P w K mg base (L2.CX P w) 1 f fd ["_law_a", "_law_b"] (sp__law_lowest K) := by
  refine F.ok sc__law_lowest (fun vs H Q E h => ?_) (fun cdv A outer s H vs Q E hr h => ?_)
  · obtain ⟨a, b, rfl, _⟩ := h; rfl
  · refine ⟨_, (pss_cons (ps_set (i := 2) sc__law_lowest.nd rfl (Or.inl rfl) (pe_callB call_absU (by rfl) T.n_abs (by decide +kernel) (pa_cons (pv 0) pa_nil))) (pss_cons (ps_set (i := 3) sc__law_lowest.nd rfl (Or.inl rfl) (pv 1)) (pss_cons (ps_while (passes_of rfl) (pt_cmpR op_gt (pv 3) pe_int (nomark _)) (pss_one (ps_par (i := 2) (j := 3) (by rfl) sc__law_lowest.nd rfl rfl (by decide) rfl rfl (pa_cons (pv 3) (pa_cons (pe_op op_modN (pv 2) (pv 3)) pa_nil)) (by rfl)))) (pss_one (ps_ret (pe_tup (pa_cons (pe_op op_fdivG (pv 0) (pv 2)) (pa_cons (pe_op op_fdivG (pv 1) (pv 2)) pa_nil)))))))), ?_⟩
    obtain ⟨a, b, rfl, b0, hd, kk⟩ := h
    walk_at "go"
    refine k_while (fun m σ H' => H' = H ∧ ∃ x y : Int, σ = [some (.int a), some (.int b), some (.int x), some (.int y)] ∧ m = y.natAbs ∧ 0 ≤ x ∧ 0 ≤ y ∧ Int.gcd x y = Int.gcd a b) b.natAbs ⟨rfl, (a.natAbs : Int), b, rfl, rfl, by omega, by omega, by show Nat.gcd ((a.natAbs : Int)).natAbs b.natAbs = Nat.gcd a.natAbs b.natAbs; rw [Int.natAbs_natCast]⟩ ?_
    rintro m σ H' ⟨rfl, x, y, rfl, rfl, x0, y0, e⟩
    walk_at "go"
    refine k_if (fun c => ?_) (fun c => ?_)
    · refine k_wN ?_
      walk_at "go"
      have v0 := Int.emod_nonneg x (show y ≠ 0 by omega)
      have v1 := Int.emod_lt_of_pos x c
      refine ⟨(x % y).natAbs, by omega, rfl, y, x % y, rfl, rfl, y0, v0, ?_⟩
      rw [← e, Int.gcd_comm x y, ← Int.fmod_eq_emod_of_nonneg x y0, Fr.gcd_fmod, Int.gcd_comm]
    · have ey : y = 0 := by omega
      subst ey
      walk_at "go"
      rw [Int.gcd_zero] at e
      have hx : x = (Int.gcd a b : Int) := by omega
      have hg := Int.gcd_pos_of_ne_zero_right a (show b ≠ 0 by omega)
      have ed : x = (if b < 0 then 0 - (Int.gcd a b : Int) else (Int.gcd a b : Int)) := by rw [if_neg (by omega)]; exact hx
      obtain ⟨d1, d2⟩ := hd.div (d := x) (by omega)
      refine k_I ?_ ⟨by omega, d1⟩
      walk_at "go"
      refine k_I ?_ ⟨by omega, d2⟩
      walk_at "go"
      refine k_tupx (fun p H2 np s1 hp => ?_) (by simp [sizeLine_eq])
      refine kk p H2 s1 np (SqT.of ?_)
      rw [hp, Fr.low_num (by omega) ed, Fr.low_den (by omega) ed]
end
end Lw
namespace Lw
open PySem PySem.Spec PyProof.Rows L2 Gx
section
variable {P : Program} {w : World} {K : PySem.W.Frag} {mg : Str → Option Value} {base : Heap} {f : Addr} {fd : FuncData}
theorem ok__law_half (F : FnP K "_law_half" "_law_half" s__law_half f fd) (T : Txt K mg) (c__law_lowest : Cl P w K mg base 1 "_law_lowest" ["_law_a", "_law_b"] (sp__law_lowest K)) (c__law_draw : Cl P w K mg base 1 "_law_draw" ["_law_source_here", "_law_most"] (sp__law_draw K)) : FnOk P w K mg base (L2.CX P w) 2 f fd ["_law_source_here"] (sp__law_half K) := by
  refine F.ok sc__law_half (fun vs H Q E h => ?_) (fun cdv A outer s H vs Q E hr h => ?_)
  · obtain ⟨l, cs, rfl, _⟩ := h; rfl
  · refine ⟨_, (pss_cons (ps_set (i := 1) sc__law_half.nd rfl (Or.inl rfl) (pe_op (op_addK (K := K) rfl) pe_int (pcall c__law_draw hr (by first | decide | omega) (takes_of rfl rfl rfl rfl) (pa_cons (pv 0) (pa_cons (pe_ix (ix_K (K := K) rfl) (pe_lst (pa_cons pe_int (pa_cons pe_int (pa_cons pe_int pa_nil)))) (pcall c__law_draw hr (by first | decide | omega) (takes_of rfl rfl rfl rfl) (pa_cons (pv 0) (pa_cons pe_int pa_nil))) (fun _ _ => rfl)) pa_nil))))) (pss_cons (ps_set (i := 2) sc__law_half.nd rfl (Or.inl rfl) (pe_op op_fdivG (pe_op (op_addK (K := K) rfl) (pv 1) pe_int) pe_int)) (pss_one (ps_ret (pcall c__law_lowest hr (by first | decide | omega) (takes_of rfl rfl rfl rfl) (pa_cons (pe_op (op_addK (K := K) rfl) (pv 2) (pcall c__law_draw hr (by first | decide | omega) (takes_of rfl rfl rfl rfl) (pa_cons (pv 0) (pa_cons (pe_op op_sub (pv 1) (pv 2)) pa_nil)))) (pa_cons (pv 1) pa_nil))))))), ?_⟩
    obtain ⟨l, cs, rfl, hl, sr, kk⟩ := h
    walk_at "go"
    refine k_lstx (fun p H1 np s1 hp => ?_) (by simp [sizeLine_eq])
    walk_at "go"
    have nlp : l ≠ p := ne_of_none hl np
    refine ⟨l, cs, 3, rfl, s1 _ _ hl, sr, by decide, by decide, fun r cs2 H2 b2 hl2 sr2 r0 r1 => ?_⟩
    walk_at "go"
    obtain ⟨x, x0, hx, hat⟩ : ∃ x : Int, 9 ≤ x ∧ x ≤ 999997 ∧ atI [V.int 9, V.int 99, V.int 999997] r = some (.int x) := by
      have c : r = 0 ∨ r = 1 ∨ r = 2 := by omega
      rcases c with c | c | c
      · exact ⟨9, by decide, by decide, by rw [c]; rfl⟩
      · exact ⟨99, by decide, by decide, by rw [c]; rfl⟩
      · exact ⟨999997, by decide, by decide, by rw [c]; rfl⟩
    refine k_ixL (SqL.of (b2 _ _ (Ne.symm nlp) hp)) hat ?_
    walk_at "go"
    refine ⟨l, cs2, x, rfl, hl2, sr2, by omega, by omega, fun w cs3 H3 b3 hl3 sr3 w0 w1 => ?_⟩
    walk_at "go"
    refine ⟨l, cs3, 2 + w - (2 + w + 1) / 2, rfl, hl3, sr3, by omega, by omega, fun a cs4 H4 b4 hl4 sr4 a0 a1 => ?_⟩
    walk_at "go"
    refine ⟨(2 + w + 1) / 2 + a, 2 + w, rfl, by omega, okd_den (by omega) (show (2 + w).natAbs < 2 ^ 64 by omega) (by decide), fun q H5 s5 nq hq => ?_⟩
    have bl : But l H H5 := fun a o n h => s5 _ _ (b4 _ _ n (b3 _ _ n (b2 _ _ n (s1 _ _ h))))
    refine kk q _ ((2 + w + 1) / 2 + a) (2 + w) cs4 H5 bl (s5 _ _ hl4) sr4 ?_ hq rfl (by omega) (by omega) (by omega) (by omega)
    cases e : H q with
    | none => rfl
    | some o =>
      have n : q ≠ l := fun z => by subst z; rw [nq] at hl4; cases hl4
      exact absurd (b4 _ _ n (b3 _ _ n (b2 _ _ n (s1 _ _ e)))) (by rw [nq]; simp)
end
end Lw
namespace Lw
open PySem PySem.Spec PyProof.Rows L2 Gx
section
variable {P : Program} {w : World} {K : PySem.W.Frag} {mg : Str → Option Value} {base : Heap} {f : Addr} {fd : FuncData}
theorem ok__law_mixed_up (F : FnP K "_law_mixed_up" "_law_mixed_up" s__law_mixed_up f fd) (T : Txt K mg) (c__law_draw : Cl P w K mg base 1 "_law_draw" ["_law_source_here", "_law_most"] (sp__law_draw K)) : FnOk P w K mg base (L2.CX P w) 2 f fd ["_law_source_here", "_law_names"] (sp__law_mixed_up K) := by
  refine F.ok sc__law_mixed_up (fun vs H Q E h => ?_) (fun cdv A outer s H vs Q E hr h => ?_)
  · obtain ⟨l, q, cs, ns, rfl, _⟩ := h; rfl
  · refine ⟨_, (pss_cons (ps_set (i := 2) sc__law_mixed_up.nd rfl (Or.inl rfl) (pe_lst pa_nil)) (pss_cons (ps_for (passes_of rfl) rfl (pi_seqU (pv 1)) (pg_name (i := 3) sc__law_mixed_up.nd rfl (Or.inl rfl)) (pss_one (ps_expr (pe_bmK (K := K) rfl PySem.F.plainAttrs_list PySem.F.slot_list_insert PySem.F.type_list_insert mt_insU (pv 2) (pa_cons (pcall c__law_draw hr (by first | decide | omega) (takes_of rfl rfl rfl rfl) (pa_cons (pv 0) (pa_cons (pe_op (op_addK (K := K) rfl) (pe_callB (callK (K := K) (r := rLenU) rfl call_lenU) (by rfl) T.n_len (by decide +kernel) (pa_cons (pv 2) pa_nil)) pe_int) pa_nil))) (pa_cons (pv 3) pa_nil)))))) (pss_one (ps_ret (pv 2))))), ?_⟩
    obtain ⟨l, q, cs, ns, rfl, hl, sr, hq, nql, h9, kk⟩ := h
    walk_at "go"
    refine k_lstx (fun p H1 np s1 hp => ?_) (by simp)
    walk_at "go"
    have npl : p ≠ l := fun e => by subst e; rw [np] at hl; cases hl
    have npq : p ≠ q := fun e => by subst e; rw [np] at hq; cases hq
    refine k_itUL (SqL.of (s1 _ _ hq)) ?_
    refine k_loopL (fun i σ H' => ∃ (t : Option V) (cs : List Int) (ms : List Str), σ = [some (.ref l), some (.ref q), some (.ref p), t] ∧ H' l = some (.lst (cs.map V.int)) ∧ Sr.Src cs ∧ H' p = some (.lst (ms.map V.str)) ∧ ms.Perm (ns.take i) ∧ H' q = some (.lst (ns.map V.str)) ∧ But l H H')
      ⟨none, cs, [], rfl, s1 _ _ hl, sr, hp, .nil, s1 _ _ hq, But.of s1⟩ (fun i σ H' _ h => by obtain ⟨_, _, _, _, _, _, _, _, h, _⟩ := h; exact SqL.of h) ?_ ?_
    rotate_left
    · rintro σ H' ⟨t, cs, ms, rfl, hl', sr', hp', pm, hq', b⟩
      rw [List.length_map, List.take_of_length_le (Nat.le_refl _)] at pm
      walk_at "go"
      exact kk p ms cs H' b hl' sr' np hp' pm
    rintro i x σ H2 hx ⟨t, cs, ms, rfl, hl2, sr2, hp2, pm, hq2, b2⟩
    obtain ⟨n, hn, rfl⟩ := Cm.get_map hx
    have hi := (List.getElem?_eq_some_iff.mp hn).1
    have ml : ms.length = i := by rw [pm.length_eq, List.length_take]; omega
    walk_at "go"
    refine ⟨k_app0 hp2, ?_⟩
    walk_at "go"
    refine k_lenL ?_ (SqL.of hp2)
    rw [List.length_map, ml]
    walk_at "go"
    refine ⟨l, cs, (i : Int) + 1, rfl, hl2, sr2, by omega, by omega, fun r cs3 H3 b3 hl3 sr3 r0 r1 => ?_⟩
    walk_at "go"
    have hp3 := b3 _ _ npl hp2
    have hq3 := b3 _ _ nql hq2
    refine k_ins hp3 (by rw [List.length_map, sizeLine_eq]; omega) r0 (by omega) (fun H4 b4 hp4 => ?_)
    refine ⟨_, cs3, ms.take r.toNat ++ [n] ++ ms.drop r.toNat, rfl, b4 _ _ (Ne.symm npl) hl3, sr3, by rw [hp4]; simp, ?_, b4 _ _ (Ne.symm npq) hq3, ?_⟩
    · rw [take_snoc hn]
      have e : (ms.take r.toNat ++ [n] ++ ms.drop r.toNat).Perm (ms ++ [n]) := by
        rw [List.append_assoc]
        refine (List.Perm.append_left _ List.perm_append_comm).trans ?_
        rw [← List.append_assoc, List.take_append_drop]
      exact e.trans (pm.append_right _)
    · intro c o n hc
      have hc3 := b3 _ _ n (b2 _ _ n hc)
      refine b4 _ _ (fun e => ?_) hc3
      subst e
      rw [np] at hc
      cases hc
end
end Lw
namespace Lw
open PySem PySem.Spec PyProof.Rows L2 Gx
section
variable {P : Program} {w : World} {K : PySem.W.Frag} {mg : Str → Option Value} {base : Heap} {f : Addr} {fd : FuncData}
theorem ok__law_bent (F : FnP K "_law_bent" "_law_bent" s__law_bent f fd) (T : Txt K mg) (c__law_draw : Cl P w K mg base 1 "_law_draw" ["_law_source_here", "_law_most"] (sp__law_draw K)) : FnOk P w K mg base (L2.CX P w) 2 f fd ["_law_source_here", "_law_chosen", "_law_names"] (sp__law_bent K) := by
  refine F.ok sc__law_bent (fun vs H Q E h => ?_) (fun cdv A outer s H vs Q E hr h => ?_)
  · obtain ⟨l, lc, p, cs, os, ns, rfl, _⟩ := h; rfl
  · refine ⟨_, (pss_cons (ps_set (i := 3) sc__law_bent.nd rfl (Or.inl rfl) (pcall c__law_draw hr (by first | decide | omega) (takes_of rfl rfl rfl rfl) (pa_cons (pv 0) (pa_cons pe_int pa_nil)))) (pss_cons (ps_set (i := 4) sc__law_bent.nd rfl (Or.inl rfl) (pe_callTy (callK (K := K) (r := rLstU) rfl call_lstU) (by rfl) T.n_list (by decide +kernel) (pa_cons (pv 1) pa_nil))) (pss_cons (ps_set (i := 5) sc__law_bent.nd rfl (Or.inl rfl) (pcall c__law_draw hr (by first | decide | omega) (takes_of rfl rfl rfl rfl) (pa_cons (pv 0) (pa_cons (pe_callB (callK (K := K) (r := rLenU) rfl call_lenU) (by rfl) T.n_len (by decide +kernel) (pa_cons (pv 4) pa_nil)) pa_nil)))) (C8.pss_cut (ps_if (pt_cmpR (op_eqK (K := K) rfl hr) (pv 3) pe_int (nomark _)) (pss_one (ps_expr (pe_bmK (K := K) rfl PySem.F.plainAttrs_list PySem.F.slot_list_insert PySem.F.type_list_insert mt_insU (pv 4) (pa_cons (pv 5) (pa_cons (pe_ix (ix_K (K := K) rfl) (pv 2) (pcall c__law_draw hr (by first | decide | omega) (takes_of rfl rfl rfl rfl) (pa_cons (pv 0) (pa_cons (pe_callB (callK (K := K) (r := rLenU) rfl call_lenU) (by rfl) T.n_len (by decide +kernel) (pa_cons (pv 2) pa_nil)) pa_nil))) (fun _ _ => rfl)) pa_nil))))) pss_nil) (C8.pss_cut (ps_if (pt_cmpR (op_eqK (K := K) rfl hr) (pv 3) pe_int (nomark _)) (pss_one (ps_expr (pe_bmK (K := K) rfl PySem.F.plainAttrs_list PySem.F.slot_list_pop PySem.F.type_list_pop mt_popAt (pv 4) (pa_cons (pv 5) pa_nil)))) pss_nil) (C8.pss_cut (ps_if (pt_cmpR (op_eqK (K := K) rfl hr) (pv 3) pe_int (nomark _)) (pss_one (ps_asg (pe_ix (ix_K (K := K) rfl) (pv 2) (pcall c__law_draw hr (by first | decide | omega) (takes_of rfl rfl rfl rfl) (pa_cons (pv 0) (pa_cons (pe_callB (callK (K := K) (r := rLenU) rfl call_lenU) (by rfl) T.n_len (by decide +kernel) (pa_cons (pv 2) pa_nil)) pa_nil))) (fun _ _ => rfl)) (pg_sub (pv 4) (pv 5) set_list))) pss_nil) (C8.pss_cut (ps_if (pt_cmpR (op_eqK (K := K) rfl hr) (pv 3) pe_int (nomark _)) (pss_one (ps_expr (pe_bmK (K := K) rfl PySem.F.plainAttrs_list PySem.F.slot_list_append PySem.F.type_list_append mt_append (pv 4) (pa_cons (pe_bmK (K := K) rfl PySem.F.plainAttrs_list PySem.F.slot_list_pop PySem.F.type_list_pop mt_popAt (pv 4) (pa_cons (pv 5) pa_nil)) pa_nil)))) pss_nil) (C8.pss_cut (ps_if (pt_cmpR (op_eqK (K := K) rfl hr) (pv 3) pe_int (nomark _)) (pss_one (ps_asg (pe_ix (ix_K (K := K) rfl) (pv 4) pe_int (fun _ _ => rfl)) (pg_sub (pv 4) (pv 5) set_list))) pss_nil) (pss_cons (ps_if (pt_cmpR (op_eqK (K := K) rfl hr) (pv 3) pe_int (nomark _)) (pss_one (ps_ret (pe_m1 PySem.F.slot_str_join PySem.F.type_str_join (mt_joinK (K := K) rfl) pe_str (pv 4)))) pss_nil) (pss_cons (ps_if (pt_cmpR (op_eqK (K := K) rfl hr) (pv 3) pe_int (nomark _)) (pss_one (ps_ret (pv 4))) pss_nil) (C8.pss_cut (ps_if (pt_cmpR (op_eqK (K := K) rfl hr) (pv 3) pe_int (nomark _)) (pss_one (ps_asg pe_non (pg_sub (pv 4) (pv 5) set_list))) pss_nil) (C8.pss_cut (ps_if (pt_cmpR (op_eqK (K := K) rfl hr) (pv 3) pe_int (nomark _)) (pss_one (ps_asg (pe_ix (ix_K (K := K) rfl) (pe_lst (pa_cons pe_int (pa_cons pe_bl (pa_cons pe_str (pa_cons (pe_tup (pa_cons pe_str pa_nil)) (pa_cons (pe_lst (pa_cons pe_str pa_nil)) (pa_cons pe_dnewK pa_nil))))))) (pcall c__law_draw hr (by first | decide | omega) (takes_of rfl rfl rfl rfl) (pa_cons (pv 0) (pa_cons pe_int pa_nil))) (fun _ _ => rfl)) (pg_sub (pv 4) (pv 5) set_list))) pss_nil) (pss_one (ps_ret (pe_callTy (callK (K := K) (r := rTupV) rfl call_tupV) (by rfl) T.n_tuple (by decide +kernel) (pa_cons (pv 4) pa_nil)))))))))))))))), ?_⟩
    obtain ⟨l, lc, p, cs, os, ns, rfl, ncl, npl, hl, sr, hlc, o1, o9, hp, n1, n9, om, nm, kk⟩ := h
    walk_at "go"
    refine ⟨l, cs, 9, rfl, hl, sr, by decide, by decide, fun w cs1 H1 b1 hl1 sr1 w0 w1 => ?_⟩
    walk_at "go"
    refine k_lstL (SqL.of (b1 _ _ ncl hlc)) (fun q H2 nq s2 hq => ?_)
    have nql : q ≠ l := fun e => by subst e; rw [hl1] at nq; cases nq
    have nlq : l ≠ q := Ne.symm nql
    have nqH : H q = none := But.free' b1 nql nq
    walk_at "go"
    refine k_lenL ?_ (SqL.of hq)
    rw [List.length_map]
    walk_at "go"
    refine ⟨l, cs1, _, rfl, s2 _ _ hl1, sr1, by omega, by omega, fun r cs3 H3 b3 hl3 sr3 r0 r1 => ?_⟩
    obtain ⟨j, rfl⟩ := Int.eq_ofNat_of_zero_le r0
    have hq3 := b3 _ _ nql hq
    have bl3 : But l H H3 := (b1.trans (But.of s2)).trans b3
    have hj : j < os.length := by omega
    walk_at "go"
    refine k_cut (BI H l lc p q os j w 1) ?_ ?_
    · walk_at "go"
      refine k_if (fun c => ?_) (fun c => ?_)
      · walk_at "go"
        refine ⟨k_app0 hq3, ?_⟩
        walk_at "go"
        refine k_lenL ?_ (SqL.of (bl3 _ _ npl hp))
        rw [List.length_map]
        walk_at "go"
        refine ⟨l, cs3, _, rfl, hl3, sr3, by omega, by omega, fun r4 cs4 H4 b4 hl4 sr4 r40 r41 => ?_⟩
        obtain ⟨i, rfl⟩ := Int.eq_ofNat_of_zero_le r40
        obtain ⟨n, hn⟩ : ∃ n, ns[i]? = some n := ⟨_, List.getElem?_eq_getElem (by omega)⟩
        walk_at "go"
        refine k_ixL (SqL.of (b4 _ _ npl (bl3 _ _ npl hp))) (v := .str n) (atI_nat (j := i) (by rw [List.getElem?_map, hn]; rfl)) ?_
        walk_at "go"
        refine k_ins (b4 _ _ nql hq3) (by rw [List.length_map, sizeLine_eq]; omega) (by omega) (by omega) (fun H5 b5 hq5 => ?_)
        refine ⟨os.take j ++ [n] ++ os.drop j, cs4, rfl, by rw [hq5, Int.toNat_natCast, List.map_append, List.map_append, List.map_take, List.map_drop]; rfl, fun h => by omega, ?_, fun z hz => ?_, but_new nqH (bl3.trans b4) b5, b5 _ _ nlq hl4, sr4⟩
        · simp only [List.length_append, List.length_take, List.length_drop, List.length_singleton]
          omega
        · simp only [List.mem_append, List.mem_singleton] at hz
          rcases hz with (hz | rfl) | hz
          · exact om z (List.mem_of_mem_take hz)
          · exact nm z (List.mem_of_getElem? hn)
          · exact om z (List.mem_of_mem_drop hz)
      · walk_at "go"
        exact ⟨os, cs3, rfl, hq3, fun _ => rfl, by omega, om, bl3, hl3, sr3⟩
    rintro σ A ⟨zs, csA, rfl, hqA, eA, zA, mA, blA, hlA, srA⟩
    walk_at "go"
    refine k_cut (BI H l lc p q os j w 2) ?_ ?_
    · walk_at "go"
      refine k_if (fun c => ?_) (fun c => ?_)
      · obtain rfl := eA (by omega)
        obtain ⟨x, hx⟩ : ∃ x, zs[j]? = some x := ⟨_, List.getElem?_eq_getElem hj⟩
        walk_at "go"
        refine ⟨k_app0 hqA, ?_⟩
        walk_at "go"
        refine k_popAt (j := j) hqA (y := .str x) (by rw [List.getElem?_map, hx]; rfl) (by rw [List.length_map]; omega) (fun H6 b6 hq6 => ?_)
        exact ⟨zs.eraseIdx j, csA, rfl, by rw [hq6, erase_mapM], fun h => by omega, by have := List.length_eraseIdx_le zs j; omega, fun z hz => om z (List.mem_of_mem_eraseIdx hz), but_new nqH blA b6, b6 _ _ nlq hlA, srA⟩
      · walk_at "go"
        exact ⟨zs, csA, rfl, hqA, fun h => eA (by omega), zA, mA, blA, hlA, srA⟩
    rintro σ B ⟨zs, csB, rfl, hqB, eB, zB, mB, blB, hlB, srB⟩
    walk_at "go"
    refine k_cut (BI H l lc p q os j w 3) ?_ ?_
    · walk_at "go"
      refine k_if (fun c => ?_) (fun c => ?_)
      · obtain rfl := eB (by omega)
        walk_at "go"
        refine k_lenL ?_ (SqL.of (blB _ _ npl hp))
        rw [List.length_map]
        walk_at "go"
        refine ⟨l, csB, _, rfl, hlB, srB, by omega, by omega, fun r4 cs4 H4 b4 hl4 sr4 r40 r41 => ?_⟩
        obtain ⟨i, rfl⟩ := Int.eq_ofNat_of_zero_le r40
        obtain ⟨n, hn⟩ : ∃ n, ns[i]? = some n := ⟨_, List.getElem?_eq_getElem (by omega)⟩
        walk_at "go"
        refine k_ixL (SqL.of (b4 _ _ npl (blB _ _ npl hp))) (v := .str n) (atI_nat (j := i) (by rw [List.getElem?_map, hn]; rfl)) ?_
        walk_at "go"
        refine k_setL (j := j) (b4 _ _ nql hqB) (ixN_nat (by rw [List.length_map]; exact hj)) (fun H5 b5 hq5 => ?_)
        exact ⟨zs.set j n, cs4, rfl, by rw [hq5, List.map_set], fun h => by omega, by rw [List.length_set]; omega, fun z hz => by
          rcases List.mem_or_eq_of_mem_set hz with h | h
          · exact om z h
          · rw [h]; exact nm n (List.mem_of_getElem? hn), but_new nqH (blB.trans b4) b5, b5 _ _ nlq hl4, sr4⟩
      · walk_at "go"
        exact ⟨zs, csB, rfl, hqB, fun h => eB (by omega), zB, mB, blB, hlB, srB⟩
    rintro σ C ⟨zs, csC, rfl, hqC, eC, zC, mC, blC, hlC, srC⟩
    walk_at "go"
    refine k_cut (BI H l lc p q os j w 4) ?_ ?_
    · walk_at "go"
      refine k_if (fun c => ?_) (fun c => ?_)
      · obtain rfl := eC (by omega)
        obtain ⟨x, hx⟩ : ∃ x, zs[j]? = some x := ⟨_, List.getElem?_eq_getElem hj⟩
        walk_at "go"
        refine ⟨k_app0 hqC, ?_⟩
        walk_at "go"
        refine ⟨k_app0 hqC, ?_⟩
        walk_at "go"
        refine k_popAt (j := j) hqC (y := .str x) (by rw [List.getElem?_map, hx]; rfl) (by rw [List.length_map]; omega) (fun H6 b6 hq6 => ?_)
        walk_at "go"
        refine k_app1 hq6 (by rw [sizeLine_eq]; have := List.length_eraseIdx_le (zs.map V.str) j; rw [List.length_map] at this; omega) (fun H7 b7 hq7 => ?_)
        exact ⟨zs.eraseIdx j ++ [x], csC, rfl, by rw [hq7, erase_mapM, List.map_append]; rfl, fun h => by omega, by have := List.length_eraseIdx_le zs j; rw [List.length_append, List.length_singleton]; omega, fun z hz => by
          rcases List.mem_append.mp hz with h | h
          · exact om z (List.mem_of_mem_eraseIdx h)
          · rw [List.mem_singleton.mp h]; exact om x (List.mem_of_getElem? hx), but_new nqH (but_new nqH blC b6) b7, b7 _ _ nlq (b6 _ _ nlq hlC), srC⟩
      · walk_at "go"
        exact ⟨zs, csC, rfl, hqC, fun h => eC (by omega), zC, mC, blC, hlC, srC⟩
    rintro σ D ⟨zs, csD, rfl, hqD, eD, zD, mD, blD, hlD, srD⟩
    walk_at "go"
    refine k_cut (BI H l lc p q os j w 5) ?_ ?_
    · walk_at "go"
      refine k_if (fun c => ?_) (fun c => ?_)
      · obtain rfl := eD (by omega)
        obtain ⟨x, hx⟩ : ∃ x, zs[0]? = some x := ⟨_, List.getElem?_eq_getElem (by omega)⟩
        walk_at "go"
        refine k_ixL (SqL.of hqD) (v := .str x) (atI_nat (j := 0) (by rw [List.getElem?_map, hx]; rfl)) ?_
        walk_at "go"
        refine k_setL (j := j) hqD (ixN_nat (by rw [List.length_map]; exact hj)) (fun H5 b5 hq5 => ?_)
        exact ⟨zs.set j x, csD, rfl, by rw [hq5, List.map_set], fun h => by omega, by rw [List.length_set]; omega, fun z hz => by
          rcases List.mem_or_eq_of_mem_set hz with h | h
          · exact om z h
          · rw [h]; exact om x (List.mem_of_getElem? hx), but_new nqH blD b5, b5 _ _ nlq hlD, srD⟩
      · walk_at "go"
        exact ⟨zs, csD, rfl, hqD, fun h => eD (by omega), zD, mD, blD, hlD, srD⟩
    rintro σ E0 ⟨zs, csE, rfl, hqE, eE, zE, mE, blE, hlE, srE⟩
    walk_at "go"
    refine k_if (fun c => ?_) (fun c => ?_)
    · walk_at "go"
      have sz : (zs.map (·.length)).sum ≤ 8 * zs.length := by
        clear hqE eE zE
        induction zs with
        | nil => exact Nat.zero_le _
        | cons z r ih =>
          have h1 := (mE z (List.mem_cons_self ..)).2.1
          have h1' : z.length ≤ 8 := h1
          have h2 := ih fun x hx => mE x (List.mem_cons_of_mem _ hx)
          rw [List.map_cons, List.sum_cons, List.length_cons]
          omega
      refine k_join (ys := zs) (.inl (SqL.of hqE)) (by rw [show (Str.ofString "").length = 0 by decide +kernel]; omega) ?_
      exact kk _ none csE E0 blE hlE srE (.str _) (fun os e => by cases e)
    walk_at "go"
    refine k_if (fun c => ?_) (fun c => ?_)
    · walk_at "go"
      exact kk _ none csE E0 blE hlE srE (.lst hqE nqH) (fun os e => by cases e)
    have fin : ∀ (G : Hp) (xs : List V) (ts : List (Option Str)) (cs' : List Int), But l H G → G l = some (.lst (cs'.map V.int)) → Sr.Src cs' → G q = some (.lst xs) → Paired (Mx.It K G (fun x => H x = none)) xs ts → ts.length ≤ 60 → ∀ G' u, Same G G' → G' u = some (.tup xs) → Q (.ref u) G' := fun G xs ts cs' b h1 h2 h3 h4 h5 G' u s hu => kk _ (some ts) cs' G' (b.trans (But.of s)) (s _ _ h1) h2 (.tup (SqT.of hu) (Mx.pr_mp (fun _ _ h => h.same s) h4)) (fun os e => by cases e; exact h5)
    walk_at "go"
    refine k_cut (fun σ G => ∃ (xs : List V) (ts : List (Option Str)) (cs' : List Int), σ = [some (.ref l), some (.ref lc), some (.ref p), some (.int w), some (.ref q), some (.int (j : Int))] ∧ But l H G ∧ G l = some (.lst (cs'.map V.int)) ∧ Sr.Src cs' ∧ G q = some (.lst xs) ∧ Paired (Mx.It K G (fun x => H x = none)) xs ts ∧ ts.length ≤ 60 ∧ (8 ≤ w → xs.length = os.length ∧ ∀ x ∈ xs, x = .non ∨ ∃ b, x = .str b)) ?_ ?_
    · walk_at "go"
      refine k_if (fun c => ?_) (fun c => ?_)
      · obtain rfl := eE (by omega)
        walk_at "go"
        refine k_setL (j := j) hqE (ixN_nat (by rw [List.length_map]; exact hj)) (fun H5 b5 hq5 => ?_)
        have p0 : Paired (Mx.It K E0 (fun x => H x = none)) ((zs.map V.str).set j .non) ((zs.map some).set j none) := its_set .non j (its mE)
        refine ⟨_, (zs.map some).set j none, csE, rfl, but_new nqH blE b5, b5 _ _ nlq hlE, srE, hq5, ?_, by rw [List.length_set, List.length_map]; omega, fun h => by omega⟩
        refine its_flat p0 fun x hx => ?_
        rcases List.mem_or_eq_of_mem_set hx with h | h
        · obtain ⟨z, _, rfl⟩ := List.mem_map.mp h
          exact .inr ⟨z, rfl⟩
        · exact .inl h
      · walk_at "go"
        exact ⟨_, zs.map some, csE, rfl, blE, hlE, srE, hqE, its mE, by rw [List.length_map]; omega, fun h => ⟨by rw [eE (by omega), List.length_map], fun x hx => by obtain ⟨z, _, rfl⟩ := List.mem_map.mp hx; exact .inr ⟨z, rfl⟩⟩⟩
    rintro σ F0 ⟨xs, ts, csF, rfl, blF, hlF, srF, hqF, itF, tF, lF⟩
    have xts : xs.length = ts.length := Mx.paired_lenM itF
    walk_at "go"
    refine k_cut (fun σ G => ∃ (xs : List V) (ts : List (Option Str)) (cs' : List Int), σ = [some (.ref l), some (.ref lc), some (.ref p), some (.int w), some (.ref q), some (.int (j : Int))] ∧ But l H G ∧ G l = some (.lst (cs'.map V.int)) ∧ Sr.Src cs' ∧ G q = some (.lst xs) ∧ Paired (Mx.It K G (fun x => H x = none)) xs ts ∧ ts.length ≤ 60) ?_ ?_
    rotate_left
    · rintro σ G ⟨xs, ts, cs', rfl, b, h1, h2, h3, h4, h5⟩
      walk_at "go"
      refine k_tupL (SqL.of h3) (fun u G' nu su hu => ?_)
      exact fin G xs ts cs' b h1 h2 h3 h4 h5 G' u su hu
    walk_at "go"
    refine k_if (fun c => ?_) (fun c => ?_)
    rotate_left
    · walk_at "go"
      exact ⟨xs, ts, csF, rfl, blF, hlF, srF, hqF, itF, tF⟩
    walk_at "go"
    refine k_tupx (fun t1 G1 m1 s1 k1 => ?_) (by simp [sizeLine_eq])
    walk_at "go"
    refine k_lstx (fun t2 G2 m2 s2' k2 => ?_) (by simp [sizeLine_eq])
    walk_at "go"
    refine k_dict1 (fun t3 G3 m3 s3 k3 => ?_)
    walk_at "go"
    refine k_lstx (fun t4 G4 m4 s4 k4 => ?_) (by simp [sizeLine_eq])
    have sF4 := s1.trans (s2'.trans (s3.trans s4))
    have hl4 := sF4 _ _ hlF
    have nlt : ∀ {u : Addr} {G : Hp}, Same F0 G → G u = none → u ≠ l := fun s n e => by subst e; rw [s _ _ hlF] at n; cases n
    have nqt : ∀ {u : Addr} {G : Hp}, Same F0 G → G u = none → u ≠ q := fun s n e => by subst e; rw [s _ _ hqF] at n; cases n
    walk_at "go"
    refine ⟨l, csF, 6, rfl, hl4, srF, by decide, by decide, fun r5 cs5 G5 b5 hl5 sr5 r50 r51 => ?_⟩
    obtain ⟨i, rfl⟩ := Int.eq_ofNat_of_zero_le r50
    have t4l := nlt (s1.trans (s2'.trans s3)) m4
    have a97 : PyData.strOk (Str.ofString "a") = true := by decide +kernel
    have c1 : G5 t1 = some (.tup [.str (Str.ofString "a")]) := b5 _ _ (nlt (Same.refl _) m1) (s4 _ _ (s3 _ _ (s2' _ _ k1)))
    have c2 : G5 t2 = some (.lst [.str (Str.ofString "a")]) := b5 _ _ (nlt s1 m2) (s4 _ _ (s3 _ _ k2))
    have c3 : G5 t3 = some (.dK []) := b5 _ _ (nlt (s1.trans s2') m3) (s4 _ _ k3)
    have hq5 := b5 _ _ nql (sF4 _ _ hqF)
    obtain ⟨x, o, hat, hit⟩ : ∃ x o, [V.int 1, V.bl true, V.str (Str.ofString ""), V.ref t1, V.ref t2, V.ref t3][i]? = some x ∧ ∀ G6, But q G5 G6 → Mx.It K G6 (fun x => H x = none) x o := by
      have cc : i = 0 ∨ i = 1 ∨ i = 2 ∨ i = 3 ∨ i = 4 ∨ i = 5 := by omega
      rcases cc with rfl | rfl | rfl | rfl | rfl | rfl
      · exact ⟨_, none, rfl, fun _ _ => .int 1⟩
      · exact ⟨_, none, rfl, fun _ _ => .bl true⟩
      · exact ⟨_, some (Str.ofString ""), rfl, fun _ _ => .str (by decide +kernel)⟩
      · exact ⟨_, none, rfl, fun _ b => .tup (SqT.of (b _ _ (nqt (Same.refl _) m1) c1)) a97⟩
      · exact ⟨_, none, rfl, fun _ b => .lst (b _ _ (nqt s1 m2) c2) (But.free' (blF.trans (But.of s1)) (nlt s1 m2) m2) a97⟩
      · exact ⟨_, none, rfl, fun _ b => .dct (b _ _ (nqt (s1.trans s2') m3) c3)⟩
    walk_at "go"
    refine k_ixL (SqL.of (b5 _ _ t4l k4)) (v := x) (atI_nat (j := i) hat) ?_
    walk_at "go"
    refine k_setL (j := j) hq5 (ixN_nat (by rw [(lF (by omega)).1]; exact hj)) (fun G6 b6 hq6 => ?_)
    have nH : ∀ x, H x = none → x ≠ l := fun x h e => by subst e; rw [hl] at h; cases h
    have it5 : Paired (Mx.It K G5 (fun x => H x = none)) xs ts := Mx.pr_mp (fun _ _ h => (h.same sF4).but b5 hl4 nH) itF
    have it6 : Paired (Mx.It K G6 (fun x => H x = none)) xs ts := its_flat it5 (lF (by omega)).2
    exact ⟨xs.set j x, ts.set j o, cs5, rfl, but_new nqH ((blF.trans (But.of sF4)).trans b5) b6, b6 _ _ nlq hl5, sr5, hq6, its_set (hit G6 b6) j it6, by rw [List.length_set]; omega⟩
end
end Lw
namespace Lw
open PySem PySem.Spec PyProof.Rows L2 Gx
section
variable {P : Program} {w : World} {K : PySem.W.Frag} {mg : Str → Option Value} {base : Heap} {f : Addr} {fd : FuncData}
theorem ok__law_thing (F : FnP K "_law_thing" "_law_thing" s__law_thing f fd) (T : Txt K mg) (c__law_draw : Cl P w K mg base 1 "_law_draw" ["_law_source_here", "_law_most"] (sp__law_draw K)) : FnOk P w K mg base (L2.CX P w) 2 f fd ["_law_source_here", "_law_names"] (sp__law_thing K) := by
  refine F.ok sc__law_thing (fun vs H Q E h => ?_) (fun cdv A outer s H vs Q E hr h => ?_)
  · obtain ⟨l, p, cs, ns, rfl, _⟩ := h; rfl
  · refine ⟨_, (pss_cons (ps_set (i := 2) sc__law_thing.nd rfl (Or.inl rfl) (pe_lst (pa_cons pe_non (pa_cons (pe_tup pa_nil) (pa_cons (pe_lst pa_nil) (pa_cons pe_dnewK (pa_cons pe_str (pa_cons (pe_ix (ix_K (K := K) rfl) (pv 1) pe_int (fun _ _ => rfl)) (pa_cons (pe_tup (pa_cons (pe_ix (ix_K (K := K) rfl) (pv 1) pe_int (fun _ _ => rfl)) pa_nil)) (pa_cons (pe_lst (pa_cons (pe_ix (ix_K (K := K) rfl) (pv 1) pe_int (fun _ _ => rfl)) pa_nil)) (pa_cons (pe_tup (pa_cons pe_non pa_nil)) (pa_cons (pe_tup (pa_cons pe_int pa_nil)) (pa_cons pe_int (pa_cons pe_bl (pa_cons (pe_tup (pa_cons (pe_tup (pa_cons (pe_ix (ix_K (K := K) rfl) (pv 1) pe_int (fun _ _ => rfl)) pa_nil)) pa_nil)) (pa_cons (pe_tup (pa_cons pe_str pa_nil)) pa_nil)))))))))))))))) (pss_one (ps_ret (pe_ix (ix_K (K := K) rfl) (pv 2) (pcall c__law_draw hr (by first | decide | omega) (takes_of rfl rfl rfl rfl) (pa_cons (pv 0) (pa_cons pe_int pa_nil))) (fun _ _ => rfl))))), ?_⟩
    obtain ⟨l, p, cs, ns, rfl, hl, sr, hp, n1, hnm, kk⟩ := h
    cases ns with
    | nil => simp at n1
    | cons n0 nr =>
    have ok0 : PyData.strOk n0 = true := (hnm n0 (List.mem_cons_self ..)).ok
    have ix : ∀ {G : Hp} {Q' : VK}, Same H G → Q' (.str n0) G → rIx K (.ref p) (.int 0) G Q' := fun s q => k_ixL (SqL.of (s _ _ hp)) (v := .str n0) (atI_nat (j := 0) rfl) q
    walk_at "go"
    refine k_tupx (fun t1 H1 m1 s1 h1 => ?_) (by simp)
    walk_at "go"
    refine k_lstx (fun t2 H2 m2 s2 h2 => ?_) (by simp)
    walk_at "go"
    refine k_dict1 (fun t3 H3 m3 s3 h3 => ?_)
    have u3 := s1.trans (s2.trans s3)
    walk_at "go"
    refine ix u3 ?_
    walk_at "go"
    refine ix u3 ?_
    walk_at "go"
    refine k_tupx (fun t4 H4 m4 s4 h4 => ?_) (by simp [sizeLine_eq])
    walk_at "go"
    refine ix (u3.trans s4) ?_
    walk_at "go"
    refine k_lstx (fun t5 H5 m5 s5 h5 => ?_) (by simp [sizeLine_eq])
    walk_at "go"
    refine k_tupx (fun t6 H6 m6 s6 h6 => ?_) (by simp [sizeLine_eq])
    walk_at "go"
    refine k_tupx (fun t7 H7 m7 s7 h7 => ?_) (by simp [sizeLine_eq])
    have u7 := u3.trans (s4.trans (s5.trans (s6.trans s7)))
    walk_at "go"
    refine ix u7 ?_
    walk_at "go"
    refine k_tupx (fun t8 H8 m8 s8 h8 => ?_) (by simp [sizeLine_eq])
    walk_at "go"
    refine k_tupx (fun t9 H9 m9 s9 h9 => ?_) (by simp [sizeLine_eq])
    walk_at "go"
    refine k_tupx (fun ta HA ma sa ha => ?_) (by simp [sizeLine_eq])
    walk_at "go"
    refine k_lstx (fun tb HB mb sb hb => ?_) (by simp [sizeLine_eq])
    have uB := u7.trans (s8.trans (s9.trans (sa.trans sb)))
    have nl : ∀ {q : Addr} {G : Hp}, Same H G → G q = none → q ≠ l := fun s n e => by subst e; rw [s _ _ hl] at n; cases n
    walk_at "go"
    refine ⟨l, cs, 14, rfl, uB _ _ hl, sr, by decide, by decide, fun r cs2 HC bC hlC srC r0 r1 => ?_⟩
    have tl : tb ≠ l := nl (u7.trans (s8.trans (s9.trans sa))) mb
    obtain ⟨j, rfl⟩ := Int.eq_ofNat_of_zero_le r0
    have g9 : Same H9 HB := sa.trans sb
    have g8 : Same H8 HB := s9.trans g9
    have g7 : Same H7 HB := s8.trans g8
    have g6 : Same H6 HB := s7.trans g7
    have g5 : Same H5 HB := s6.trans g6
    have g4 : Same H4 HB := s5.trans g5
    have g3 : Same H3 HB := s4.trans g4
    have g2 : Same H2 HB := s3.trans g3
    have g1 : Same H1 HB := s2.trans g2
    have hlB := uB _ _ hl
    have all : ∀ v ∈ [V.non, V.ref t1, V.ref t2, V.ref t3, V.str (Str.ofString ""), V.str n0, V.ref t4, V.ref t5, V.ref t6, V.ref t7, V.int 1, V.bl true, V.ref t9, V.ref ta], ∃ t, Mx.Th K HB (fun x => H x = none) v t ∧ ∀ os, t = some os → os.length ≤ 60 := by
      intro v hv
      have one : ∀ {o : Option Str} (os : List (Option Str)), some [o] = some os → os.length ≤ 60 := fun os e => by cases e; simp
      simp only [List.mem_cons, List.not_mem_nil, or_false] at hv
      rcases hv with rfl | rfl | rfl | rfl | rfl | rfl | rfl | rfl | rfl | rfl | rfl | rfl | rfl | rfl
      · exact ⟨none, .non, fun os e => by cases e⟩
      · exact ⟨some [], .tup (SqT.of (g1 _ _ h1)) .nil, fun os e => by cases e; simp⟩
      · exact ⟨none, .lst (g2 _ _ h2) (s1.free m2), fun os e => by cases e⟩
      · exact ⟨none, .dct (g3 _ _ h3), fun os e => by cases e⟩
      · exact ⟨none, .str _, fun os e => by cases e⟩
      · exact ⟨none, .str _, fun os e => by cases e⟩
      · exact ⟨some [some n0], .tup (SqT.of (g4 _ _ h4)) (.cons (.str ok0) .nil), one⟩
      · exact ⟨none, .lst (g5 _ _ h5) ((u3.trans s4).free m5), fun os e => by cases e⟩
      · exact ⟨some [none], .tup (SqT.of (g6 _ _ h6)) (.cons .non .nil), one⟩
      · exact ⟨some [none], .tup (SqT.of (g7 _ _ h7)) (.cons (.int 1) .nil), one⟩
      · exact ⟨none, .int 1, fun os e => by cases e⟩
      · exact ⟨none, .bl true, fun os e => by cases e⟩
      · exact ⟨some [none], .tup (SqT.of (g9 _ _ h9)) (.cons (.tup (SqT.of (g8 _ _ h8)) ok0) .nil), one⟩
      · exact ⟨some [some (Str.ofString "")], .tup (SqT.of (sb _ _ ha)) (.cons (.str (by decide +kernel)) .nil), one⟩
    obtain ⟨v, hv⟩ : ∃ v, [V.non, V.ref t1, V.ref t2, V.ref t3, V.str (Str.ofString ""), V.str n0, V.ref t4, V.ref t5, V.ref t6, V.ref t7, V.int 1, V.bl true, V.ref t9, V.ref ta][j]? = some v := ⟨_, List.getElem?_eq_getElem (by simp; omega)⟩
    obtain ⟨t, ht, t60⟩ := all v (List.mem_of_getElem? hv)
    walk_at "go"
    refine k_ixL (SqL.of (bC _ _ tl hb)) (v := v) (atI_nat (j := j) hv) ?_
    exact kk v t cs2 HC ((But.of uB).trans bC) hlC srC (ht.but bC hlB fun x h e => by subst e; rw [hl] at h; cases h) t60
end
end Lw
namespace Lw
open PySem PySem.Spec PyProof.Rows L2 Gx
section
variable {P : Program} {w : World} {K : PySem.W.Frag} {mg : Str → Option Value} {base : Heap} {f : Addr} {fd : FuncData}
theorem ok__law_refused (F : FnP K "_law_refused" "_law_refused" s__law_refused f fd) (T : Txt K mg) (m_Contest_claims : MCl P w K mg base 1 "Contest" "claims" ["self", "outcome"] (sp_Contest_claims K)) (m_Portion_claims : MCl P w K mg base 3 "Portion" "claims" ["self", "outcome"] (sp_Portion_claims K)) (m_Most_claims : MCl P w K mg base 3 "Most" "claims" ["self", "outcome"] (sp_Most_claims K)) : FnOk P w K mg base (L2.CX P w) 4 f fd ["_law_contest", "_law_thing_here"] (sp__law_refused K) := by
  refine F.ok sc__law_refused (fun vs H Q E h => ?_) (fun cdv A outer s H vs Q E hr h => ?_)
  · obtain ⟨a, PP, v, t, ns, d, rfl, _⟩ := h; rfl
  · refine ⟨_, (pss_cons (ps_set (i := 2) sc__law_refused.nd rfl (Or.inl rfl) pe_non) (pss_cons (ps_try_as (i := 3) rfl rfl sc__law_refused.nd rfl rfl ⟨rfl, by decide, Or.inl T.g_SureError⟩ (takes_of rfl rfl rfl rfl) (fun W pn xe tk po => (pss_one (ps_expr (pe_or2 (pmeth rfl m_Most_claims hr (by first | decide | omega) tk (pv 0) (pa_cons (pv 1) pa_nil)) (pe_or2 (pmeth rfl m_Portion_claims hr (by first | decide | omega) tk (pv 0) (pa_cons (pv 1) pa_nil)) (pmeth rfl m_Contest_claims hr (by first | decide | omega) tk (pv 0) (pa_cons (pv 1) pa_nil))))))) (fun a oe cls d pn hz hf => (pss_cons (ps_set (i := 4) sc__law_refused.nd rfl (Or.inl rfl) (pe_lst (pa_cons (pe_callB (call_isEU hz hf) (by rfl) T.n_isinstance (by decide +kernel) (pa_cons (pv 3) (pa_cons (C8.pe_gc (v := .ref (He.ga K "NoFraction")) (by rfl) T.c_NoFraction) pa_nil))) (pa_cons (pe_callB (call_isEU hz hf) (by rfl) T.n_isinstance (by decide +kernel) (pa_cons (pv 3) (pa_cons (C8.pe_gc (v := .ref (He.ga K "NoNumber")) (by rfl) T.c_NoNumber) pa_nil))) (pa_cons (pe_callB (call_isEU hz hf) (by rfl) T.n_isinstance (by decide +kernel) (pa_cons (pv 3) (pa_cons (C8.pe_gc (v := .ref (He.ga K "Ended")) (by rfl) T.c_Ended) pa_nil))) (pa_cons (pe_callB (call_isEU hz hf) (by rfl) T.n_isinstance (by decide +kernel) (pa_cons (pv 3) (pa_cons (C8.pe_gc (v := .ref (He.ga K "NoMargin")) (by rfl) T.c_NoMargin) pa_nil))) pa_nil)))))) (pss_cons (ps_set (i := 4) sc__law_refused.nd rfl (Or.inl rfl) (pe_op (op_addK (K := K) rfl) (pv 4) (pe_lst (pa_cons (pe_callB (call_isEU hz hf) (by rfl) T.n_isinstance (by decide +kernel) (pa_cons (pv 3) (pa_cons (C8.pe_gc (v := .ref (He.ga K "NoBallot")) (by rfl) T.c_NoBallot) pa_nil))) (pa_cons (pe_callB (call_isEU hz hf) (by rfl) T.n_isinstance (by decide +kernel) (pa_cons (pv 3) (pa_cons (C8.pe_gc (v := .ref (He.ga K "NoRow")) (by rfl) T.c_NoRow) pa_nil))) (pa_cons (pe_callB (call_isEU hz hf) (by rfl) T.n_isinstance (by decide +kernel) (pa_cons (pv 3) (pa_cons (C8.pe_gc (v := .ref (He.ga K "NoName")) (by rfl) T.c_NoName) pa_nil))) (pa_cons (pe_callB (call_isEU hz hf) (by rfl) T.n_isinstance (by decide +kernel) (pa_cons (pv 3) (pa_cons (C8.pe_gc (v := .ref (He.ga K "NoText")) (by rfl) T.c_NoText) pa_nil))) pa_nil))))))) (pss_cons (ps_set (i := 4) sc__law_refused.nd rfl (Or.inl rfl) (pe_op (op_addK (K := K) rfl) (pv 4) (pe_lst (pa_cons (pe_callB (call_isEU hz hf) (by rfl) T.n_isinstance (by decide +kernel) (pa_cons (pv 3) (pa_cons (C8.pe_gc (v := .ref (He.ga K "TooMany")) (by rfl) T.c_TooMany) pa_nil))) (pa_cons (pe_callB (call_isEU hz hf) (by rfl) T.n_isinstance (by decide +kernel) (pa_cons (pv 3) (pa_cons (C8.pe_gc (v := .ref (He.ga K "NoStake")) (by rfl) T.c_NoStake) pa_nil))) pa_nil))))) (pss_one (ps_set (i := 2) sc__law_refused.nd rfl (Or.inl rfl) (pe_op (op_addK (K := K) rfl) (pe_lst (pa_cons (pe_callB (call_isEU hz hf) (by rfl) T.n_isinstance (by decide +kernel) (pa_cons (pv 3) (pa_cons (C8.pe_gc (v := .ref (He.ga K "NoOutcome")) (by rfl) T.c_NoOutcome) pa_nil))) (pa_cons (pe_callB (call_isEU hz hf) (by rfl) T.n_isinstance (by decide +kernel) (pa_cons (pv 3) (pa_cons (pe_bltn (v := .ty "ValueError") (by rfl) T.n_ValueError (by decide +kernel) rfl) pa_nil))) pa_nil))) (pv 4))))))))) (pss_cons (ps_set (i := 5) sc__law_refused.nd rfl (Or.inl rfl) (pe_cmpR (op_eqK (K := K) rfl hr) (pv 2) (pe_op (op_addK (K := K) rfl) (pe_lst (pa_cons pe_bl (pa_cons pe_bl pa_nil))) (pe_op (op_mulK (K := K) rfl) (pe_lst (pa_cons pe_bl pa_nil)) pe_int)) (nomark _))) (pss_one (ps_ret (pe_op (op_addK (K := K) rfl) (pe_ix (ix_K (K := K) rfl) (pe_lst (pa_cons (pe_lst (pa_cons pe_str pa_nil)) (pa_cons (pe_lst (pa_cons pe_str pa_nil)) pa_nil))) (pe_callTy call_intU (by rfl) T.n_int (by decide +kernel) (pa_cons (pv 5) pa_nil)) (fun _ _ => rfl)) (pe_lst (pa_cons (pe_cmpR op_isNU (pv 2) pe_non (nomark _)) pa_nil)))))))), ?_⟩
    obtain ⟨a, PP, v, t, ns, d, rfl, hc, n60, nnd, hnm, ht, t60, kk⟩ := h
    walk_at "go"
    cases d with
    | most k =>
      obtain ⟨dx, p, ha, hp⟩ := hc
      refine k_o1 ?_
      walk_at "go"
      refine k_methx ha (by walk_at "lz") ?_
      walk_at "go"
      refine ⟨a, dx, p, PP, v, t, ns, k, rfl, ha, hp, n60, nnd, hnm, ht, t60, fun ok r H1 s1 => ?_, fun no H1 s1 => ?_⟩
      · have e : okB ns t (.most k) = true := ok
        rw [e] at kk
        walk_at "go"
        refine k_lstx (fun u1 U1 p1 q1 w1 => ?_) (by simp [sizeLine_eq])
        walk_at "go"
        refine k_lstx (fun u2 U2 p2 q2 w2 => ?_) (by simp [sizeLine_eq])
        walk_at "go"
        refine k_mulR w2 ⟨by decide, by decide, by rw [sizeLine_eq]; decide⟩ (fun u3 U3 p3 q3 w3 => ?_)
        refine k_addL (q3 _ _ (q2 _ _ w1)) w3 (fun u4 U4 p4 q4 w4 => ?_) (by simp [sizeLine_eq])
        have q14 := q1.trans (q2.trans (q3.trans q4))
        have w4' : U4 u4 = some (.lst ([true, true, false, false, false, false, false, false, false, false, false, false].map V.bl)) := w4
        refine k_eqD .non (.lst (SqL.of w4') (Dt.bools [true, true, false, false, false, false, false, false, false, false, false, false])) ?_ rfl (by decide +kernel)
        rw [show PyData.eqv .none (.list ([true, true, false, false, false, false, false, false, false, false, false, false].map PyData.bool)) = false by decide +kernel]
        walk_at "go"
        refine k_lstx (fun u5 U5 p5 q5 w5 => ?_) (by simp [sizeLine_eq])
        walk_at "go"
        refine k_lstx (fun u6 U6 p6 q6 w6 => ?_) (by simp [sizeLine_eq])
        walk_at "go"
        refine k_lstx (fun u7 U7 p7 q7 w7 => ?_) (by simp [sizeLine_eq])
        walk_at "go"
        refine k_ixL (SqL.of w7) (v := .ref u5) (atI_nat (j := 0) rfl) ?_
        walk_at "go"
        refine k_lstx (fun u8 U8 p8 q8 w8 => ?_) (by simp [sizeLine_eq])
        refine k_addL (q8 _ _ (q7 _ _ (q6 _ _ w5))) w8 (fun u9 U9 p9 q9 w9 => ?_) (by simp [sizeLine_eq])
        exact kk _ U9 (s1.trans (q14.trans (q5.trans (q6.trans (q7.trans (q8.trans q9)))))) w9
      · have e : okB ns t (.most k) = false := no
        rw [e] at kk
        refine ⟨true, T.m_NoOutcome_SureError, fun _ b nb => ?_, fun z => (nomatch z)⟩
        walk_at "go"
        refine k_isE T.e_NoOutcome T.i_NoOutcome_NoFraction (fun _ h => h) ?_
        walk_at "go"
        refine k_isE T.e_NoOutcome T.i_NoOutcome_NoNumber (fun _ h => h) ?_
        walk_at "go"
        refine k_isE T.e_NoOutcome T.i_NoOutcome_Ended (fun _ h => h) ?_
        walk_at "go"
        refine k_isE T.e_NoOutcome T.i_NoOutcome_NoMargin (fun _ h => h) ?_
        walk_at "go"
        refine k_lstx (fun l1 G1 m1 t1 k1 => ?_) (by simp [sizeLine_eq])
        walk_at "go"
        refine k_isE T.e_NoOutcome T.i_NoOutcome_NoBallot (fun _ h => h) ?_
        walk_at "go"
        refine k_isE T.e_NoOutcome T.i_NoOutcome_NoRow (fun _ h => h) ?_
        walk_at "go"
        refine k_isE T.e_NoOutcome T.i_NoOutcome_NoName (fun _ h => h) ?_
        walk_at "go"
        refine k_isE T.e_NoOutcome T.i_NoOutcome_NoText (fun _ h => h) ?_
        walk_at "go"
        refine k_lstx (fun l2 G2 m2 t2 k2 => ?_) (by simp [sizeLine_eq])
        walk_at "go"
        refine k_addL (t2 _ _ k1) k2 (fun l3 G3 m3 t3 k3 => ?_) (by simp [sizeLine_eq])
        walk_at "go"
        refine k_isE T.e_NoOutcome T.i_NoOutcome_TooMany (fun _ h => h) ?_
        walk_at "go"
        refine k_isE T.e_NoOutcome T.i_NoOutcome_NoStake (fun _ h => h) ?_
        walk_at "go"
        refine k_lstx (fun l4 G4 m4 t4 k4 => ?_) (by simp [sizeLine_eq])
        walk_at "go"
        refine k_addL (t4 _ _ k3) k4 (fun l5 G5 m5 t5 k5 => ?_) (by simp [sizeLine_eq])
        walk_at "go"
        refine k_isE T.e_NoOutcome T.i_NoOutcome_NoOutcome (fun _ h => h) ?_
        walk_at "go"
        refine k_isE T.e_NoOutcome T.i_NoOutcome_ValueError (fun _ h => h) ?_
        walk_at "go"
        refine k_lstx (fun l6 G6 m6 t6 k6 => ?_) (by simp [sizeLine_eq])
        walk_at "go"
        refine k_addL k6 (t6 _ _ k5) (fun l7 G7 m7 t7 k7 => ?_) (by simp [sizeLine_eq])
        walk_at "go"
        have s2 := s1.trans (t1.trans (t2.trans (t3.trans (t4.trans (t5.trans (t6.trans t7))))))
        refine k_lstx (fun u1 U1 p1 q1 w1 => ?_) (by simp [sizeLine_eq])
        walk_at "go"
        refine k_lstx (fun u2 U2 p2 q2 w2 => ?_) (by simp [sizeLine_eq])
        walk_at "go"
        refine k_mulR w2 ⟨by decide, by decide, by rw [sizeLine_eq]; decide⟩ (fun u3 U3 p3 q3 w3 => ?_)
        refine k_addL (q3 _ _ (q2 _ _ w1)) w3 (fun u4 U4 p4 q4 w4 => ?_) (by simp [sizeLine_eq])
        have q14 := q1.trans (q2.trans (q3.trans q4))
        have w4' : U4 u4 = some (.lst ([true, true, false, false, false, false, false, false, false, false, false, false].map V.bl)) := w4
        have k7' : U4 l7 = some (.lst ([true, true, false, false, false, false, false, false, false, false, false, false].map V.bl)) := q14 _ _ k7
        refine k_eqD (.lst (SqL.of k7') (Dt.bools [true, true, false, false, false, false, false, false, false, false, false, false])) (.lst (SqL.of w4') (Dt.bools [true, true, false, false, false, false, false, false, false, false, false, false])) ?_ (by decide +kernel) (by decide +kernel)
        rw [show PyData.eqv (.list ([true, true, false, false, false, false, false, false, false, false, false, false].map PyData.bool)) (.list ([true, true, false, false, false, false, false, false, false, false, false, false].map PyData.bool)) = true by decide +kernel]
        walk_at "go"
        refine k_lstx (fun u5 U5 p5 q5 w5 => ?_) (by simp [sizeLine_eq])
        walk_at "go"
        refine k_lstx (fun u6 U6 p6 q6 w6 => ?_) (by simp [sizeLine_eq])
        walk_at "go"
        refine k_lstx (fun u7 U7 p7 q7 w7 => ?_) (by simp [sizeLine_eq])
        walk_at "go"
        refine k_ixL (SqL.of w7) (v := .ref u6) (atI_nat (j := 1) rfl) ?_
        walk_at "go"
        refine k_lstx (fun u8 U8 p8 q8 w8 => ?_) (by simp [sizeLine_eq])
        refine k_addL (q8 _ _ (q7 _ _ w6)) w8 (fun u9 U9 p9 q9 w9 => ?_) (by simp [sizeLine_eq])
        exact kk _ U9 (s2.trans (q14.trans (q5.trans (q6.trans (q7.trans (q8.trans q9)))))) w9
    | part s =>
      obtain ⟨dx, p, z, ha, hp, hz⟩ := hc
      refine k_o2 ?_
      refine k_o1 ?_
      walk_at "go"
      refine k_methx ha (by walk_at "lz") ?_
      walk_at "go"
      refine ⟨a, dx, p, PP, z, v, t, ns, s, rfl, ha, hp, hz, n60, hnm, ht, fun ok r H1 s1 => ?_, fun no H1 s1 => ?_⟩
      · have e : okB ns t (.part s) = true := ok
        rw [e] at kk
        walk_at "go"
        refine k_lstx (fun u1 U1 p1 q1 w1 => ?_) (by simp [sizeLine_eq])
        walk_at "go"
        refine k_lstx (fun u2 U2 p2 q2 w2 => ?_) (by simp [sizeLine_eq])
        walk_at "go"
        refine k_mulR w2 ⟨by decide, by decide, by rw [sizeLine_eq]; decide⟩ (fun u3 U3 p3 q3 w3 => ?_)
        refine k_addL (q3 _ _ (q2 _ _ w1)) w3 (fun u4 U4 p4 q4 w4 => ?_) (by simp [sizeLine_eq])
        have q14 := q1.trans (q2.trans (q3.trans q4))
        have w4' : U4 u4 = some (.lst ([true, true, false, false, false, false, false, false, false, false, false, false].map V.bl)) := w4
        refine k_eqD .non (.lst (SqL.of w4') (Dt.bools [true, true, false, false, false, false, false, false, false, false, false, false])) ?_ rfl (by decide +kernel)
        rw [show PyData.eqv .none (.list ([true, true, false, false, false, false, false, false, false, false, false, false].map PyData.bool)) = false by decide +kernel]
        walk_at "go"
        refine k_lstx (fun u5 U5 p5 q5 w5 => ?_) (by simp [sizeLine_eq])
        walk_at "go"
        refine k_lstx (fun u6 U6 p6 q6 w6 => ?_) (by simp [sizeLine_eq])
        walk_at "go"
        refine k_lstx (fun u7 U7 p7 q7 w7 => ?_) (by simp [sizeLine_eq])
        walk_at "go"
        refine k_ixL (SqL.of w7) (v := .ref u5) (atI_nat (j := 0) rfl) ?_
        walk_at "go"
        refine k_lstx (fun u8 U8 p8 q8 w8 => ?_) (by simp [sizeLine_eq])
        refine k_addL (q8 _ _ (q7 _ _ (q6 _ _ w5))) w8 (fun u9 U9 p9 q9 w9 => ?_) (by simp [sizeLine_eq])
        exact kk _ U9 (s1.trans (q14.trans (q5.trans (q6.trans (q7.trans (q8.trans q9)))))) w9
      · have e : okB ns t (.part s) = false := no
        rw [e] at kk
        refine ⟨true, T.m_NoOutcome_SureError, fun _ b nb => ?_, fun z => (nomatch z)⟩
        walk_at "go"
        refine k_isE T.e_NoOutcome T.i_NoOutcome_NoFraction (fun _ h => h) ?_
        walk_at "go"
        refine k_isE T.e_NoOutcome T.i_NoOutcome_NoNumber (fun _ h => h) ?_
        walk_at "go"
        refine k_isE T.e_NoOutcome T.i_NoOutcome_Ended (fun _ h => h) ?_
        walk_at "go"
        refine k_isE T.e_NoOutcome T.i_NoOutcome_NoMargin (fun _ h => h) ?_
        walk_at "go"
        refine k_lstx (fun l1 G1 m1 t1 k1 => ?_) (by simp [sizeLine_eq])
        walk_at "go"
        refine k_isE T.e_NoOutcome T.i_NoOutcome_NoBallot (fun _ h => h) ?_
        walk_at "go"
        refine k_isE T.e_NoOutcome T.i_NoOutcome_NoRow (fun _ h => h) ?_
        walk_at "go"
        refine k_isE T.e_NoOutcome T.i_NoOutcome_NoName (fun _ h => h) ?_
        walk_at "go"
        refine k_isE T.e_NoOutcome T.i_NoOutcome_NoText (fun _ h => h) ?_
        walk_at "go"
        refine k_lstx (fun l2 G2 m2 t2 k2 => ?_) (by simp [sizeLine_eq])
        walk_at "go"
        refine k_addL (t2 _ _ k1) k2 (fun l3 G3 m3 t3 k3 => ?_) (by simp [sizeLine_eq])
        walk_at "go"
        refine k_isE T.e_NoOutcome T.i_NoOutcome_TooMany (fun _ h => h) ?_
        walk_at "go"
        refine k_isE T.e_NoOutcome T.i_NoOutcome_NoStake (fun _ h => h) ?_
        walk_at "go"
        refine k_lstx (fun l4 G4 m4 t4 k4 => ?_) (by simp [sizeLine_eq])
        walk_at "go"
        refine k_addL (t4 _ _ k3) k4 (fun l5 G5 m5 t5 k5 => ?_) (by simp [sizeLine_eq])
        walk_at "go"
        refine k_isE T.e_NoOutcome T.i_NoOutcome_NoOutcome (fun _ h => h) ?_
        walk_at "go"
        refine k_isE T.e_NoOutcome T.i_NoOutcome_ValueError (fun _ h => h) ?_
        walk_at "go"
        refine k_lstx (fun l6 G6 m6 t6 k6 => ?_) (by simp [sizeLine_eq])
        walk_at "go"
        refine k_addL k6 (t6 _ _ k5) (fun l7 G7 m7 t7 k7 => ?_) (by simp [sizeLine_eq])
        walk_at "go"
        have s2 := s1.trans (t1.trans (t2.trans (t3.trans (t4.trans (t5.trans (t6.trans t7))))))
        refine k_lstx (fun u1 U1 p1 q1 w1 => ?_) (by simp [sizeLine_eq])
        walk_at "go"
        refine k_lstx (fun u2 U2 p2 q2 w2 => ?_) (by simp [sizeLine_eq])
        walk_at "go"
        refine k_mulR w2 ⟨by decide, by decide, by rw [sizeLine_eq]; decide⟩ (fun u3 U3 p3 q3 w3 => ?_)
        refine k_addL (q3 _ _ (q2 _ _ w1)) w3 (fun u4 U4 p4 q4 w4 => ?_) (by simp [sizeLine_eq])
        have q14 := q1.trans (q2.trans (q3.trans q4))
        have w4' : U4 u4 = some (.lst ([true, true, false, false, false, false, false, false, false, false, false, false].map V.bl)) := w4
        have k7' : U4 l7 = some (.lst ([true, true, false, false, false, false, false, false, false, false, false, false].map V.bl)) := q14 _ _ k7
        refine k_eqD (.lst (SqL.of k7') (Dt.bools [true, true, false, false, false, false, false, false, false, false, false, false])) (.lst (SqL.of w4') (Dt.bools [true, true, false, false, false, false, false, false, false, false, false, false])) ?_ (by decide +kernel) (by decide +kernel)
        rw [show PyData.eqv (.list ([true, true, false, false, false, false, false, false, false, false, false, false].map PyData.bool)) (.list ([true, true, false, false, false, false, false, false, false, false, false, false].map PyData.bool)) = true by decide +kernel]
        walk_at "go"
        refine k_lstx (fun u5 U5 p5 q5 w5 => ?_) (by simp [sizeLine_eq])
        walk_at "go"
        refine k_lstx (fun u6 U6 p6 q6 w6 => ?_) (by simp [sizeLine_eq])
        walk_at "go"
        refine k_lstx (fun u7 U7 p7 q7 w7 => ?_) (by simp [sizeLine_eq])
        walk_at "go"
        refine k_ixL (SqL.of w7) (v := .ref u6) (atI_nat (j := 1) rfl) ?_
        walk_at "go"
        refine k_lstx (fun u8 U8 p8 q8 w8 => ?_) (by simp [sizeLine_eq])
        refine k_addL (q8 _ _ (q7 _ _ w6)) w8 (fun u9 U9 p9 q9 w9 => ?_) (by simp [sizeLine_eq])
        exact kk _ U9 (s2.trans (q14.trans (q5.trans (q6.trans (q7.trans (q8.trans q9)))))) w9
    | bare =>
      obtain ⟨dx, p, ha, hp⟩ := hc
      refine k_o2 ?_
      refine k_o2 ?_
      walk_at "go"
      refine k_methx ha (by walk_at "lz") ?_
      walk_at "go"
      refine ⟨a, v, rfl, ?_⟩
      have e : okB ns t .bare = false := rfl
      rw [e] at kk
      have s1 := Same.refl H
      refine ⟨true, T.m_NoOutcome_SureError, fun _ b nb => ?_, fun z => (nomatch z)⟩
      walk_at "go"
      refine k_isE T.e_NoOutcome T.i_NoOutcome_NoFraction (fun _ h => h) ?_
      walk_at "go"
      refine k_isE T.e_NoOutcome T.i_NoOutcome_NoNumber (fun _ h => h) ?_
      walk_at "go"
      refine k_isE T.e_NoOutcome T.i_NoOutcome_Ended (fun _ h => h) ?_
      walk_at "go"
      refine k_isE T.e_NoOutcome T.i_NoOutcome_NoMargin (fun _ h => h) ?_
      walk_at "go"
      refine k_lstx (fun l1 G1 m1 t1 k1 => ?_) (by simp [sizeLine_eq])
      walk_at "go"
      refine k_isE T.e_NoOutcome T.i_NoOutcome_NoBallot (fun _ h => h) ?_
      walk_at "go"
      refine k_isE T.e_NoOutcome T.i_NoOutcome_NoRow (fun _ h => h) ?_
      walk_at "go"
      refine k_isE T.e_NoOutcome T.i_NoOutcome_NoName (fun _ h => h) ?_
      walk_at "go"
      refine k_isE T.e_NoOutcome T.i_NoOutcome_NoText (fun _ h => h) ?_
      walk_at "go"
      refine k_lstx (fun l2 G2 m2 t2 k2 => ?_) (by simp [sizeLine_eq])
      walk_at "go"
      refine k_addL (t2 _ _ k1) k2 (fun l3 G3 m3 t3 k3 => ?_) (by simp [sizeLine_eq])
      walk_at "go"
      refine k_isE T.e_NoOutcome T.i_NoOutcome_TooMany (fun _ h => h) ?_
      walk_at "go"
      refine k_isE T.e_NoOutcome T.i_NoOutcome_NoStake (fun _ h => h) ?_
      walk_at "go"
      refine k_lstx (fun l4 G4 m4 t4 k4 => ?_) (by simp [sizeLine_eq])
      walk_at "go"
      refine k_addL (t4 _ _ k3) k4 (fun l5 G5 m5 t5 k5 => ?_) (by simp [sizeLine_eq])
      walk_at "go"
      refine k_isE T.e_NoOutcome T.i_NoOutcome_NoOutcome (fun _ h => h) ?_
      walk_at "go"
      refine k_isE T.e_NoOutcome T.i_NoOutcome_ValueError (fun _ h => h) ?_
      walk_at "go"
      refine k_lstx (fun l6 G6 m6 t6 k6 => ?_) (by simp [sizeLine_eq])
      walk_at "go"
      refine k_addL k6 (t6 _ _ k5) (fun l7 G7 m7 t7 k7 => ?_) (by simp [sizeLine_eq])
      walk_at "go"
      have s2 := s1.trans (t1.trans (t2.trans (t3.trans (t4.trans (t5.trans (t6.trans t7))))))
      refine k_lstx (fun u1 U1 p1 q1 w1 => ?_) (by simp [sizeLine_eq])
      walk_at "go"
      refine k_lstx (fun u2 U2 p2 q2 w2 => ?_) (by simp [sizeLine_eq])
      walk_at "go"
      refine k_mulR w2 ⟨by decide, by decide, by rw [sizeLine_eq]; decide⟩ (fun u3 U3 p3 q3 w3 => ?_)
      refine k_addL (q3 _ _ (q2 _ _ w1)) w3 (fun u4 U4 p4 q4 w4 => ?_) (by simp [sizeLine_eq])
      have q14 := q1.trans (q2.trans (q3.trans q4))
      have w4' : U4 u4 = some (.lst ([true, true, false, false, false, false, false, false, false, false, false, false].map V.bl)) := w4
      have k7' : U4 l7 = some (.lst ([true, true, false, false, false, false, false, false, false, false, false, false].map V.bl)) := q14 _ _ k7
      refine k_eqD (.lst (SqL.of k7') (Dt.bools [true, true, false, false, false, false, false, false, false, false, false, false])) (.lst (SqL.of w4') (Dt.bools [true, true, false, false, false, false, false, false, false, false, false, false])) ?_ (by decide +kernel) (by decide +kernel)
      rw [show PyData.eqv (.list ([true, true, false, false, false, false, false, false, false, false, false, false].map PyData.bool)) (.list ([true, true, false, false, false, false, false, false, false, false, false, false].map PyData.bool)) = true by decide +kernel]
      walk_at "go"
      refine k_lstx (fun u5 U5 p5 q5 w5 => ?_) (by simp [sizeLine_eq])
      walk_at "go"
      refine k_lstx (fun u6 U6 p6 q6 w6 => ?_) (by simp [sizeLine_eq])
      walk_at "go"
      refine k_lstx (fun u7 U7 p7 q7 w7 => ?_) (by simp [sizeLine_eq])
      walk_at "go"
      refine k_ixL (SqL.of w7) (v := .ref u6) (atI_nat (j := 1) rfl) ?_
      walk_at "go"
      refine k_lstx (fun u8 U8 p8 q8 w8 => ?_) (by simp [sizeLine_eq])
      refine k_addL (q8 _ _ (q7 _ _ w6)) w8 (fun u9 U9 p9 q9 w9 => ?_) (by simp [sizeLine_eq])
      exact kk _ U9 (s2.trans (q14.trans (q5.trans (q6.trans (q7.trans (q8.trans q9)))))) w9
end
end Lw
namespace Lw
open PySem PySem.Spec PyProof.Rows L2 Gx
section
variable {P : Program} {w : World} {K : PySem.W.Frag} {mg : Str → Option Value} {base : Heap} {f : Addr} {fd : FuncData}
theorem ok__law_could (F : FnP K "_law_could" "_law_could" s__law_could f fd) (T : Txt K mg) : FnOk P w K mg base (L2.CX P w) 1 f fd ["_law_thing_here", "_law_names", "_law_seats"] (sp__law_could K) := by
  refine F.ok sc__law_could (fun vs H Q E h => ?_) (fun cdv A outer s H vs Q E hr h => ?_)
  · obtain ⟨p, PP, v, t, ns, k, rfl, _⟩ := h; rfl
  · refine ⟨_, (pss_cons (ps_if (PW.pt (pw_or (pt_not (pt_val (pe_callB (callK (K := K) (r := rIsi) rfl call_isi) (by rfl) T.n_isinstance (by decide +kernel) (pa_cons (pv 0) (pa_cons (pe_bltn (v := .ty "tuple") (by rfl) T.n_tuple (by decide +kernel) rfl) pa_nil))))) (pw_or1 (pt_cmpR (op_neK (K := K) rfl hr) (pe_callB (callK (K := K) (r := rLenU) rfl call_lenU) (by rfl) T.n_len (by decide +kernel) (pa_cons (pv 0) pa_nil)) (pv 2) (nomark _))))) (pss_one (ps_ret pe_bl)) pss_nil) (pss_one (ps_ret (pe_cmpR (op_eqK (K := K) rfl hr) (pe_callTy (callK (K := K) (r := rLstU) rfl call_lstU) (by rfl) T.n_list (by decide +kernel) (pa_cons (pv 0) pa_nil)) (pe_lc (own := [("_law_name", 3)]) (g := gName 3) (by rfl) sc__law_could.nd (pi_seqU (pv 1)) (blkOk_by (own := [("_law_name", 3)]) (N := ["_law_thing_here", "_law_names", "_law_seats", "_law_name"]) (sc := defScope s__law_could) (by decide +kernel)) (fun _ _ _ _ _ => pg_name (i := 3) sc__law_could.nd rfl (Or.inl rfl)) (fun _ _ _ _ _ => (pts_one (pt_cmpR (Mx.op_inMK (K := K) rfl hr) (pv 3) (pv 0) (by with_unfolding_all rfl)))) (fun _ _ _ _ _ => (pv 3))) (nomark _))))), ?_⟩
    obtain ⟨p, PP, v, t, ns, k, rfl, hp, n60, nnd, hnm, ht, t60, kk⟩ := h
    cases t with
    | none =>
      obtain ⟨u, hu, hk⟩ := ht.oth
      walk_at "go"
      refine k_isi (.ty "tuple") hu hk ?_
      walk_at "go"
      exact kk H (Same.refl H)
    | some os =>
    cases ht with
    | @tup q xs _ hq it =>
    have o60 := t60 os rfl
    have xl : xs.length = os.length := Mx.paired_lenM it
    walk_at "go"
    refine k_isi (.ty "tuple") (ty_tup hq) (kit_ty (r := true) (by decide +kernel)) ?_
    walk_at "go"
    refine k_lenT ?_ hq
    rw [xl]
    walk_at "go"
    have kk0 : (Mx.fitO ns k os) → ∀ H', Same H H' → Q (.bl true) H' := fun f H' s => by have := kk H' s; rw [Mx.couldB_iff.mpr f] at this; exact this
    have kk1 : ¬ (Mx.fitO ns k os) → ∀ H', Same H H' → Q (.bl false) H' := fun f H' s => by
      have := kk H' s
      rw [show Mx.couldB ns k (some os) = false by cases e : Mx.couldB ns k (some os) with | false => rfl | true => exact absurd (Mx.couldB_iff.mp e) f] at this
      exact this
    refine k_ifn (fun c => ?_) (fun c => ?_)
    · walk_at "go"
      exact kk1 (fun z => c (by rw [z.1])) H (Same.refl H)
    walk_at "go"
    refine k_lstT hq (fun lq H1 n1 s1 h1 => ?_)
    have hp1 := seqL_same s1 hp
    walk_at "go"
    refine k_lcU (.inl hp1) (fun D i ys H' => ys = ((ns.take i).filter fun n => decide (some n ∈ os)).map V.str ∧ Same H1 H') (fun D H' nD sD hD => ⟨rfl, sD⟩) (fun D i ys H' nD h => h.2) ?_ ?_
    · rintro D i x ys H' nD hx ⟨rfl, s⟩ hD
      obtain ⟨n, hn, rfl⟩ := Cm.get_map hx
      have hlen : ((ns.take i).filter fun n => decide (some n ∈ os)).length ≤ 60 := Nat.le_trans (List.length_filter_le ..) (by rw [List.length_take]; omega)
      refine k_lcB rfl ?_
      walk_at "go"
      refine ⟨q, xs, os.map (fun o => decide (o = some n)), rfl, seqT_same (s1.trans s) hq, Mx.ceq_map (hnm n (List.mem_of_getElem? hn)).ok (Mx.pr_mp (fun _ _ h => h.same (s1.trans s)) it), ?_⟩
      rw [Mx.any_map]
      walk_at "go"
      refine k_if (fun c => ?_) (fun c => ?_)
      · walk_at "go"
        refine ⟨_, hD, (by rw [sizeLine_eq, List.length_map]; omega), _, ⟨?_, But.same nD s But.upd⟩, upd_same⟩
        rw [take_snoc hn, List.filter_append]
        simp [c]
      · refine ⟨_, ⟨?_, s⟩, hD⟩
        rw [take_snoc hn, List.filter_append]
        simp [c]
    rintro D ys H2 nD ⟨rfl, s2⟩ hD
    rw [List.length_map, List.take_of_length_le (Nat.le_refl _)] at hD
    have h12 := s2 _ _ h1
    have s12 := s1.trans s2
    rcases Mx.split_some os with hnone | ⟨zs, rfl⟩
    · have fl := Mx.few_names nnd hnone
      refine .inr (.inr ⟨lq, D, xs, _, rfl, rfl, SqL.of h12, SqL.of hD, ?_, ?_⟩)
      · rw [List.length_map]; omega
      · exact kk1 (Mx.none_unfit hnone) H2 s12
    obtain ⟨rfl, hok⟩ := Mx.it_strs it
    rw [Mx.filt_some] at hD
    rw [List.length_map] at c
    have sh : ∀ zs : List Str, (∀ s ∈ zs, PyData.strOk s = true) → SeqAt.shaped (.list (zs.map .str)) = true := fun zs h => Dt.Sh.ok (k := 1) (Dt.sh_lst fun x hx => by
      obtain ⟨n, hn, rfl⟩ := List.mem_map.mp hx
      exact Dt.sh_str (h n hn))
    refine k_eqD (.lst (SqL.of h12) (Dt.strz zs)) (.lst (SqL.of hD) (Dt.strz _)) ?_ (sh zs hok) (sh _ fun s hs => (hnm s (List.mem_filter.mp hs).1).ok)
    rw [show PyData.eqv (.list (zs.map .str)) (.list ((ns.filter (Co.has zs)).map .str)) = decide (zs = ns.filter (Co.has zs)) from Co.eqv_strs _ _]
    by_cases e : zs = ns.filter (Co.has zs)
    · rw [decide_eq_true e]
      exact kk0 (Mx.fit_some.mpr ⟨by omega, e⟩) H2 s12
    · rw [decide_eq_false e]
      exact kk1 (fun z => e (Mx.fit_some.mp z).2) H2 s12
end
end Lw
namespace Lw
open PySem PySem.Spec PyProof.Rows L2 Gx
section
variable {P : Program} {w : World} {K : PySem.W.Frag} {mg : Str → Option Value} {base : Heap} {f : Addr} {fd : FuncData}
theorem ok__law_asked (F : FnP K "_law_asked" "_law_asked" s__law_asked f fd) (T : Txt K mg) (c__law_refused : Cl P w K mg base 4 "_law_refused" ["_law_contest", "_law_thing_here"] (sp__law_refused K)) : FnOk P w K mg base (L2.CX P w) 5 f fd ["_law_contest", "_law_thing_here", "_law_due"] (sp__law_asked K) := by
  refine F.ok sc__law_asked (fun vs H Q E h => ?_) (fun cdv A outer s H vs Q E hr h => ?_)
  · obtain ⟨a, PP, v, t, ns, d, b, rfl, _⟩ := h; rfl
  · refine ⟨_, (pss_cons (ps_set (i := 3) sc__law_asked.nd rfl (Or.inl rfl) (pe_ix (ix_K (K := K) rfl) (pe_lst (pa_cons (pe_lst (pa_cons pe_str (pa_cons pe_bl pa_nil))) (pa_cons (pe_lst (pa_cons pe_str (pa_cons pe_bl pa_nil))) pa_nil))) (pe_callTy call_intU (by rfl) T.n_int (by decide +kernel) (pa_cons (pv 2) pa_nil)) (fun _ _ => rfl))) (pss_one (ps_ret (pe_and (pe_cmpR (op_eqK (K := K) rfl hr) (pcall c__law_refused hr (by first | decide | omega) (takes_of rfl rfl rfl rfl) (pa_cons (pv 0) (pa_cons (pv 1) pa_nil))) (pv 3) (nomark _)) (pe_one (pe_cmpR (op_eqK (K := K) rfl hr) (pcall c__law_refused hr (by first | decide | omega) (takes_of rfl rfl rfl rfl) (pa_cons (pv 0) (pa_cons (pv 1) pa_nil))) (pv 3) (nomark _))))))), ?_⟩
    obtain ⟨a, PP, v, t, ns, d, b, rfl, hc, n60, nnd, hnm, ht, t60, eb, kk⟩ := h
    walk_at "go"
    refine k_lstx (fun u1 H1 p1 q1 w1 => ?_) (by simp [sizeLine_eq])
    walk_at "go"
    refine k_lstx (fun u2 H2 p2 q2 w2 => ?_) (by simp [sizeLine_eq])
    walk_at "go"
    refine k_lstx (fun u3 H3 p3 q3 w3 => ?_) (by simp [sizeLine_eq])
    walk_at "go"
    obtain ⟨u, hu, hw⟩ : ∃ u, atI [V.ref u1, V.ref u2] (if b = true then 1 else 0) = some (.ref u) ∧ H3 u = some (.lst (ansV b)) := by
      cases b with
      | true => exact ⟨u2, rfl, q3 _ _ w2⟩
      | false => exact ⟨u1, rfl, q3 _ _ (q2 _ _ w1)⟩
    refine k_ixL (SqL.of w3) hu ?_
    have s3 := q1.trans (q2.trans q3)
    have dp : ∀ {G : Hp} {r : Addr}, G r = some (.lst (ansV b)) → Dp K G (.ref r) (.list (if b = true then [.str (Str.ofString "told"), .bool true] else [.str (Str.ofString "refused"), .bool false])) := fun {G r} h => by
      refine .lst (SqL.of h) ?_
      cases b with
      | true => exact .cons (.str _) (.cons (.bl _) .nil)
      | false => exact .cons (.str _) (.cons (.bl _) .nil)
    have sh : SeqAt.shaped (.list (if b = true then [.str (Str.ofString "told"), .bool true] else [.str (Str.ofString "refused"), .bool false])) = true := by cases b <;> decide +kernel
    have ee : PyData.eqv (.list (if b = true then [.str (Str.ofString "told"), .bool true] else [.str (Str.ofString "refused"), .bool false])) (.list (if b = true then [.str (Str.ofString "told"), .bool true] else [.str (Str.ofString "refused"), .bool false])) = true := by cases b <;> decide +kernel
    walk_at "go"
    refine ⟨a, PP, v, t, ns, d, rfl, hc.same s3, n60, nnd, hnm, ht.same s3, t60, fun r H4 s4 h4 => ?_⟩
    rw [← eb] at h4
    walk_at "go"
    refine k_eqD (dp h4) (dp (s4 _ _ hw)) ?_ sh sh
    rw [ee]
    walk_at "go"
    refine ⟨a, PP, v, t, ns, d, rfl, hc.same (s3.trans s4), n60, nnd, hnm, ht.same (s3.trans s4), t60, fun r2 H5 s5 h5 => ?_⟩
    rw [← eb] at h5
    walk_at "go"
    refine k_eqD (dp h5) (dp (s5 _ _ (s4 _ _ hw))) ?_ sh sh
    rw [ee]
    exact kk H5 (s3.trans (s4.trans s5))
end
end Lw
namespace Lw
open PySem PySem.Spec PyProof.Rows L2 Gx
section
variable {P : Program} {w : World} {K : PySem.W.Frag} {mg : Str → Option Value} {base : Heap} {f : Addr} {fd : FuncData}
theorem ok_law (F : FnP K "law" "law" s_law f fd) (T : Txt K mg) (c__law_thing : Cl P w K mg base 2 "_law_thing" ["_law_source_here", "_law_names"] (sp__law_thing K)) (c__law_asked : Cl P w K mg base 5 "_law_asked" ["_law_contest", "_law_thing_here", "_law_due"] (sp__law_asked K)) (k_Contest : KCl P w K mg base 1 "Contest" ["self", "names"] (sp_Contest___init__ K)) (c__law_could : Cl P w K mg base 1 "_law_could" ["_law_thing_here", "_law_names", "_law_seats"] (sp__law_could K)) (c__law_bent : Cl P w K mg base 2 "_law_bent" ["_law_source_here", "_law_chosen", "_law_names"] (sp__law_bent K)) (k_Portion : KCl P w K mg base 2 "Portion" ["self", "names", "share"] (sp_Portion___init__ K)) (c__law_half : Cl P w K mg base 2 "_law_half" ["_law_source_here"] (sp__law_half K)) (k_Most : KCl P w K mg base 2 "Most" ["self", "names", "seats"] (sp_Most___init__ K)) (c__law_draw : Cl P w K mg base 1 "_law_draw" ["_law_source_here", "_law_most"] (sp__law_draw K)) (c__law_mixed_up : Cl P w K mg base 2 "_law_mixed_up" ["_law_source_here", "_law_names"] (sp__law_mixed_up K)) (c__law_unlike : Cl P w K mg base 2 "_law_unlike" ["_law_source_here", "_law_many"] (sp__law_unlike K)) (c__law_source : Cl P w K mg base 1 "_law_source" ["_law_script"] (sp__law_source K)) : FnOk P w K mg base CX0 6 f fd ["_law_script"] (sp_law K) := by
  refine F.ok sc_law (fun vs H Q E h => ?_) (fun cdv A outer s H vs Q E hr h => ?_)
  · obtain ⟨a, ns, rfl, _⟩ := h; rfl
  · refine ⟨_, PSs.nox (pss_cons (ps_set (i := 1) sc_law.nd rfl (Or.inr rfl) (pcallN c__law_source hr (by first | decide | omega) (pa_cons (pv 0) pa_nil))) (pss_cons (ps_set (i := 2) sc_law.nd rfl (Or.inr rfl) (pcallN c__law_mixed_up hr (by first | decide | omega) (pa_cons (pv 1) (pa_cons (pcallN c__law_unlike hr (by first | decide | omega) (pa_cons (pv 1) (pa_cons (pe_op (op_addK (K := K) rfl) pe_int (pcallN c__law_draw hr (by first | decide | omega) (pa_cons (pv 1) (pa_cons pe_int pa_nil)))) pa_nil))) pa_nil)))) (pss_cons (ps_set (i := 3) sc_law.nd rfl (Or.inl rfl) (pe_op (op_addK (K := K) rfl) pe_int (pcallN c__law_draw hr (by first | decide | omega) (pa_cons (pv 1) (pa_cons (pe_op op_sub (pe_callB (callK (K := K) (r := rLenU) rfl call_lenU) (by rfl) T.n_len (by decide +kernel) (pa_cons (pv 2) pa_nil)) pe_int) pa_nil))))) (pss_cons (ps_set (i := 4) sc_law.nd rfl (Or.inr rfl) (pe_callTy (callK (K := K) (r := rLstU) rfl call_lstU) (by rfl) T.n_list (by decide +kernel) (pa_cons (pv 2) pa_nil))) (pss_cons (ps_for PassesOwn.never rfl (pi_range1 rfl T.n_range (pa_cons (pe_op op_sub (pe_callB (callK (K := K) (r := rLenU) rfl call_lenU) (by rfl) T.n_len (by decide +kernel) (pa_cons (pv 2) pa_nil)) (pv 3)) pa_nil)) (pg_name (i := 5) sc_law.nd rfl (Or.inl rfl)) (pss_one (ps_expr (pe_bmK (K := K) rfl PySem.F.plainAttrs_list PySem.F.slot_list_pop PySem.F.type_list_pop mt_popAt (pv 4) (pa_cons (pcallN c__law_draw hr (by first | decide | omega) (pa_cons (pv 1) (pa_cons (pe_callB (callK (K := K) (r := rLenU) rfl call_lenU) (by rfl) T.n_len (by decide +kernel) (pa_cons (pv 4) pa_nil)) pa_nil))) pa_nil))))) (pss_cons (ps_set (i := 6) sc_law.nd rfl (Or.inl rfl) (pmake rfl k_Most hr (by first | decide | omega) (pa_cons (pe_callTy (callK (K := K) (r := rTupV) rfl call_tupV) (by rfl) T.n_tuple (by decide +kernel) (pa_cons (pv 2) pa_nil)) (pa_cons (pv 3) pa_nil)))) (pss_cons (ps_set (i := 7) sc_law.nd rfl (Or.inl rfl) (pmake rfl k_Portion hr (by first | decide | omega) (pa_cons (pe_callTy (callK (K := K) (r := rTupV) rfl call_tupV) (by rfl) T.n_tuple (by decide +kernel) (pa_cons (pv 2) pa_nil)) (pa_cons (pcallN c__law_half hr (by first | decide | omega) (pa_cons (pv 1) pa_nil)) pa_nil)))) (pss_cons (ps_set (i := 8) sc_law.nd rfl (Or.inl rfl) (pe_op (op_addK (K := K) rfl) (pe_lst (pa_cons (pe_callTy (callK (K := K) (r := rTupV) rfl call_tupV) (by rfl) T.n_tuple (by decide +kernel) (pa_cons (pv 4) pa_nil)) pa_nil)) (pe_lc (own := [("_law_k", 5)]) (g := gName 5) (by rfl) sc_law.nd (pi_range1 rfl T.n_range (pa_cons pe_int pa_nil)) (blkOk_by (own := [("_law_k", 5)]) (N := ["_law_script", "_law_source_here", "_law_names", "_law_seats", "_law_chosen", "_law_k", "_law_most", "_law_portion", "_law_things", "_law_thing_here", "_law_one"]) (sc := defScope s_law) (by decide +kernel)) (fun _ _ _ _ _ => pg_name (i := 5) sc_law.nd rfl (Or.inl rfl)) (fun _ _ _ _ _ => pts_nil) (fun _ _ _ _ _ => (pcallN c__law_bent hr (by first | decide | omega) (pa_cons (pv 1) (pa_cons (pv 4) (pa_cons (pv 2) pa_nil)))))))) (pss_cons (ps_for PassesOwn.never rfl (pi_seqU (pe_op (op_addK (K := K) rfl) (pv 8) (pe_lst (pa_cons (pcallN c__law_thing hr (by first | decide | omega) (pa_cons (pv 1) (pa_cons (pv 2) pa_nil))) (pa_cons (pcallN c__law_thing hr (by first | decide | omega) (pa_cons (pv 1) (pa_cons (pv 2) pa_nil))) pa_nil))))) (pg_name (i := 9) sc_law.nd rfl (Or.inl rfl)) (pss_cons (ps_if (pt_not (pt_val (pcallN c__law_asked hr (by first | decide | omega) (pa_cons (pv 6) (pa_cons (pv 9) (pa_cons (pcallN c__law_could hr (by first | decide | omega) (pa_cons (pv 9) (pa_cons (pv 2) (pa_cons (pv 3) pa_nil)))) pa_nil)))))) (pss_one (ps_ret pe_bl)) pss_nil) (pss_cons (ps_set (i := 10) sc_law.nd rfl (Or.inl rfl) (pe_or (pcallN c__law_could hr (by first | decide | omega) (pa_cons (pv 9) (pa_cons (pv 2) (pa_cons pe_int pa_nil)))) (pe_one (pe_and (pe_callB (callK (K := K) (r := rIsi) rfl call_isi) (by rfl) T.n_isinstance (by decide +kernel) (pa_cons (pv 9) (pa_cons (pe_bltn (v := .ty "tuple") (by rfl) T.n_tuple (by decide +kernel) rfl) pa_nil))) (pe_one (pe_cmpR (Mx.op_eqX (K := K) rfl hr) (pv 9) (pe_tup pa_nil) (nomark _))))))) (pss_one (ps_if (PW.pt (pw_or (pt_not (pt_val (pcallN c__law_asked hr (by first | decide | omega) (pa_cons (pv 7) (pa_cons (pv 9) (pa_cons (pv 10) pa_nil)))))) (pw_or1 (pt_not (pt_val (pcallN c__law_asked hr (by first | decide | omega) (pa_cons (pmake rfl k_Contest hr (by first | decide | omega) (pa_cons (pe_callTy (callK (K := K) (r := rTupV) rfl call_tupV) (by rfl) T.n_tuple (by decide +kernel) (pa_cons (pv 2) pa_nil)) pa_nil)) (pa_cons (pv 9) (pa_cons pe_bl pa_nil))))))))) (pss_one (ps_ret pe_bl)) pss_nil))))) (pss_one (ps_ret pe_bl))))))))))), ?_⟩
    obtain ⟨a, ns, rfl, hS, hl, kk⟩ := h
    walk_at "go"
    refine ⟨a, ns, rfl, hS, hl, fun l cs H1 s1 nl hl1 sr1 => ?_⟩
    walk_at "go"
    refine ⟨l, cs, 5, rfl, hl1, sr1, by decide, by decide, fun r cs2 H2 b2 hl2 sr2 r0 r1 => ?_⟩
    walk_at "go"
    obtain ⟨M, eM⟩ := Int.eq_ofNat_of_zero_le (show 0 ≤ 2 + r by omega)
    rw [eM]
    refine ⟨l, cs2, M, rfl, hl2, sr2, by omega, by omega, fun q0 ns0 cs3 H3 b3 hl3 sr3 nq0 hq0 hlen0 hnd0 hnm0 => ?_⟩
    have nql0 : q0 ≠ l := fun e => by subst e; rw [nq0] at hl2; cases hl2
    refine ⟨l, q0, cs3, ns0, rfl, hl3, sr3, hq0, nql0, by omega, fun q ns cs4 H4 b4 hl4 sr4 nq hq pm => ?_⟩
    have hlen : ns.length = M := by rw [pm.length_eq, hlen0]
    have hnd : ns.Nodup := pm.symm.nodup hnd0
    have hnm : ∀ s ∈ ns, Pl.Nm s := fun s hs => hnm0 s (pm.mem_iff.mp hs)
    have nql : q ≠ l := fun e => by subst e; rw [nq] at hl3; cases hl3
    walk_at "go"
    refine k_lenL ?_ (SqL.of hq)
    rw [List.length_map, hlen]
    walk_at "go"
    refine ⟨l, cs4, (M : Int) - 1, rfl, hl4, sr4, by omega, by omega, fun r5 cs5 H5 b5 hl5 sr5 r50 r51 => ?_⟩
    obtain ⟨k, ek⟩ := Int.eq_ofNat_of_zero_le (show 0 ≤ 1 + r5 by omega)
    have k1 : 1 ≤ k ∧ k < M := by omega
    have hq5 := b5 _ _ nql hq
    walk_at "go"
    rw [ek]
    refine k_lstL (SqL.of hq5) (fun c H6 nc s6 hc => ?_)
    walk_at "go"
    have hl6 := s6 _ _ hl5
    have hq6 := s6 _ _ hq5
    have ncl : c ≠ l := fun e => by subst e; rw [nc] at hl5; cases hl5
    have ncq : c ≠ q := fun e => by subst e; rw [nc] at hq5; cases hq5
    refine k_lenL ?_ (SqL.of hq6)
    rw [List.length_map, hlen]
    walk_at "go"
    refine k_rng1 (by omega) ?_
    rw [show ((M : Int) - (k : Int)).toNat = M - k by omega]
    refine k_loopR (n := M - k) (fun i σ H' => ∃ (t : Option V) (cs : List Int) (os : List Str), σ = [some (.ref a), some (.ref l), some (.ref q), some (.int (k : Int)), some (.ref c), t, none, none, none, none, none] ∧
      H' l = some (.lst (cs.map V.int)) ∧ Sr.Src cs ∧ H' q = some (.lst (ns.map V.str)) ∧ H' c = some (.lst (os.map V.str)) ∧ os.Sublist ns ∧ os.length + i = M) ⟨none, cs5, ns, rfl, hl6, sr5, hq6, hc, List.Sublist.refl ns, by omega⟩ ?_ ?_
    · rintro i σ H7 hi ⟨t, cs7, os, rfl, hl7, sr7, hq7, hc7, sub, hol⟩
      walk_at "go"
      refine ⟨k_app0 hc7, ?_⟩
      walk_at "go"
      refine k_lenL ?_ (SqL.of hc7)
      rw [List.length_map]
      walk_at "go"
      refine ⟨l, cs7, (os.length : Int), rfl, hl7, sr7, by omega, by omega, fun r8 cs8 H8 b8 hl8 sr8 r80 r81 => ?_⟩
      have hc8 := b8 _ _ ncl hc7
      have hq8 := b8 _ _ nql hq7
      walk_at "go"
      obtain ⟨j, ej⟩ := Int.eq_ofNat_of_zero_le r80
      rw [ej]
      have hj : j < os.length := by omega
      refine k_popAt hc8 (y := .str (os[j]'hj)) (by rw [List.getElem?_map, List.getElem?_eq_getElem hj]; rfl) (by rw [List.length_map]; omega) (fun H9 b9 hc9 => ?_)
      refine ⟨_, cs8, os.eraseIdx j, rfl, b9 _ _ (Ne.symm ncl) hl8, sr8, b9 _ _ (Ne.symm ncq) hq8, by rw [hc9, erase_mapL], (List.eraseIdx_sublist os j).trans sub, ?_⟩
      rw [List.length_eraseIdx, if_pos hj]
      omega
    rintro σ H7 ⟨t, cs7, os, rfl, hl7, sr7, hq7, hc7, sub, hol⟩
    have ok : os.length = k := by omega
    have hom : ∀ s ∈ os, Pl.Nm s := fun s hs => hnm s (sub.subset hs)
    have o1 : 1 ≤ os.length := by omega
    have o9 : os.length ≤ 9 := by omega
    walk_at "go"
    refine k_tupL (SqL.of hq7) (fun tq H8 n8 s8 htq => ?_)
    walk_at "go"
    refine k_makex (fun m d0 A1 x0 xd0 g0 i0 o0 => ⟨m, d0, _, _, rfl, i0, fun A2 c0 i0 => ⟨rfl, ?_⟩⟩)
    have sm := But.same x0 g0 c0
    have s82 := s8.trans sm
    have hl9 := s82 _ _ hl7
    have cm : CAt K A2 m ns (.most k) := ⟨d0, tq, i0, seqT_same sm (SqT.of htq)⟩
    walk_at "go"
    refine k_tupL (SqL.of (s82 _ _ hq7)) (fun tr H9 n9 s9 htr => ?_)
    walk_at "go"
    refine ⟨l, cs7, rfl, s9 _ _ hl9, sr7, fun z y part whole csA HA bA hlA srA nz hz es p1 p2 p3 p4 => ?_⟩
    have htrA : SqT K HA tr (ns.map V.str) := seqT_but bA (s9 _ _ hl9) (SqT.of htr)
    have cmA := (cm.same s9).but bA (s9 _ _ hl9)
    have hqA := bA _ _ nql (s9 _ _ (s82 _ _ hq7))
    have hcA := bA _ _ ncl (s9 _ _ (s82 _ _ hc7))
    walk_at "go"
    refine k_makex (fun po d1 B1 x1 xd1 g1 i1 o1' => ⟨po, d1, _, _, rfl, i1, fun B2 c1 i1 => ⟨rfl, ?_⟩⟩)
    have sp_ := But.same x1 g1 c1
    have cp : CAt K B2 po ns (.part y) := ⟨d1, tr, z, i1, seqT_same sp_ htrA, seqT_same sp_ hz⟩
    have cmB := cmA.same sp_
    have hlB := sp_ _ _ hlA
    have hqB := sp_ _ _ hqA
    have hcB := sp_ _ _ hcA
    walk_at "go"
    refine k_tupL (SqL.of hcB) (fun tc C1 m1 t1 htc => ?_)
    walk_at "go"
    refine k_lstx (fun u1 C2 m2 t2 hu1 => ?_) (by simp [sizeLine_eq])
    have t12 := t1.trans t2
    have hlC := t12 _ _ hlB
    have hqC := t12 _ _ hqB
    have hcC := t12 _ _ hcB
    have nl1 : u1 ≠ l := fun e => by subst e; rw [t1 _ _ hlB] at m2; cases m2
    walk_at "go"
    refine k_rng1 (by decide) ?_
    refine k_lcR (n := 4) (fun D i ys H' => ∃ (ts : List (Option (List (Option Str)))) (cs' : List Int), Paired (TT K H' fun x => C2 x = none ∧ x ≠ D) ys ts ∧ ys.length = i ∧ But l C2 H' ∧ H' l = some (.lst (cs'.map V.int)) ∧ Sr.Src cs') (fun D H' nD sD hD => ⟨[], csA, .nil, rfl, But.of sD, sD _ _ hlC, srA⟩) ?_ ?_
    · rintro D i ys H' nD hi ⟨ts, cs', hts, yl, b, hl', sr'⟩ hD
      have nDl : D ≠ l := fun e => by subst e; rw [hlC] at nD; cases nD
      refine k_lcB rfl ?_
      walk_at "go"
      refine ⟨l, c, q, cs', os, ns, rfl, ncl, nql, hl', sr', b _ _ ncl hcC, o1, o9, b _ _ nql hqC, by omega, by omega, hom, hnm, fun v t cs2 H2 b2' hl2' sr2' ht t60 => ?_⟩
      have hD2 := b2' _ _ nDl hD
      have nPl : ∀ x, (C2 x = none ∧ x ≠ D) → x ≠ l := fun x px e => by subst e; rw [hlC] at px; cases px.1
      refine ⟨_, hD2, by rw [sizeLine_eq]; omega, _, ⟨ts ++ [t], cs2, ?_, by simp [yl], fun x o' n h => But.upd _ _ (fun e => by subst e; rw [nD] at h; cases h) (b2' _ _ n (b _ _ n h)), But.upd _ _ (Ne.symm nDl) hl2', sr2'⟩, upd_same⟩
      have keepD : ∀ {w v : V} {t : Option (List (Option Str))}, TT K H2 (fun x => C2 x = none ∧ x ≠ D) v t → TT K (upd H2 D (.lst (ys ++ [w]))) (fun x => C2 x = none ∧ x ≠ D) v t := fun h => ⟨h.1.but But.upd hD2 fun x px => px.2, h.2⟩
      have app : ∀ {α β : Type} {R : α → β → Prop} {as : List α} {bs : List β} {a : α} {b : β}, Paired R as bs → R a b → Paired R (as ++ [a]) (bs ++ [b]) := fun {α β R as bs a b} h g => by
        induction h with
        | nil => exact .cons g .nil
        | cons h r ih => exact .cons h ih
      refine app (Mx.pr_mp (fun v t h => keepD ⟨h.1.but b2' hl' nPl, h.2⟩) hts) (keepD ⟨ht.mono fun x hx => ⟨?_, fun e => by subst e; rw [hD] at hx; cases hx⟩, t60⟩)
      exact But.free' b (fun e => by subst e; rw [hl'] at hx; cases hx) hx
    rintro D ys H10 nD ⟨ts, cs10, hts, yl, b10, hl10, sr10⟩ hD
    walk_at "go"
    refine k_addL (b10 _ _ nl1 hu1) hD (fun W1 H11 nW1 s11 hW1 => ?_) (by rw [sizeLine_eq]; simp; omega)
    have hl11 := s11 _ _ hl10
    have nW1l : W1 ≠ l := fun e => by subst e; rw [hl10] at nW1; cases nW1
    have b11 : But l C2 H11 := b10.trans (But.of s11)
    have p11 : Paired (TT K H11 fun x => x ≠ l) ([V.ref tc] ++ ys) (some (os.map some) :: ts) := .cons ⟨.tup (seqT_but b11 hlC (SqT.of (t2 _ _ htc))) (its hom), fun os' e => by cases e; rw [List.length_map]; omega⟩ (Mx.pr_mp (fun v t h => ⟨(h.1.mono fun x px e => by subst e; rw [hlC] at px; cases px.1).same s11, h.2⟩) hts)
    walk_at "go"
    refine ⟨l, q, cs10, ns, rfl, hl11, sr10, b11 _ _ nql hqC, by omega, hnm, fun v1 t1' cs12 H12 b12 hl12 sr12 ht1 t160 => ?_⟩
    have b012 := b11.trans b12
    walk_at "go"
    refine ⟨l, q, cs12, ns, rfl, hl12, sr12, b012 _ _ nql hqC, by omega, hnm, fun v2 t2' cs13 H13 b13 hl13 sr13 ht2 t260 => ?_⟩
    have b013 := b012.trans b13
    walk_at "go"
    refine k_lstx (fun w2 H14 nw2 s14 hw2 => ?_) (by simp [sizeLine_eq])
    refine k_addL (s14 _ _ (b13 _ _ nW1l (b12 _ _ nW1l hW1))) hw2 (fun W H15 nW s15 hW => ?_) (by rw [sizeLine_eq]; simp; omega)
    have s1415 := s14.trans s15
    have nll : ∀ x : Addr, x ≠ l → x ≠ l := fun _ h => h
    have fr : ∀ {G : Hp} {xs : List V}, G l = some (.lst xs) → ∀ x, G x = none → x ≠ l := fun h x hx e => by subst e; rw [h] at hx; cases hx
    have apps : ∀ {α β : Type} {R : α → β → Prop} {as cs : List α} {bs ds : List β}, Paired R as bs → Paired R cs ds → Paired R (as ++ cs) (bs ++ ds) := fun {α β R as cs bs ds} h g => by
      induction h with
      | nil => exact g
      | cons h r ih => exact .cons h ih
    have p15 : Paired (TT K H15 fun x => x ≠ l) ([V.ref tc] ++ ys ++ [v1, v2]) (some (os.map some) :: ts ++ [t1', t2']) := apps (Mx.pr_mp (fun v t h => ⟨((h.1.but b12 hl11 nll).but b13 hl12 nll).same s1415, h.2⟩) p11) (.cons ⟨((ht1.mono (fr hl11)).but b13 hl12 nll).same s1415, t160⟩ (.cons ⟨(ht2.mono (fr hl12)).same s1415, t260⟩ .nil))
    have cm15 := (((cmB.same t12).but b013 hlC).same s1415)
    have cp15 := (((cp.same t12).but b013 hlC).same s1415)
    have hq15 := s1415 _ _ (b013 _ _ nql hqC)
    refine k_itUL (SqL.of hW) ?_
    refine k_loopL (fun i σ H' => Same H15 H' ∧ ∃ (t5 t9 t10 : Option V), σ = [some (.ref a), some (.ref l), some (.ref q), some (.int (k : Int)), some (.ref c), t5, some (.ref m), some (.ref po), some (.ref W1), t9, t10]) ⟨Same.refl _, _, _, _, rfl⟩ (fun i σ H' _ ⟨s, _⟩ => SqL.of (s _ _ hW)) ?_ ?_
    rotate_left
    · rintro σ G ⟨s, t5, t9, t10, rfl⟩
      walk_at "go"
      exact kk _
    rintro i x σ G hx ⟨s, t5, t9, t10, rfl⟩
    obtain ⟨x', t, e1, e2, ht, t60⟩ := Mx.paired_atM p15 (List.getElem?_eq_some_iff.mp hx).1
    rw [hx] at e1
    obtain rfl := Option.some.inj e1
    have n60 : ns.length ≤ 60 := by omega
    have htG := ht.same s
    walk_at "go"
    refine ⟨q, _, x, t, ns, k, rfl, SqL.of (s _ _ hq15), n60, hnd, hnm, htG, t60, fun G1 g1 => ?_⟩
    walk_at "go"
    refine ⟨m, _, x, t, ns, .most k, _, rfl, (cm15.same s).same g1, n60, hnd, hnm, htG.same g1, t60, rfl, fun G2 g2 => ?_⟩
    have g12 := g1.trans g2
    walk_at "go"
    have sG2 := s.trans g12
    have ht2G := htG.same g12
    refine ⟨q, _, x, t, ns, 1, rfl, SqL.of (sG2 _ _ hq15), n60, hnd, hnm, ht2G, t60, fun G3 g3 => ?_⟩
    have sG3 := sG2.trans g3
    have ht3 := ht2G.same g3
    have op := one_part hnd t
    walk_at "go"
    cases ec : Mx.couldB ns 1 t with
    | true =>
      rw [ec, Bool.true_or] at op
      walk_at "go"
      refine ⟨po, _, x, t, ns, .part y, _, rfl, (cp15.same sG3).same (Same.refl G3), n60, hnd, hnm, ht3.same (Same.refl G3), t60, op, fun G5 g5 => ?_⟩
      have s5 := sG3.trans ((Same.refl G3).trans g5)
      walk_at "go"
      refine k_tupL (SqL.of (s5 _ _ hq15)) (fun tn G6 n6 g6 htn => ?_)
      walk_at "go"
      refine k_makex (fun bc d2 A3 x2 xd2 g2' i2 o2 => ⟨bc, _, d2, _, rfl, i2, T.cl_Contest, T.f_Contest_names, fun A4 c2 i2 => ⟨rfl, ?_⟩⟩)
      have sb := But.same x2 g2' c2
      have s6 := s5.trans (g6.trans sb)
      walk_at "go"
      refine ⟨bc, _, x, t, ns, .bare, _, rfl, ⟨d2, tn, i2, seqT_same sb (SqT.of htn)⟩, n60, hnd, hnm, ht.same s6, t60, rfl, fun G7 g7 => ?_⟩
      walk_at "go"
      exact ⟨s6.trans g7, _, _, _, rfl⟩
    | false =>
    rw [ec, Bool.false_or] at op
    walk_at "go"
    cases t with
    | none =>
      obtain ⟨u, hu, hk⟩ := ht3.oth
      refine k_isi (.ty "tuple") hu hk ?_
      rw [decide_eq_false (by simp)] at op
      walk_at "go"
      refine ⟨po, _, _, _, ns, .part y, _, rfl, (cp15.same sG3).same (Same.refl G3), n60, hnd, hnm, ht3.same (Same.refl G3), t60, op, fun G5 g5 => ?_⟩
      have s5 := sG3.trans ((Same.refl G3).trans g5)
      walk_at "go"
      refine k_tupL (SqL.of (s5 _ _ hq15)) (fun tn G6 n6 g6 htn => ?_)
      walk_at "go"
      refine k_makex (fun bc d2 A3 x2 xd2 g2' i2 o2 => ⟨bc, _, d2, _, rfl, i2, T.cl_Contest, T.f_Contest_names, fun A4 c2 i2 => ⟨rfl, ?_⟩⟩)
      have sb := But.same x2 g2' c2
      have s6 := s5.trans (g6.trans sb)
      walk_at "go"
      refine ⟨bc, _, _, _, ns, .bare, _, rfl, ⟨d2, tn, i2, seqT_same sb (SqT.of htn)⟩, n60, hnd, hnm, ht.same s6, t60, rfl, fun G7 g7 => ?_⟩
      walk_at "go"
      exact ⟨s6.trans g7, _, _, _, rfl⟩
    | some ts0 =>
    cases id ht3 with
    | @tup tp xs _ htp it =>
    have xl : xs.length = ts0.length := Mx.paired_lenM it
    refine k_isi (.ty "tuple") (ty_tup htp) (kit_ty (r := true) (by decide +kernel)) ?_
    walk_at "go"
    refine k_tupx (fun e0 G4 m4 g4 he0 => ?_) (by simp)
    cases ts0 with
    | nil =>
      cases it
      refine .inl ?_
      refine k_eqD (.tup (seqT_same g4 htp) (Dt.strz [])) (.tup (SqT.of he0) (Dt.strz [])) ?_ rfl rfl
      rw [Co.eqv_tup]
      rw [decide_eq_true (by rfl)] at op
      rw [decide_eq_true (by rfl)]
      walk_at "go"
      refine ⟨po, _, _, _, ns, .part y, _, rfl, (cp15.same sG3).same g4, n60, hnd, hnm, ht3.same g4, t60, op, fun G5 g5 => ?_⟩
      have s5 := sG3.trans (g4.trans g5)
      walk_at "go"
      refine k_tupL (SqL.of (s5 _ _ hq15)) (fun tn G6 n6 g6 htn => ?_)
      walk_at "go"
      refine k_makex (fun bc d2 A3 x2 xd2 g2' i2 o2 => ⟨bc, _, d2, _, rfl, i2, T.cl_Contest, T.f_Contest_names, fun A4 c2 i2 => ⟨rfl, ?_⟩⟩)
      have sb := But.same x2 g2' c2
      have s6 := s5.trans (g6.trans sb)
      walk_at "go"
      refine ⟨bc, _, _, _, ns, .bare, _, rfl, ⟨d2, tn, i2, seqT_same sb (SqT.of htn)⟩, n60, hnd, hnm, ht.same s6, t60, rfl, fun G7 g7 => ?_⟩
      walk_at "go"
      exact ⟨s6.trans g7, _, _, _, rfl⟩
    | cons o0 r0 =>
      refine .inr ⟨tp, e0, xs, [], rfl, rfl, seqT_same g4 htp, SqT.of he0, by rw [xl]; simp, (fun j x y _ hy => by simp at hy), ?_⟩
      rw [decide_eq_false (by simp)] at op
      walk_at "go"
      refine ⟨po, _, _, _, ns, .part y, _, rfl, (cp15.same sG3).same g4, n60, hnd, hnm, ht3.same g4, t60, op, fun G5 g5 => ?_⟩
      have s5 := sG3.trans (g4.trans g5)
      walk_at "go"
      refine k_tupL (SqL.of (s5 _ _ hq15)) (fun tn G6 n6 g6 htn => ?_)
      walk_at "go"
      refine k_makex (fun bc d2 A3 x2 xd2 g2' i2 o2 => ⟨bc, _, d2, _, rfl, i2, T.cl_Contest, T.f_Contest_names, fun A4 c2 i2 => ⟨rfl, ?_⟩⟩)
      have sb := But.same x2 g2' c2
      have s6 := s5.trans (g6.trans sb)
      walk_at "go"
      refine ⟨bc, _, _, _, ns, .bare, _, rfl, ⟨d2, tn, i2, seqT_same sb (SqT.of htn)⟩, n60, hnd, hnm, ht.same s6, t60, rfl, fun G7 g7 => ?_⟩
      walk_at "go"
      exact ⟨s6.trans g7, _, _, _, rfl⟩
end
end Lw
namespace Lw
open PySem PySem.Spec PyProof.Rows L2 Gx
theorem facts {P : Program} {w : World} {K : PySem.W.Frag} {h : Heap} {mg : Str → Option Value} {f : Addr} (X : K.In h) (G : h.Ns mainGlobals mg) (hfa : mg ("law" : Str) = some (.ref f)) (c : He.SaysD fa fn K) (cx : (exl.all fun f => f K) = true) :
    ∃ fd : FuncData, (∀ (s : Shared) (v : Value), BindsTo s fd ⟨[v], []⟩ [("_law_script", v)]) ∧ ∀ base : Heap, K.In base → base.Ns mainGlobals mg → FnOk P w K mg base CX0 6 f fd ["_law_script"] (sp_law K) := by
  obtain ⟨fd0, F0⟩ := c.def_ 0 (d := d_Beats___init__) rfl
  obtain ⟨fd1, F1⟩ := c.def_ 1 (d := d_Over___init__) rfl
  obtain ⟨fd2, F2⟩ := c.def_ 2 (d := d_Under___init__) rfl
  obtain ⟨fd3, F3⟩ := c.def_ 3 (d := d_Contest___init__) rfl
  obtain ⟨fd4, F4⟩ := c.def_ 4 (d := d_Contest_claims) rfl
  obtain ⟨fd5, F5⟩ := c.def_ 5 (d := d_Most___init__) rfl
  obtain ⟨fd6, F6⟩ := c.def_ 6 (d := d_Most_claims) rfl
  obtain ⟨fd7, F7⟩ := c.def_ 7 (d := d_Portion___init__) rfl
  obtain ⟨fd8, F8⟩ := c.def_ 8 (d := d_Portion_claims) rfl
  obtain ⟨fd9, F9⟩ := c.def_ 9 (d := d__law_source) rfl
  obtain ⟨fd10, F10⟩ := c.def_ 10 (d := d__law_draw) rfl
  obtain ⟨fd11, F11⟩ := c.def_ 11 (d := d__law_unlike) rfl
  obtain ⟨fd12, F12⟩ := c.def_ 12 (d := d__law_lowest) rfl
  obtain ⟨fd13, F13⟩ := c.def_ 13 (d := d__law_half) rfl
  obtain ⟨fd14, F14⟩ := c.def_ 14 (d := d__law_mixed_up) rfl
  obtain ⟨fd15, F15⟩ := c.def_ 15 (d := d__law_bent) rfl
  obtain ⟨fd16, F16⟩ := c.def_ 16 (d := d__law_thing) rfl
  obtain ⟨fd17, F17⟩ := c.def_ 17 (d := d__law_refused) rfl
  obtain ⟨fd18, F18⟩ := c.def_ 18 (d := d__law_could) rfl
  obtain ⟨fd19, F19⟩ := c.def_ 19 (d := d__law_asked) rfl
  obtain ⟨fd20, F20⟩ := c.def_ 20 (d := d_law) rfl
  have T : Txt K mg := { n_ValueError := He.free_ok X G (c.fact 0 rfl), n_abs := He.free_ok X G (c.fact 1 rfl), n_enumerate := He.free_ok X G (c.fact 2 rfl), n_int := He.free_ok X G (c.fact 3 rfl), n_isinstance := He.free_ok X G (c.fact 4 rfl), n_len := He.free_ok X G (c.fact 5 rfl), n_list := He.free_ok X G (c.fact 6 rfl), n_range := He.free_ok X G (c.fact 7 rfl), n_sorted := He.free_ok X G (c.fact 8 rfl), n_sum := He.free_ok X G (c.fact 9 rfl), n_tuple := He.free_ok X G (c.fact 10 rfl), n_zip := He.free_ok X G (c.fact 11 rfl), c_Ended := ⟨_, He.glo_ok X G (c.fact 12 rfl), rfl⟩, c_HALF := ⟨_, He.glo_ok X G (c.fact 13 rfl), rfl⟩, c_NOUGHT := ⟨_, He.glo_ok X G (c.fact 14 rfl), rfl⟩, c_NoBallot := ⟨_, He.glo_ok X G (c.fact 15 rfl), rfl⟩, c_NoFraction := ⟨_, He.glo_ok X G (c.fact 16 rfl), rfl⟩, c_NoMargin := ⟨_, He.glo_ok X G (c.fact 17 rfl), rfl⟩, c_NoName := ⟨_, He.glo_ok X G (c.fact 18 rfl), rfl⟩, c_NoNumber := ⟨_, He.glo_ok X G (c.fact 19 rfl), rfl⟩, c_NoOutcome := ⟨_, He.glo_ok X G (c.fact 20 rfl), rfl⟩, c_NoRow := ⟨_, He.glo_ok X G (c.fact 21 rfl), rfl⟩, c_NoStake := ⟨_, He.glo_ok X G (c.fact 22 rfl), rfl⟩, c_NoText := ⟨_, He.glo_ok X G (c.fact 23 rfl), rfl⟩, c_ONE := ⟨_, He.glo_ok X G (c.fact 24 rfl), rfl⟩, c_TooMany := ⟨_, He.glo_ok X G (c.fact 25 rfl), rfl⟩, cl_Contest := He.cls_ok (c.fact 26 rfl), f_Contest_names := He.noat_ok (c.fact 27 rfl), cl_Beats := He.cls_ok (c.fact 28 rfl), f_Beats_one := He.noat_ok (c.fact 29 rfl), f_Beats_other := He.noat_ok (c.fact 30 rfl), cl_Over := He.cls_ok (c.fact 31 rfl), f_Over_name := He.noat_ok (c.fact 32 rfl), f_Over_share := He.noat_ok (c.fact 33 rfl), cl_Under := He.cls_ok (c.fact 34 rfl), f_Under_name := He.noat_ok (c.fact 35 rfl), f_Under_share := He.noat_ok (c.fact 36 rfl), cl_Portion := He.cls_ok (c.fact 37 rfl), f_Portion_share := He.noat_ok (c.fact 38 rfl), f_Portion_names := He.noat_ok (c.fact 39 rfl), cl_Most := He.cls_ok (c.fact 40 rfl), f_Most_seats := He.noat_ok (c.fact 41 rfl), f_Most_names := He.noat_ok (c.fact 42 rfl), gs_Contest___init__ := He.glo_ok X G (c.fact 43 rfl), mk_Beats := He.mkr_ok (c.fact 44 rfl), gk_Beats := He.glo_ok X G (c.fact 45 rfl), mk_Over := He.mkr_ok (c.fact 46 rfl), gk_Over := He.glo_ok X G (c.fact 47 rfl), mk_Under := He.mkr_ok (c.fact 48 rfl), gk_Under := He.glo_ok X G (c.fact 49 rfl), me_Contest_claims := He.meth_ok (c.fact 50 rfl), me_Portion_claims := He.meth_ok (c.fact 51 rfl), me_Most_claims := He.meth_ok (c.fact 52 rfl), mk_Contest := He.mkr_ok (c.fact 53 rfl), gk_Contest := He.glo_ok X G (c.fact 54 rfl), mk_Portion := He.mkr_ok (c.fact 55 rfl), gk_Portion := He.glo_ok X G (c.fact 56 rfl), mk_Most := He.mkr_ok (c.fact 57 rfl), gk_Most := He.glo_ok X G (c.fact 58 rfl), g_NoOutcome := He.glo_ok X G (c.fact 59 rfl), g_SureError := He.glo_ok X G (c.fact 60 rfl), m_NoOutcome_SureError := He.exm_ok (c.fact 61 rfl), x_NoOutcome := He.exc_ok (c.fact 62 rfl), su_Contest___init__ := supmB_ok (xat cx 0 rfl), t_HALF := fun H => He.tupB_ok (xat cx 1 rfl) H, t_NOUGHT := fun H => He.tupB_ok (xat cx 2 rfl) H, t_ONE := fun H => He.tupB_ok (xat cx 3 rfl) H, e_NoOutcome := excB_ok (xat cx 4 rfl), i_NoOutcome_Ended := of_decide_eq_true (xat cx 5 rfl), i_NoOutcome_NoBallot := of_decide_eq_true (xat cx 6 rfl), i_NoOutcome_NoFraction := of_decide_eq_true (xat cx 7 rfl), i_NoOutcome_NoMargin := of_decide_eq_true (xat cx 8 rfl), i_NoOutcome_NoName := of_decide_eq_true (xat cx 9 rfl), i_NoOutcome_NoNumber := of_decide_eq_true (xat cx 10 rfl), i_NoOutcome_NoOutcome := of_decide_eq_true (xat cx 11 rfl), i_NoOutcome_NoRow := of_decide_eq_true (xat cx 12 rfl), i_NoOutcome_NoStake := of_decide_eq_true (xat cx 13 rfl), i_NoOutcome_NoText := of_decide_eq_true (xat cx 14 rfl), i_NoOutcome_TooMany := of_decide_eq_true (xat cx 15 rfl), i_NoOutcome_ValueError := of_decide_eq_true (xat cx 16 rfl) }
  have g__law_source := He.glo_ok X G (c.fact 63 (f := .glo "_law_source") rfl)
  have g__law_draw := He.glo_ok X G (c.fact 64 (f := .glo "_law_draw") rfl)
  have g__law_unlike := He.glo_ok X G (c.fact 65 (f := .glo "_law_unlike") rfl)
  have g__law_lowest := He.glo_ok X G (c.fact 66 (f := .glo "_law_lowest") rfl)
  have g__law_half := He.glo_ok X G (c.fact 67 (f := .glo "_law_half") rfl)
  have g__law_mixed_up := He.glo_ok X G (c.fact 68 (f := .glo "_law_mixed_up") rfl)
  have g__law_bent := He.glo_ok X G (c.fact 69 (f := .glo "_law_bent") rfl)
  have g__law_thing := He.glo_ok X G (c.fact 70 (f := .glo "_law_thing") rfl)
  have g__law_refused := He.glo_ok X G (c.fact 71 (f := .glo "_law_refused") rfl)
  have g__law_could := He.glo_ok X G (c.fact 72 (f := .glo "_law_could") rfl)
  have g__law_asked := He.glo_ok X G (c.fact 73 (f := .glo "_law_asked") rfl)
  have g_law := He.glo_ok X G (c.fact 74 (f := .glo "law") rfl)
  have e := hfa.symm.trans g_law
  cases e
  have b := FunD.bindsA (ps := ["_law_script"]) F20 fun _ _ _ _ _ _ us hl => match us, hl with | [_], _ => rfl
  refine ⟨fd20, fun s v => b s [v] rfl, fun base _ _ => ?_⟩
  have O_Beats___init__ := ok_Beats___init__ (P := P) (w := w) (mg := mg) (base := base) F0 T 
  have k_Beats : KCl P w K mg base 1 "Beats" ["self", "one", "other"] (sp_Beats___init__ K) := ⟨_, fd0, T.mk_Beats, O_Beats___init__, T.gk_Beats, F0.bindsN fun _ _ _ _ _ _ us hl => match us, hl with | [_, _, _], _ => rfl⟩
  have O_Over___init__ := ok_Over___init__ (P := P) (w := w) (mg := mg) (base := base) F1 T 
  have k_Over : KCl P w K mg base 1 "Over" ["self", "name", "share"] (sp_Over___init__ K) := ⟨_, fd1, T.mk_Over, O_Over___init__, T.gk_Over, F1.bindsN fun _ _ _ _ _ _ us hl => match us, hl with | [_, _, _], _ => rfl⟩
  have O_Under___init__ := ok_Under___init__ (P := P) (w := w) (mg := mg) (base := base) F2 T 
  have k_Under : KCl P w K mg base 1 "Under" ["self", "name", "share"] (sp_Under___init__ K) := ⟨_, fd2, T.mk_Under, O_Under___init__, T.gk_Under, F2.bindsN fun _ _ _ _ _ _ us hl => match us, hl with | [_, _, _], _ => rfl⟩
  have O_Contest___init__ := ok_Contest___init__ (P := P) (w := w) (mg := mg) (base := base) F3 T 
  have s_Contest___init__ : SCl P w K mg base 1 "Contest" "__init__" ["self", "names"] (sp_Contest___init__ K) := ⟨_, fd3, T.su_Contest___init__.1, T.su_Contest___init__.2.1, T.su_Contest___init__.2.2, O_Contest___init__, T.gs_Contest___init__, F3.bindsN fun _ _ _ _ _ _ us hl => match us, hl with | [_, _], _ => rfl⟩
  have k_Contest : KCl P w K mg base 1 "Contest" ["self", "names"] (sp_Contest___init__ K) := ⟨_, fd3, T.mk_Contest, O_Contest___init__, T.gk_Contest, F3.bindsN fun _ _ _ _ _ _ us hl => match us, hl with | [_, _], _ => rfl⟩
  have O_Contest_claims := ok_Contest_claims (P := P) (w := w) (mg := mg) (base := base) F4 T 
  have m_Contest_claims : MCl P w K mg base 1 "Contest" "claims" ["self", "outcome"] (sp_Contest_claims K) := ⟨_, fd4, T.cl_Contest, T.me_Contest_claims, O_Contest_claims, F4.bindsN fun _ _ _ _ _ _ us hl => match us, hl with | [_, _], _ => rfl⟩
  have c__law_source : Cl P w K mg base 1 "_law_source" ["_law_script"] (sp__law_source K) := ⟨_, fd9, ok__law_source F9 T , g__law_source, F9.kp, F9.bindsN fun _ _ _ _ _ _ us hl => match us, hl with | [_], _ => rfl⟩
  have c__law_draw : Cl P w K mg base 1 "_law_draw" ["_law_source_here", "_law_most"] (sp__law_draw K) := ⟨_, fd10, ok__law_draw F10 T , g__law_draw, F10.kp, F10.bindsN fun _ _ _ _ _ _ us hl => match us, hl with | [_, _], _ => rfl⟩
  have c__law_lowest : Cl P w K mg base 1 "_law_lowest" ["_law_a", "_law_b"] (sp__law_lowest K) := ⟨_, fd12, ok__law_lowest F12 T , g__law_lowest, F12.kp, F12.bindsN fun _ _ _ _ _ _ us hl => match us, hl with | [_, _], _ => rfl⟩
  have c__law_could : Cl P w K mg base 1 "_law_could" ["_law_thing_here", "_law_names", "_law_seats"] (sp__law_could K) := ⟨_, fd18, ok__law_could F18 T , g__law_could, F18.kp, F18.bindsN fun _ _ _ _ _ _ us hl => match us, hl with | [_, _, _], _ => rfl⟩
  have O_Most___init__ := ok_Most___init__ (P := P) (w := w) (mg := mg) (base := base) F5 T s_Contest___init__
  have k_Most : KCl P w K mg base 2 "Most" ["self", "names", "seats"] (sp_Most___init__ K) := ⟨_, fd5, T.mk_Most, O_Most___init__, T.gk_Most, F5.bindsN fun _ _ _ _ _ _ us hl => match us, hl with | [_, _, _], _ => rfl⟩
  have O_Portion___init__ := ok_Portion___init__ (P := P) (w := w) (mg := mg) (base := base) F7 T s_Contest___init__
  have k_Portion : KCl P w K mg base 2 "Portion" ["self", "names", "share"] (sp_Portion___init__ K) := ⟨_, fd7, T.mk_Portion, O_Portion___init__, T.gk_Portion, F7.bindsN fun _ _ _ _ _ _ us hl => match us, hl with | [_, _, _], _ => rfl⟩
  have c__law_unlike : Cl P w K mg base 2 "_law_unlike" ["_law_source_here", "_law_many"] (sp__law_unlike K) := ⟨_, fd11, ok__law_unlike F11 T c__law_draw, g__law_unlike, F11.kp, F11.bindsN fun _ _ _ _ _ _ us hl => match us, hl with | [_, _], _ => rfl⟩
  have c__law_half : Cl P w K mg base 2 "_law_half" ["_law_source_here"] (sp__law_half K) := ⟨_, fd13, ok__law_half F13 T c__law_lowest c__law_draw, g__law_half, F13.kp, F13.bindsN fun _ _ _ _ _ _ us hl => match us, hl with | [_], _ => rfl⟩
  have c__law_mixed_up : Cl P w K mg base 2 "_law_mixed_up" ["_law_source_here", "_law_names"] (sp__law_mixed_up K) := ⟨_, fd14, ok__law_mixed_up F14 T c__law_draw, g__law_mixed_up, F14.kp, F14.bindsN fun _ _ _ _ _ _ us hl => match us, hl with | [_, _], _ => rfl⟩
  have c__law_bent : Cl P w K mg base 2 "_law_bent" ["_law_source_here", "_law_chosen", "_law_names"] (sp__law_bent K) := ⟨_, fd15, ok__law_bent F15 T c__law_draw, g__law_bent, F15.kp, F15.bindsN fun _ _ _ _ _ _ us hl => match us, hl with | [_, _, _], _ => rfl⟩
  have c__law_thing : Cl P w K mg base 2 "_law_thing" ["_law_source_here", "_law_names"] (sp__law_thing K) := ⟨_, fd16, ok__law_thing F16 T c__law_draw, g__law_thing, F16.kp, F16.bindsN fun _ _ _ _ _ _ us hl => match us, hl with | [_, _], _ => rfl⟩
  have O_Most_claims := ok_Most_claims (P := P) (w := w) (mg := mg) (base := base) F6 T k_Beats
  have m_Most_claims : MCl P w K mg base 3 "Most" "claims" ["self", "outcome"] (sp_Most_claims K) := ⟨_, fd6, T.cl_Most, T.me_Most_claims, O_Most_claims, F6.bindsN fun _ _ _ _ _ _ us hl => match us, hl with | [_, _], _ => rfl⟩
  have O_Portion_claims := ok_Portion_claims (P := P) (w := w) (mg := mg) (base := base) F8 T k_Over k_Under
  have m_Portion_claims : MCl P w K mg base 3 "Portion" "claims" ["self", "outcome"] (sp_Portion_claims K) := ⟨_, fd8, T.cl_Portion, T.me_Portion_claims, O_Portion_claims, F8.bindsN fun _ _ _ _ _ _ us hl => match us, hl with | [_, _], _ => rfl⟩
  have c__law_refused : Cl P w K mg base 4 "_law_refused" ["_law_contest", "_law_thing_here"] (sp__law_refused K) := ⟨_, fd17, ok__law_refused F17 T m_Contest_claims m_Portion_claims m_Most_claims, g__law_refused, F17.kp, F17.bindsN fun _ _ _ _ _ _ us hl => match us, hl with | [_, _], _ => rfl⟩
  have c__law_asked : Cl P w K mg base 5 "_law_asked" ["_law_contest", "_law_thing_here", "_law_due"] (sp__law_asked K) := ⟨_, fd19, ok__law_asked F19 T c__law_refused, g__law_asked, F19.kp, F19.bindsN fun _ _ _ _ _ _ us hl => match us, hl with | [_, _, _], _ => rfl⟩
  exact ok_law F20 T c__law_thing c__law_asked k_Contest c__law_could c__law_bent k_Portion c__law_half k_Most c__law_draw c__law_mixed_up c__law_unlike c__law_source
end Lw
open PySem PySem.W PySem.Calls PyProof.Rows
theorem PySem.Challenge.cw_surecount_k18_no_outcomes_holds : PySem.Challenge.rw_surecount_k18_no_outcomes.Holds := by
  w_on; o_law
  refine HandSHeadRun.head_any (r := OpenLaw.row PySem.Challenge.rw_surecount_k18_no_outcomes) (q := view (OpenLaw.row PySem.Challenge.rw_surecount_k18_no_outcomes).prog [46]) (H := Lw.hk) (ob := Lw.ob) (M := 12000) (loose := Lw.loose) (d := HandSHeadRun.topDef (OpenLaw.row PySem.Challenge.rw_surecount_k18_no_outcomes).prog 46) (kwd := []) Lw.ob_eq
    (by kernel_rfl) (fun s => by kernel_rfl) Lw.run (by kernel_rfl) (by kernel_rfl) (by kernel_rfl) (by rfl) (by first | assumption | decide +kernel) (by decide +kernel) ⟨rfl, rfl, rfl, rfl, rfl, by decide +kernel⟩ ?hw ?hc
  case hw => w_witness2
  case hc =>
    refine L2.walk_ofE (l := PySem.Challenge.rw_surecount_k18_no_outcomes) (n := 63) (k := 6) (x := "_law_script") (CX := L2.CX0) rfl (by decide) (by kernel_rfl) ⟨rfl, by decide, by decide⟩ ?F (fun _ _ _ _ z => z)
    case F =>
      intro w mg fa h Y G hmg0
      obtain ⟨K, KX, c⟩ := Y
      have hmg : mg ("law" : PySem.Str) = some (.ref fa) := by
        have e : (HandSHeadRun.topDef (OpenLaw.row PySem.Challenge.rw_surecount_k18_no_outcomes).prog 46).name = ("law" : PySem.Str) := by kernel_rfl
        rw [← e]
        exact hmg0
      obtain ⟨fd, hb, hF⟩ := Lw.facts (P := (PySem.Challenge.rw_surecount_k18_no_outcomes).prog) (w := w) KX G hmg c.1 c.2
      exact ⟨K, fd, Lw.sp_law K, KX, hb, fun H a ns hl _ hS => ⟨a, ns, rfl, hS, hl, fun _ => rfl⟩, hF⟩
