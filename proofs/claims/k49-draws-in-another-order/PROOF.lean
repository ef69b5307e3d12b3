import PyProof.Rows.All
import Wide.All
import OpenK.AllK
import Wide.FinOn
import Lean
import HandS.ForMost
import HandS.ForExc
import HandS.Wide
import HandS.WideBits
import HandS.TupAny
import HandS.TupLe
import HandS.TryOnly
import HandS.TupMul
import HandS.Deep
import HandS.IsInst
import HandS.ExcIs
import KE.KExcIs
import KE.DataFind
import KE.GoesEnum
import KE.GoesMore
import KE.KxIndex
import KE.KeyNested
import HandS.ExcInit
import HandS.ExcField
import HandS.ClsMeth
import HandS.Style
import HandS.Codes
import HandS.Conv
import HandS.SetFor
import HandS.Zip
import HandS.More
import HandS.Replace
import HandS.RevRange
import HandS.Text
import HandS.Defaults
import HandS.Small
import HandS.HeadEnd
import HandS.HeadHook1
import HandS.HeadHook2
import HandS.HeadHook3
import HandS.HeadHook4
import HandS.Head0
import HandS.Head1
import HandS.Head2
import PySem.Challenge.RW_surecount_k49_draws_in_another_order
set_option Elab.async false
set_option linter.all false
set_option maxRecDepth 100000
set_option maxHeartbeats 16000000
/-! ### own short words over the hand layer -/
namespace Gx
open PySem PySem.Spec PyProof.Rows L2
/-- all but l stays -/
def But (l : Addr) (H H' : Hp) : Prop := ∀ a o, a ≠ l → H a = some o → H' a = some o
theorem But.of {H H' : Hp} {l : Addr} (e : Same H H') : But l H H' := fun a o _ h => e a o h
theorem But.trans {H H1 H2 : Hp} {l : Addr} (a : But l H H1) (b : But l H1 H2) : But l H H2 := fun c o n h => b c o n (a c o n h)
theorem But.upd {H : Hp} {l : Addr} {o : HO} : But l H (upd H l o) := fun a u n h => by
  rw [upd_ne n]
  exact h
theorem same_new {H : Hp} {p : Addr} {o : HO} (h : H p = none) : Same H (upd H p o) := fun b u q => by
  rw [upd_ne (ne_of_none q h)]
  exact q
theorem But.same {H H1 H2 : Hp} {l : Addr} (n : H l = none) (a : Same H H1) (b : But l H1 H2) : Same H H2 := fun c o h => b c o (ne_of_none h n) (a c o h)
/-! ### reading facts through heaps -/
theorem up_same {H H' : Hp} (e : Same H H') {a : Addr} {o : HO} (h : H a = some o) : H' a = some o := e a o h
theorem up_but {H H' : Hp} {l : Addr} (e : But l H H') {a : Addr} {o : HO} (n : a ≠ l) (h : H a = some o) : H' a = some o := e a o n h
theorem seqL_same {K : PySem.W.Frag} {H H' : Hp} (e : Same H H') {a : Addr} {xs : List V} (h : SqL K H a xs) : SqL K H' a xs := e.seq h
theorem seqT_same {K : PySem.W.Frag} {H H' : Hp} (e : Same H H') {a : Addr} {xs : List V} (h : SqT K H a xs) : SqT K H' a xs := by
  rcases h with (h | ⟨o, h⟩) | h
  · exact .inl (.inl (e _ _ h))
  · exact .inl (.inr ⟨o, e _ _ h⟩)
  · exact .inr h
/-- tuples stay while a list changes -/
theorem seqT_but {K : PySem.W.Frag} {H H' : Hp} {l : Addr} {ys : List V} (e : But l H H') (hl : H l = some (.lst ys)) {a : Addr} {xs : List V} (h : SqT K H a xs) : SqT K H' a xs := by
  rcases h with (h | ⟨o, h⟩) | h
  · exact .inl (.inl (e _ _ (ne_of h hl (by intro z; cases z)) h))
  · exact .inl (.inr ⟨o, e _ _ (ne_of h hl (by intro z; cases z)) h⟩)
  · exact .inr h
theorem seqL_mono {K : PySem.W.Frag} {H H' : Hp} {a : Addr} {xs : List V} (h : SqL K H a xs) (e : ∀ o, H a = some o → (∀ ps, o ≠ .tbl ps) → H' a = some o) : SqL K H' a xs := by
  rcases h with (h | ⟨o, h⟩) | h
  · exact .inl (.inl (e _ h (by intro ps z; cases z)))
  · exact .inl (.inr ⟨o, e _ h (by intro ps z; cases z)⟩)
  · exact .inr h
theorem seqL_but {K : PySem.W.Frag} {H H' : Hp} {l : Addr} (e : But l H H') {a : Addr} (n : a ≠ l) {xs : List V} (h : SqL K H a xs) : SqL K H' a xs := by
  rcases h with (h | ⟨o, h⟩) | h
  · exact .inl (.inl (e _ _ n h))
  · exact .inl (.inr ⟨o, e _ _ n h⟩)
  · exact .inr h
/-! ### data through heaps -/
mutual
theorem dp_same {K : PySem.W.Frag} {H H' : Hp} (e : Same H H') : ∀ {d : PyData} {v : V}, Dp K H v d → Dp K H' v d
  | _, _, .non => .non
  | _, _, .bl b => .bl b
  | _, _, .int i => .int i
  | _, _, .str x => .str x
  | _, _, .lst h a => .lst (seqL_same e h) (dpAll_same e a)
  | _, _, .tup h a => .tup (seqT_same e h) (dpAll_same e a)
theorem dpAll_same {K : PySem.W.Frag} {H H' : Hp} (e : Same H H') : ∀ {ds : List PyData} {vs : List V}, DpAll K H vs ds → DpAll K H' vs ds
  | _, _, .nil => .nil
  | _, _, .cons a r => .cons (dp_same e a) (dpAll_same e r)
end
/-! data without lists -/
mutual
def noL : PyData → Bool
  | .list _ => false
  | .tuple ds => noLs ds
  | _ => true
def noLs : List PyData → Bool
  | [] => true
  | d :: ds => noL d && noLs ds
end
mutual
theorem dp_but {K : PySem.W.Frag} {H H' : Hp} {l : Addr} {ys : List V} (e : But l H H') (hl : H l = some (.lst ys)) : ∀ {d : PyData} {v : V}, noL d = true → Dp K H v d → Dp K H' v d
  | _, _, _, .non => .non
  | _, _, _, .bl b => .bl b
  | _, _, _, .int i => .int i
  | _, _, _, .str x => .str x
  | _, _, n, .lst h a => by simp [noL] at n
  | _, _, n, .tup h a => .tup (seqT_but e hl h) (dpAll_but e hl (by simpa [noL] using n) a)
theorem dpAll_but {K : PySem.W.Frag} {H H' : Hp} {l : Addr} {ys : List V} (e : But l H H') (hl : H l = some (.lst ys)) : ∀ {ds : List PyData} {vs : List V}, noLs ds = true → DpAll K H vs ds → DpAll K H' vs ds
  | _, _, _, .nil => .nil
  | _, _, n, .cons a r => by
    simp [noLs] at n
    exact .cons (dp_but e hl n.1 a) (dpAll_but e hl n.2 r)
end
theorem tyof_same {K : PySem.W.Frag} {H H' : Hp} (e : Same H H') {x : V} {t : Value} (h : TyOf K H x t) : TyOf K H' x t := by
  cases h with
  | non => exact .non
  | bl x => exact .bl x
  | int i => exact .int i
  | str x => exact .str x
  | flt x => exact .flt x
  | lst h => exact .lst (e _ _ h)
  | frz h => exact .frz (e _ _ h)
  | tup h => exact .tup (e _ _ h)
  | dK h => exact .dK (e _ _ h)
  | dT h => exact .dT (e _ _ h)
  | ins h cl ha hn htk hm => exact .ins (e _ _ h) cl ha hn htk hm
theorem tyx_same {K : PySem.W.Frag} {H H' : Hp} (e : Same H H') {x : V} {t : Value} (h : TyX K H x t) : TyX K H' x t := by
  cases h with
  | base h => exact .base (tyof_same e h)
  | byt b => exact .byt b
  | set h => exact .set (e _ _ h)
  | kList h c => exact .kList h c
  | kTuple h c => exact .kTuple h c
  | kDict h c => exact .kDict h c
  | fTuple h => exact .fTuple (e _ _ h)
  | fDict h => exact .fDict (e _ _ h)
/-! ### a def that may be called -/
structure Cl (P : Program) (w : World) (K : PySem.W.Frag) (mg : Str → Option Value) (base : Heap) (k : Nat) (x : Str) (ps : List Str) (sp : Sp) : Prop where
  ex : ∃ f fd, FnOk P w K mg base (L2.CX P w) k f fd ps sp ∧ mg x = some (.ref f) ∧ PySem.W.keepIn K (.ref f) = true ∧ Binds K fd ps []
section
variable {X : Cx} {W : WX} {e : Expr} {es : List Expr} {p pos : Pos} {t : TA} {x : Str} {ps : List Str} {sp : Sp} {j k : Nat}
theorem pcall (c : Cl X.prog X.w X.K X.mg X.base k x ps sp) (hr : Room j X.A) (hk : k ≤ j) (tk : Takes X W) (ha : PA X (e :: es) t) (hg : Gl X x := by rfl)
    (he : starEach (e :: es) X.env = (false, eval e X.env) :: starEach es X.env := by rfl) (hpl : (backTo pos (starEach es X.env)).any (·.1) = false := by rfl) (hdb : (x == ("__debug__" : Str)) = false := by decide) :
    PE X (.Call (.Name x p) (e :: es) [] pos) (tCallS sp (WE W) t) := by
  obtain ⟨f, fd, F, m, kp, b⟩ := c.ex
  exact pe_callS F (hr.mono hk) hg m kp b (fun σ => passAt tk σ) ha hdb he hpl
theorem pcall0 (c : Cl X.prog X.w X.K X.mg X.base k x ps sp) (hr : Room j X.A) (hk : k ≤ j) (hg : Gl X x := by rfl) (hdb : (x == ("__debug__" : Str)) = false := by decide) :
    PE X (.Call (.Name x p) [] [] pos) (tCall sp [] E0 tNil) := by
  obtain ⟨f, fd, F, m, kp, b⟩ := c.ex
  exact pe_call0 F (hr.mono hk) hg m kp b .nil passL hdb
/-- where nothing may be raised -/
theorem pcallN (c : Cl X.prog X.w X.K X.mg X.base k x ps sp) (hr : Room j X.A) (hk : k ≤ j) (ha : PA X (e :: es) t) (hg : Gl X x := by rfl)
    (he : starEach (e :: es) X.env = (false, eval e X.env) :: starEach es X.env := by rfl) (hpl : (backTo pos (starEach es X.env)).any (·.1) = false := by rfl) (hdb : (x == ("__debug__" : Str)) = false := by decide) :
    PE X (.Call (.Name x p) (e :: es) [] pos) (tCall sp [] E0 t) := by
  obtain ⟨f, fd, F, m, kp, b⟩ := c.ex
  exact pe_call F (hr.mono hk) hg m kp b .nil passL ha hdb he hpl
end
/-- a recursion: nothing is promised at 0 -/
theorem fn_void {P : Program} {w : World} {K : PySem.W.Frag} {mg : Str → Option Value} {base : Heap} {CX : CXT} {k : Nat} {f : Addr} {fd : FuncData} {ps : List Str} {sp : Sp} (h : ∀ vs H Q E, ¬ sp vs H Q E) : FnOk P w K mg base CX k f fd ps sp :=
  ⟨fun vs H Q E z => (h vs H Q E z).elim, fun _ _ _ H _ _ vs Q E _ _ _ _ z => (h vs H Q E z).elim⟩
/-! ### exceptions with fields, their own __init__ walked -/
section
def oexB (K : PySem.W.Frag) (x : Str) : Bool := (match K.lookup (He.ga K x) with
  | some ⟨.type "type", _, .cls cd, sl⟩ => (match cd.mro, sl.toList with
    | .ref C' :: bm, [_, _, _, _, some (.builtin n), _] => C' == He.ga K x && n == "ValueError.__new__" && !cd.hasDel && cd.hasDict && PySem.HandSPX.refsVE bm
    | _, _ => false)
  | _ => false) && (He.eqO (PySem.W.findIn K (.ref (He.ga K x)) "__setattr__") (some (some (.builtin "object.__setattr__"))) && (decide (PySem.W.subIn K (.ref (He.ga K x)) (.type "BaseException") = some true) && (decide (PySem.W.typeIn K (.ref (He.ga K x)) = some (.type "type")) && PySem.W.keepIn K (.ref (He.ga K x)))))
theorem oexB_ok {K : PySem.W.Frag} {x : Str} (h : oexB K x = true) : OexC K (He.ga K x) := by
  unfold oexB at h
  obtain ⟨q, h⟩ := He.ba h
  obtain ⟨h1, h⟩ := He.ba h
  obtain ⟨h2, h⟩ := He.ba h
  obtain ⟨h3, h4⟩ := He.ba h
  refine ⟨?_, He.eqO_ok h1, of_decide_eq_true h2, of_decide_eq_true h3, h4⟩
  split at q
  · rename_i dd cd sl ho
    split at q
    · rename_i C' bm k0 k1 k2 k3 n k5 hm hs
      simp only [Bool.and_eq_true, beq_iff_eq, Bool.not_eq_true'] at q
      obtain ⟨⟨⟨⟨hC, hn⟩, hdel⟩, hdc⟩, hr⟩ := q
      obtain ⟨nm, bs, mro, ns, qn, hd, sn, sub, ab, col, del⟩ := cd
      dsimp only at hm hdel hdc
      subst hm hdel hdc hC hn
      have hsl : sl = #[k0, k1, k2, k3, some (.builtin "ValueError.__new__"), k5] := by
        obtain ⟨l⟩ := sl
        simp only at hs
        rw [hs]
      subst hsl
      exact ⟨_, _, _, _, _, _, _, _, _, _, _, _, _, _, _, ho, hr⟩
    · cases q
  · cases q
/-- the own __init__ of an exception -/
def oinB (K : PySem.W.Frag) (x : Str) : Bool := He.eqO (PySem.W.findIn K (.ref (He.ga K x)) "__init__") (some (some (.ref (He.ma K (He.ga K x) "__init__")))) && decide (PySem.W.typeIn K (.ref (He.ma K (He.ga K x) "__init__")) = some (.type "function"))
theorem oinB_ok {K : PySem.W.Frag} {x : Str} (h : oinB K x = true) : PySem.W.findIn K (.ref (He.ga K x)) "__init__" = some (some (.ref (He.ma K (He.ga K x) "__init__"))) ∧ PySem.W.typeIn K (.ref (He.ma K (He.ga K x) "__init__")) = some (.type "function") := by
  obtain ⟨h1, h2⟩ := He.ba h
  exact ⟨He.eqO_ok h1, of_decide_eq_true h2⟩
/-- Base.__init__(self, ..) of an exception class that has ValueError's -/
structure SupC (K : PySem.W.Frag) (C : Addr) : Prop where
  r : ClX.CRead K C (.type "type")
  at_ : PySem.W.findCls K (.ref C) (.type "type") "__init__" = some (.val (.builtin "ValueError.__init__"))
def supB (K : PySem.W.Frag) (x : Str) : Bool := PySem.W.readsIn K (He.ga K x) (.type "type") && (He.eqO (PySem.W.specialIn K (.ref (He.ga K x)) "__getattribute__") (some (some (.builtin "type.__getattribute__"))) && (match PySem.W.findCls K (.ref (He.ga K x)) (.type "type") "__init__" with
  | some (.val (.builtin n)) => n == "ValueError.__init__"
  | _ => false))
theorem supB_ok {K : PySem.W.Frag} {x : Str} (h : supB K x = true) : SupC K (He.ga K x) := by
  obtain ⟨h1, h⟩ := He.ba h
  obtain ⟨h2, h3⟩ := He.ba h
  refine ⟨⟨h1, He.eqO_ok h2⟩, ?_⟩
  split at h3
  · rename_i n e
    rw [e, beq_iff_eq.mp h3]
  · cases h3
theorem pe_svinit {X : Cx} {n : Str} {C : Addr} {e : Expr} {es : List Expr} {ta : TA} {p1 p2 pos : Pos} {pl : Sem Bool} (S : SupC X.K C) (hg : Gl X n) (hm : X.mg n = some (.ref C)) (ha : PA X (e :: es) ta)
    (hc : eval (.Call (.Attribute (.Name n p1) "__init__" p2) (e :: es) [] pos) X.env = (do
      let ov ← eval (.Name n p1) X.env
      standAt p2.atName
      let (f, first) ← holding [ov] (getMethod ov "__init__" pl)
      callWith pos f first (backTo pos (starEach (e :: es) X.env)) (backToKw pos (keywordEach [] X.env))) := by rfl)
    (he : starEach (e :: es) X.env = (false, eval e X.env) :: starEach es X.env := by rfl) (hpl : (backTo pos (starEach es X.env)).any (·.1) = false := by rfl) (hdb : (n == ("__debug__" : Str)) = false := by decide) :
    PE X (.Call (.Attribute (.Name n p1) "__init__" p2) (e :: es) [] pos) (tVeI X.K ta) := by
  refine ⟨fun pins s σ H Q I h => ?_⟩
  refine PySem.W.methodCall_KW (ld_glob I hg hm ?_ hdb) hc
  refine PySem.W.method_cls I.kIn S.r.ga (PySem.W.cls_value I.kIn S.r.rd S.at_ rfl ?_)
  show wpAny _ _ (callWith pos (Value.builtin "ValueError.__init__") [] (backTo pos (starEach (e :: es) X.env)) []) _ _ _
  refine PyProof.Rows.callWith_method1 (thn (ha.run pos pins _ σ H _ (I.tok _) h) fun us s1 ⟨vs, H1, I1, r1, a, C', ws, ev, hl, T, ea, q⟩ => ?_) he hpl
  subst ev
  cases r1 with
  | @cons _ u0 _ ur ra rw' =>
    obtain rfl : u0 = Value.ref a := ra
    have hlen : ur.length ≤ sizeLine := by
      rw [← Paired.length rw', sizeLine_eq]
      omega
    exact oinit_ok T I1 ea hlen fun s' J => ⟨.non, H1, J, rfl, q⟩
/-- what the __init__ of an exception with one field keeps -/
def spXI (C : Addr) (f : Str) : Sp := fun vs H Q _ => ∃ (a : Addr) (v : V), vs = [.ref a, v] ∧ H a = some (exo a C none) ∧ ∀ d, H d = none → d ≠ a → Q .non (upd (upd H d (exd d [(f, v)])) a (exo a C (some d)))
structure XCl (P : Program) (w : World) (K : PySem.W.Frag) (mg : Str → Option Value) (base : Heap) (k : Nat) (x : Str) (ps : List Str) (sp : Sp) : Prop where
  ex : ∃ fd, OexC K (He.ga K x) ∧ PySem.W.findIn K (.ref (He.ga K x)) "__init__" = some (some (.ref (He.ma K (He.ga K x) "__init__"))) ∧ PySem.W.typeIn K (.ref (He.ma K (He.ga K x) "__init__")) = some (.type "function") ∧
    FnOk P w K mg base (L2.CX P w) k (He.ma K (He.ga K x) "__init__") fd ps sp ∧ mg x = some (.ref (He.ga K x)) ∧ Binds K fd ps []
theorem pmkO {X : Cx} {e : Expr} {es : List Expr} {ta : TA} {p pos : Pos} {x : Str} {ps : List Str} {sp : Sp} {j k : Nat} (c : XCl X.prog X.w X.K X.mg X.base k x ps sp) (hr : Room j X.A) (hk : k + 1 ≤ j) (ha : PA X (e :: es) ta) (hg : Gl X x := by rfl)
    (hdb : (x == ("__debug__" : Str)) = false := by decide) (he : starEach (e :: es) X.env = (false, eval e X.env) :: starEach es X.env := by rfl) (hpl : (backTo pos (starEach es X.env)).any (·.1) = false := by rfl) :
    PMk X (.Call (.Name x p) (e :: es) [] pos) (tMkO (He.ga X.K x) sp [] ta) := by
  obtain ⟨fd, T, iC, tI, F, m, b⟩ := c.ex
  exact pmk_oex T iC tI F (hr.mono hk) b .nil passL hg m ha hdb he hpl
def rMkO (C : Addr) (sp : Sp) (vs : List V) (H1 : Hp) (E : XK) : Prop := vs.length ≤ 1000 ∧ ∀ a, H1 a = none → sp (.ref a :: (vs ++ [])) (upd H1 a (exo a C none))
  (fun v H2 => v = .non ∧ ∃ (d : Addr) (fs : List (Str × V)), H2 a = some (exo a C (some d)) ∧ H2 d = some (exd d fs) ∧ H1 d = none ∧ E (.ref C) (some d) (upd (del H2 a) d (.xd fs))) (fun _ _ _ => False)
theorem k_mk0 {C : Addr} {sp : Sp} {ta : TA} {σ : L2.St} {H : Hp} {E : XK} (q : ta σ H fun vs H1 => rMkO C sp vs H1 E) : tMkO C sp [] ta σ H E := q
theorem k_mkx {C : Addr} {f : Str} {v : V} {H1 : Hp} {E : XK} (k : ∀ d H2, H1 d = none → Same H1 H2 → H2 d = some (.xd [(f, v)]) → E (.ref C) (some d) H2) : rMkO C (spXI C f) [v] H1 E :=
  ⟨by simp, fun a ha => ⟨a, v, rfl, upd_same, fun d hd hda => ⟨rfl, d, [(f, v)], upd_same, by rw [upd_ne hda, upd_same], by rw [upd_ne hda] at hd; exact hd, by
      have hd1 : H1 d = none := by rw [upd_ne hda] at hd; exact hd
      have e : upd (del (upd (upd (upd H1 a (exo a C none)) d (exd d [(f, v)])) a (exo a C (some d))) a) d (.xd [(f, v)]) = upd H1 d (.xd [(f, v)]) := by
        funext b
        by_cases h1 : b = d
        · rw [h1, upd_same, upd_same]
        · rw [upd_ne h1, upd_ne h1]
          by_cases h2 : b = a
          · rw [h2, del_same, ha]
          · rw [del_ne h2, upd_ne h2, upd_ne h1, upd_ne h2]
      rw [e]
      exact k d _ hd1 (same_new hd1) upd_same⟩⟩⟩
def rVeI (K : PySem.W.Frag) (vs : List V) (H1 : Hp) (Q : VK) : Prop := ∃ (a C : Addr) (ws : List V), vs = .ref a :: ws ∧ ws.length ≤ 1000 ∧ OexC K C ∧ H1 a = some (exo a C none) ∧ Q .non H1
theorem k_veI {K : PySem.W.Frag} {ta : TA} {σ : L2.St} {H : Hp} {Q : VK} (q : ta σ H fun vs H1 => rVeI K vs H1 Q) : tVeI K ta σ H Q := q
theorem k_veIx {K : PySem.W.Frag} {a C : Addr} {ws : List V} {H : Hp} {Q : VK} (T : OexC K C) (h : H a = some (exo a C none)) (q : Q .non H) (hl : ws.length ≤ 1000) : rVeI K (.ref a :: ws) H Q := ⟨a, C, ws, rfl, hl, T, h, q⟩
def rOst (K : PySem.W.Frag) (f : Str) (x y : V) (H2 : Hp) (Q : Hp → Prop) : Prop := ∃ a C : Addr, x = .ref a ∧ OexC K C ∧ PySem.W.findIn K (.ref C) f = some none ∧
  ((H2 a = some (exo a C none) ∧ ∀ dx, H2 dx = none → dx ≠ a → Q (upd (upd H2 dx (exd dx [(f, y)])) a (exo a C (some dx)))) ∨
    ∃ (dx : Addr) (fs : List (Str × V)), H2 a = some (exo a C (some dx)) ∧ H2 dx = some (exd dx fs) ∧ fs.length ≤ 900 ∧ Q (upd H2 dx (exd dx ((f, y) :: fs))))
theorem k_ost {K : PySem.W.Frag} {f : Str} {to te : TE} {D : Ends} {σ : L2.St} {H : Hp} (q : te σ H fun y H1 => to σ H1 fun x H2 => rOst K f x y H2 fun H3 => D.nx σ H3) : tOst K f to te D σ H := q
theorem k_ostx {K : PySem.W.Frag} {f : Str} {a C : Addr} {y : V} {H : Hp} {Q : Hp → Prop} (T : OexC K C) (hn : PySem.W.findIn K (.ref C) f = some none) (h : H a = some (exo a C none)) (q : ∀ d, H d = none → d ≠ a → Q (upd (upd H d (exd d [(f, y)])) a (exo a C (some d)))) : rOst K f (.ref a) y H Q := ⟨a, C, rfl, T, hn, .inl ⟨h, q⟩⟩
/-- a field of the error that a suite holds -/
def rXf (a : Addr) (cls : Value) (d : Option Addr) (C : Addr) (f : Str) (x : V) (H1 : Hp) (Q : VK) : Prop := x = .ref a ∧ cls = .ref C ∧ ∃ (dd : Addr) (fs : List (Str × V)) (v : V), d = some dd ∧ H1 dd = some (.xd fs) ∧ fs.lookup f = some v ∧ Q v H1
theorem k_xf {a C : Addr} {cls : Value} {d : Option Addr} {f : Str} {te : TE} {σ : L2.St} {H : Hp} {Q : VK} (q : te σ H fun x H1 => rXf a cls d C f x H1 Q) : tXf a cls d C f te σ H Q := q
theorem k_xfx {a C dd : Addr} {f : Str} {v : V} {H : Hp} {Q : VK} (h : H dd = some (.xd [(f, v)])) (q : Q v H) : rXf a (.ref C) (some dd) C f (.ref a) H Q := ⟨rfl, rfl, dd, _, v, rfl, h, by simp [List.lookup], q⟩
end
/-! ### classes -/
structure MCl (P : Program) (w : World) (K : PySem.W.Frag) (mg : Str → Option Value) (base : Heap) (k : Nat) (C m : Str) (ps : List Str) (sp : Sp) : Prop where
  ex : ∃ f fd, Cls K (He.ga K C) ∧ Meth K (He.ga K C) m f ∧ FnOk P w K mg base (L2.CX P w) k f fd ps sp ∧ Binds K fd ps []
structure KCl (P : Program) (w : World) (K : PySem.W.Frag) (mg : Str → Option Value) (base : Heap) (k : Nat) (C : Str) (ps : List Str) (sp : Sp) : Prop where
  ex : ∃ f fd, Mk K (He.ga K C) f ∧ FnOk P w K mg base (L2.CX P w) k f fd ps sp ∧ mg C = some (.ref (He.ga K C)) ∧ Binds K fd ps []
/-- a class's def, called through the class: C.m(self, ..) -/
structure SCl (P : Program) (w : World) (K : PySem.W.Frag) (mg : Str → Option Value) (base : Heap) (k : Nat) (C m : Str) (ps : List Str) (sp : Sp) : Prop where
  ex : ∃ f fd, ClX.CRead K (He.ga K C) (.type "type") ∧ PySem.W.findCls K (.ref (He.ga K C)) (.type "type") m = some (.val (.ref f)) ∧ PySem.W.keepIn K (.ref f) = true ∧ FnOk P w K mg base (L2.CX P w) k f fd ps sp ∧ mg C = some (.ref (He.ga K C)) ∧ Binds K fd ps []
def tMethS (C : Addr) (m : Str) (sp : Sp) (E : L2.St → XK) (ta : TE) (t : TA) : TE := fun σ H Q => ta σ H fun x H1 => ∃ a dx fs, x = .ref a ∧ H1 a = some (.ins C dx fs) ∧ fs.lookup m = none ∧ t σ H1 fun vs H2 => sp (x :: vs) H2 Q (E σ)
def tOr2 (t u : TE) : TE := fun σ H Q => t σ H Q ∨ u σ H Q
section
variable {X : Cx} {W : WX} {e o : Expr} {es : List Expr} {p pos apos : Pos} {ta : TE} {t : TA} {C m x : Str} {ps : List Str} {sp : Sp} {j k : Nat}
theorem pe_or2 {e : Expr} {t u : TE} (a : PE X e t) (b : PE X e u) : PE X e (tOr2 t u) := ⟨fun pins s σ H Q I h => h.elim (a.run pins s σ H Q I) (b.run pins s σ H Q I)⟩
theorem pmeth {pl : Sem Bool} {K : PySem.W.Frag} (hK : X.K = K) (c : MCl X.prog X.w K X.mg X.base k C m ps sp) (hr : Room j X.A) (hk : k ≤ j) (tk : Takes X W) (he : PE X o ta) (ha : PA X (e :: es) t)
    (hst : starEach (e :: es) X.env = (false, eval e X.env) :: starEach es X.env := by rfl) (hpl : (backTo pos (starEach es X.env)).any (·.1) = false := by rfl)
    (ht : eval (.Call (.Attribute o m apos) (e :: es) [] pos) X.env = (do
      let ov ← eval o X.env
      standAt apos.atName
      let (f, first) ← holding [ov] (getMethod ov m pl)
      callWith pos f first (backTo pos (starEach (e :: es) X.env)) (backToKw pos (keywordEach [] X.env))) := by rfl) :
    PE X (.Call (.Attribute o m apos) (e :: es) [] pos) (tMethS (He.ga K C) m sp (WE W) ta t) := by
  subst hK
  obtain ⟨f, fd, hc, hm, F, b⟩ := c.ex
  refine ⟨fun pins s σ H Q I h => ?_⟩
  refine PySem.W.methodCall_KW (pl := pl) (thn (he.run pins s σ H _ I h) fun u s1 ⟨x, H1, I1, rx, a, dx, fs, ex, ea, l, q⟩ => ?_) ht
  subst ex
  obtain rfl : u = Value.ref a := rx
  refine getmeth_ok I1 ea hc hm l ?_
  refine PySem.W.callWith_K (first := [.ref a]) (h₀ := X.base) I.ok.mod.kin hm.kp (thn (ha.run pos pins s1 σ H1 _ I1 q) fun us s2 ⟨vs, H2, I2, r, q2⟩ => ⟨I2.kIn, ?_⟩) hst hpl
  exact run_fnS (us := .ref a :: us) (vs := .ref a :: vs) (E := WE W) F (hr.mono hk) b (passAt tk σ) I2 (.cons rfl r) q2
theorem pmeth0 {pl : Sem Bool} {K : PySem.W.Frag} (hK : X.K = K) (c : MCl X.prog X.w K X.mg X.base k C m ps sp) (hr : Room j X.A) (hk : k ≤ j) (tk : Takes X W) (he : PE X o ta)
    (ht : eval (.Call (.Attribute o m apos) [] [] pos) X.env = (do
      let ov ← eval o X.env
      standAt apos.atName
      let (f, first) ← holding [ov] (getMethod ov m pl)
      callWith pos f first (backTo pos (starEach [] X.env)) (backToKw pos (keywordEach [] X.env))) := by rfl) :
    PE X (.Call (.Attribute o m apos) [] [] pos) (tMethS (He.ga K C) m sp (WE W) ta tNil) := by
  subst hK
  obtain ⟨f, fd, hc, hm, F, b⟩ := c.ex
  refine ⟨fun pins s σ H Q I h => ?_⟩
  refine PySem.W.methodCall_KW (pl := pl) (thn (he.run pins s σ H _ I h) fun u s1 ⟨x, H1, I1, rx, a, dx, fs, ex, ea, l, q⟩ => ?_) ht
  subst ex
  obtain rfl : u = Value.ref a := rx
  refine getmeth_ok I1 ea hc hm l ?_
  exact PySem.W.callWith_K0 (first := [.ref a]) I1.kIn hm.kp (run_fnS (us := [.ref a]) (vs := [.ref a]) (E := WE W) F (hr.mono hk) b (passAt tk σ) I1 (.cons rfl .nil) q)
/-- where nothing may be raised -/
theorem pmethN {pl : Sem Bool} {K : PySem.W.Frag} (hK : X.K = K) (c : MCl X.prog X.w K X.mg X.base k C m ps sp) (hr : Room j X.A) (hk : k ≤ j) (he : PE X o ta) (ha : PA X (e :: es) t)
    (hst : starEach (e :: es) X.env = (false, eval e X.env) :: starEach es X.env := by rfl) (hpl : (backTo pos (starEach es X.env)).any (·.1) = false := by rfl)
    (ht : eval (.Call (.Attribute o m apos) (e :: es) [] pos) X.env = (do
      let ov ← eval o X.env
      standAt apos.atName
      let (f, first) ← holding [ov] (getMethod ov m pl)
      callWith pos f first (backTo pos (starEach (e :: es) X.env)) (backToKw pos (keywordEach [] X.env))) := by rfl) :
    PE X (.Call (.Attribute o m apos) (e :: es) [] pos) (tMethS (He.ga K C) m sp (fun _ => E0) ta t) := by
  subst hK
  obtain ⟨f, fd, hc, hm, F, b⟩ := c.ex
  refine ⟨fun pins s σ H Q I h => (pe_meth (pl := pl) he hc hm F (hr.mono hk) b .nil passL ha hst hpl ht).run pins s σ H Q I ?_⟩
  simp only [tMeth, List.append_nil]
  exact h
theorem pmethN0 {pl : Sem Bool} {K : PySem.W.Frag} (hK : X.K = K) (c : MCl X.prog X.w K X.mg X.base k C m ps sp) (hr : Room j X.A) (hk : k ≤ j) (he : PE X o ta)
    (ht : eval (.Call (.Attribute o m apos) [] [] pos) X.env = (do
      let ov ← eval o X.env
      standAt apos.atName
      let (f, first) ← holding [ov] (getMethod ov m pl)
      callWith pos f first (backTo pos (starEach [] X.env)) (backToKw pos (keywordEach [] X.env))) := by rfl) :
    PE X (.Call (.Attribute o m apos) [] [] pos) (tMethS (He.ga K C) m sp (fun _ => E0) ta tNil) := by
  subst hK
  obtain ⟨f, fd, hc, hm, F, b⟩ := c.ex
  refine ⟨fun pins s σ H Q I h => (pe_meth0 (pl := pl) he hc hm F (hr.mono hk) b .nil passL ht).run pins s σ H Q I ?_⟩
  simp only [tMeth, List.append_nil]
  exact h
theorem pmake {K : PySem.W.Frag} (hK : X.K = K) (c : KCl X.prog X.w K X.mg X.base k C ps sp) (hr : Room j X.A) (hk : k + 1 ≤ j) (ha : PA X (e :: es) t) (hg : Gl X C := by rfl)
    (hdb : (C == ("__debug__" : Str)) = false := by decide) (he : starEach (e :: es) X.env = (false, eval e X.env) :: starEach es X.env := by rfl) (hpl : (backTo pos (starEach es X.env)).any (·.1) = false := by rfl) :
    PE X (.Call (.Name C p) (e :: es) [] pos) (tMake (He.ga K C) sp [] E0 t) := by
  subst hK
  obtain ⟨f, fd, M, F, hm, b⟩ := c.ex
  exact pe_make M F (hr.mono hk) hg hm b .nil passL ha hdb he hpl
/-- C.m(self, ..) -/
theorem psup {pl : Sem Bool} (c : SCl X.prog X.w X.K X.mg X.base k C m ps sp) (hr : Room j X.A) (hk : k ≤ j) (ha : PA X (e :: es) t) (hg : Gl X C := by rfl)
    (hc : eval (.Call (.Attribute (.Name C p) m apos) (e :: es) [] pos) X.env = (do
      let ov ← eval (.Name C p) X.env
      standAt apos.atName
      let (f, first) ← holding [ov] (getMethod ov m pl)
      callWith pos f first (backTo pos (starEach (e :: es) X.env)) (backToKw pos (keywordEach [] X.env))) := by rfl)
    (he : starEach (e :: es) X.env = (false, eval e X.env) :: starEach es X.env := by rfl) (hpl : (backTo pos (starEach es X.env)).any (·.1) = false := by rfl) (hdb : (C == ("__debug__" : Str)) = false := by decide) :
    PE X (.Call (.Attribute (.Name C p) m apos) (e :: es) [] pos) (tCall sp [] E0 t) := by
  obtain ⟨f, fd, cr, ca, kp, F, hm, b⟩ := c.ex
  refine ⟨fun pins s σ H Q I h => ?_⟩
  refine PySem.W.methodCall_KW (ld_glob I hg hm ?_ hdb) hc
  refine PySem.W.method_cls I.kIn cr.ga (PySem.W.cls_value I.kIn cr.rd ca rfl ?_)
  refine PySem.W.callWith_K (first := []) (h₀ := X.base) I.ok.mod.kin kp (thn (ha.run pos pins _ σ H _ (I.tok _) h) fun us s2 ⟨vs, H2, I2, r, q2⟩ => ⟨I2.kIn, ?_⟩) he hpl
  exact run_fn F (hr.mono hk) b .nil passL I2 r q2
/-- C(), C without an __init__ -/
structure MbC (K : PySem.W.Frag) (mg : Str → Option Value) (C : Str) : Prop where
  mks : PySem.W.makesIn K (He.ga K C) = true
  ini : PySem.W.findIn K (.ref (He.ga K C)) "__init__" = some (some (.builtin "object.__init__"))
  kp : PySem.W.keepIn K (.ref (He.ga K C)) = true
  ob : PySem.W.mroIn K (He.ga K C) (.type "object") = some true
def mbB (K : PySem.W.Frag) (C : Str) : Bool := PySem.W.makesIn K (He.ga K C) && (He.eqO (PySem.W.findIn K (.ref (He.ga K C)) "__init__") (some (some (.builtin "object.__init__"))) && (PySem.W.keepIn K (.ref (He.ga K C)) && decide (PySem.W.mroIn K (He.ga K C) (.type "object") = some true)))
theorem mbB_ok {K : PySem.W.Frag} {mg : Str → Option Value} {C : Str} (h : mbB K C = true) : MbC K mg C := by
  obtain ⟨h1, h⟩ := He.ba h
  obtain ⟨h2, h⟩ := He.ba h
  obtain ⟨h3, h4⟩ := He.ba h
  exact ⟨h1, He.eqO_ok h2, h3, of_decide_eq_true h4⟩
def tMakeB (C : Addr) : TE := fun _ H Q => ∀ x dx, H x = none → H dx = none → dx ≠ x → Q (.ref x) (upd (upd H dx (.own x)) x (.ins C dx []))
theorem pmakeB {K : PySem.W.Frag} (hK : X.K = K) (c : MbC K X.mg C) (hm : X.mg C = some (.ref (He.ga K C))) (hg : Gl X C := by rfl) (hdb : (C == ("__debug__" : Str)) = false := by decide) : PE X (.Call (.Name C p) [] [] pos) (tMakeB (He.ga K C)) := by
  subst hK
  refine ⟨fun pins s σ H Q I h => ?_⟩
  refine wpAny_Call_Name_kw (ld_glob I hg hm ?_ hdb)
  refine PySem.W.callWith_K0 I.kIn c.kp ?_
  have q := h (s.heap.objs.size + 1) s.heap.objs.size (I.hok.fresh (Nat.le_succ _)) (I.hok.fresh (Nat.le_refl _)) (Nat.ne_of_lt (Nat.lt_succ_self _))
  have I2 := Inv.made (C := He.ga X.K C) I
  refine wpAny_call (make_map0 I.kIn c.mks c.ini (fun self => PySem.W.Looks.of_pure (PySem.W.oi_bind self)) ?_)
  have hx : ((s.heap.push PySem.W.emptyDict).push (PySem.W.instObj (He.ga X.K C) s.heap.objs.size)).get? (s.heap.objs.size + 1) = some (PySem.W.instObj (He.ga X.K C) s.heap.objs.size) := by
    have := Heap.get?_push_size (s.heap.push PySem.W.emptyDict) (o := PySem.W.instObj (He.ga X.K C) s.heap.objs.size) rfl
    rwa [Heap.size_push] at this
  have t1 : PySem.W.Looks (model X.prog X.w) ((s.heap.push PySem.W.emptyDict).push (PySem.W.instObj (He.ga X.K C) s.heap.objs.size)) (typeOf (.ref (s.heap.objs.size + 1))) (.ref (He.ga X.K C)) := (PySem.W.Looks.ld hx).andThen .now
  have t2 : PySem.W.Looks (model X.prog X.w) ((s.heap.push PySem.W.emptyDict).push (PySem.W.instObj (He.ga X.K C) s.heap.objs.size)) (isInstance (.ref (s.heap.objs.size + 1)) (.type "object")) true := t1.andThen (PySem.W.looks_mroIn (M := model X.prog X.w) I2.kIn c.ob)
  refine codeAny_call_builtin PySem.W.oi_plain PySem.W.entry_oi (@PySem.W.check_slot (model X.prog X.w) _ _ _ "object.__init__" "object" "__init__" (.ref (s.heap.objs.size + 1)) [] [] _ PySem.W.oi_kind PySem.W.oi_split t2 (PySem.W.oi_args (.ref (s.heap.objs.size + 1))) ?_)
  rw [PySem.W.oi_run]
  exact wpAny_pure (And.intro rfl ⟨V.ref (s.heap.objs.size + 1), _, I2, rfl, q⟩)
end
section
variable {σ : L2.St} {H : Hp} {Q : VK} {ta tv : TE} {K : PySem.W.Frag} {a C dx : Addr} {fs : List (Str × V)} {f m : Str} {v : V} {sp : Sp} {t : TA} {D : Ends} {E : XK}
def rFld (K : PySem.W.Frag) (f : Str) (x : V) (H1 : Hp) (Q : VK) : Prop := ∃ a C dx fs v, x = .ref a ∧ H1 a = some (.ins C dx fs) ∧ Cls K C ∧ NoAttr K C f ∧ fs.lookup f = some v ∧ Q v H1
theorem k_fld (q : ta σ H fun x H1 => rFld K f x H1 Q) : tFld K ta f σ H Q := q
theorem k_fldx (h : H a = some (.ins C dx fs)) (c : Cls K C) (n : NoAttr K C f) (l : fs.lookup f = some v) (q : Q v H) : rFld K f (.ref a) H Q := ⟨a, C, dx, fs, v, rfl, h, c, n, l, q⟩
def rSFld (K : PySem.W.Frag) (f : Str) (x y : V) (H2 : Hp) (Q : Hp → Prop) : Prop := ∃ a C dx fs, x = .ref a ∧ H2 a = some (.ins C dx fs) ∧ Cls K C ∧ NoAttr K C f ∧ fs.length < 1000 ∧ Q (upd H2 a (.ins C dx (putF f y fs)))
theorem k_sfld (q : tv σ H fun y H1 => ta σ H1 fun x H2 => rSFld K f x y H2 fun H3 => D.nx σ H3) : sFld K ta tv f D σ H := q
theorem k_sfldx {y : V} {Q : Hp → Prop} (h : H a = some (.ins C dx fs)) (c : Cls K C) (n : NoAttr K C f) (q : ∀ H', But a H H' → H' a = some (.ins C dx (putF f y fs)) → Q H') (l : fs.length < 1000) : rSFld K f (.ref a) y H Q := ⟨a, C, dx, fs, rfl, h, c, n, l, q _ But.upd upd_same⟩
def rMeth (C : Addr) (m : Str) (x : V) (H1 : Hp) (P : Prop) : Prop := ∃ a dx fs, x = .ref a ∧ H1 a = some (.ins C dx fs) ∧ fs.lookup m = none ∧ P
theorem k_meth {E : L2.St → XK} (q : ta σ H fun x H1 => rMeth C m x H1 (t σ H1 fun vs H2 => sp (x :: vs) H2 Q (E σ))) : tMethS C m sp E ta t σ H Q := q
theorem k_methx {P : Prop} (h : H a = some (.ins C dx fs)) (l : fs.lookup m = none) (q : P) : rMeth C m (.ref a) H P := ⟨a, dx, fs, rfl, h, l, q⟩
theorem k_o1 {t u : TE} (q : t σ H Q) : tOr2 t u σ H Q := .inl q
theorem k_o2 {t u : TE} (q : u σ H Q) : tOr2 t u σ H Q := .inr q
def rMake (C : Addr) (sp : Sp) (vs : List V) (H1 : Hp) (Q : VK) (E : XK) : Prop := ∀ x dx, H1 x = none → H1 dx = none → dx ≠ x → sp (.ref x :: vs) (upd (upd H1 dx (.own x)) x (.ins C dx [])) (fun v H2 => v = .non ∧ Q (.ref x) H2) E
theorem k_make (q : t σ H fun vs H1 => rMake C sp vs H1 Q E) : tMake C sp [] E t σ H Q := by
  unfold tMake
  simp only [List.append_nil]
  exact q
theorem k_makex {vs : List V} (q : ∀ x dx H2, H x = none → H dx = none → Same H H2 → H2 x = some (.ins C dx []) → H2 dx = some (.own x) → sp (.ref x :: vs) H2 (fun v H3 => v = .non ∧ Q (.ref x) H3) E) : rMake C sp vs H Q E := fun x dx hx hd ne =>
  q x dx _ hx hd ((same_new hd).trans (same_new (by rw [upd_ne (Ne.symm ne)]; exact hx))) upd_same (by rw [upd_ne ne, upd_same])
def rMakeB (C : Addr) (H : Hp) (Q : VK) : Prop := ∀ x dx, H x = none → H dx = none → dx ≠ x → Q (.ref x) (upd (upd H dx (.own x)) x (.ins C dx []))
theorem k_makeB (q : rMakeB C H Q) : tMakeB C σ H Q := q
theorem k_makeBx (q : ∀ x dx H2, H x = none → Same H H2 → H2 x = some (.ins C dx []) → Q (.ref x) H2) : rMakeB C H Q := fun x dx hx hd ne =>
  q x dx _ hx ((same_new hd).trans (same_new (by rw [upd_ne (Ne.symm ne)]; exact hx))) upd_same
end
/-! fields by name -/
section
variable {f g : Str} {u v : V} {r : List (Str × V)}
theorem lk1 : List.lookup f ((f, v) :: r) = some v := by simp [List.lookup]
theorem lkn (h : (f == g) = false) (k : List.lookup f r = some v) : List.lookup f ((g, u) :: r) = some v := by
  show (match f == g with | true => some u | false => List.lookup f r) = _
  rw [h]
  exact k
theorem lk0 : List.lookup f ([] : List (Str × V)) = none := rfl
theorem lkz (h : (f == g) = false) (k : List.lookup f r = none) : List.lookup f ((g, u) :: r) = none := by
  show (match f == g with | true => some u | false => List.lookup f r) = _
  rw [h]
  exact k
theorem pfl0 : ([] : List (Str × V)).length < 1 := by decide
theorem pfl : ∀ {r : List (Str × V)} {n : Nat}, r.length < n → (putF f v r).length < n + 1
  | [], n, h => by show 1 < n + 1; simp at h; omega
  | (g, u) :: r, n, h => by
    show (if g = f then (g, v) :: r else (g, u) :: putF f v r).length < n + 1
    cases n with
    | zero => simp at h
    | succ n =>
      split
      · simp at h ⊢; omega
      · have := pfl (r := r) (n := n) (by simpa using h)
        simp only [List.length_cons]
        omega
theorem pf0 : putF f v [] = [(f, v)] := rfl
theorem pf1 : putF f v ((f, u) :: r) = (f, v) :: r := if_pos rfl
theorem pfn (h : g ≠ f) : putF f v ((g, u) :: r) = (g, u) :: putF f v r := if_neg h
end
/-- what a class says, read through -/
def supmB (K : PySem.W.Frag) (C m : Str) : Bool := PySem.W.readsIn K (He.ga K C) (.type "type") && (He.eqO (PySem.W.specialIn K (.ref (He.ga K C)) "__getattribute__") (some (some (.builtin "type.__getattribute__"))) && (PySem.W.keepIn K (.ref (He.ma K (He.ga K C) m)) && (match PySem.W.findCls K (.ref (He.ga K C)) (.type "type") m with
  | some (.val (.ref f)) => f == He.ma K (He.ga K C) m
  | _ => false)))
theorem supmB_ok {K : PySem.W.Frag} {C m : Str} (h : supmB K C m = true) : ClX.CRead K (He.ga K C) (.type "type") ∧ PySem.W.findCls K (.ref (He.ga K C)) (.type "type") m = some (.val (.ref (He.ma K (He.ga K C) m))) ∧ PySem.W.keepIn K (.ref (He.ma K (He.ga K C) m)) = true := by
  obtain ⟨h1, h⟩ := He.ba h
  obtain ⟨h2, h⟩ := He.ba h
  obtain ⟨h3, h4⟩ := He.ba h
  refine ⟨⟨h1, He.eqO_ok h2⟩, ?_, h3⟩
  split at h4
  · rename_i f e
    rw [e, beq_iff_eq.mp h4]
  · cases h4
/-! ### operators, joined -/
section
variable {X : Cx}
/-! a given list + a list -/
section
theorem addL_any (l : Addr) (xs : Array Value) (n : Nat) (dd : Option Addr) (sl : Array (Option Value)) (b : Addr) (ys : Array Value) (m : Nat) (de : Option Addr) (sk : Array (Option Value)) (hz : xs.size + ys.size ≤ sizeLine) :
    Meets (Builtin.«list.__add__» ⟨[.ref l, .ref b], []⟩) (fun _ R s => s.heap.get? l = some ⟨.type "list", dd, .seq xs n, sl⟩ ∧ s.heap.get? b = some ⟨.type "list", de, .seq ys m, sk⟩ ∧ R (.ok (.ret (Value.ref s.heap.objs.size))) { s with heap := s.heap.push ⟨Value.type "list", none, Data.seq (xs ++ ys) 0, #[]⟩, toks := s.toks }) :=
  .of_wp fun prog w A R st z => by
    obtain ⟨h0, g0, d0, t0, o0⟩ := st
    obtain ⟨z1, z2, z3⟩ := z
    have t1 := AutoSeq1.idx_int; have t2 := AutoSeq1.sub_tuple_tuple; have t3 := AutoSeq1.sub_list_list; have t4 := AutoSeq1.sub_tuple_list; have t5 := AutoSeq1.sub_list_tuple
    wp_walk using AutoSeq1.wpAny_loadPart' z1, AutoSeq1.wpAny_loadPart' z2
    exact ⟨_, rfl, z3⟩
def rCatL (K : PySem.W.Frag) : R2 := fun x y H Q => ∃ l b xs zs, x = .ref l ∧ y = .ref b ∧ SqL K H l xs ∧ SqL K H b zs ∧ xs.length + zs.length ≤ sizeLine ∧ ∀ p, H p = none → Q (.ref p) (upd H p (.lst (xs ++ zs)))
theorem op_catL {X : Cx} : OpR X (binaryOp .Add) (rCatL X.K) := by
  rintro pins s σ H x y v u Q I rx ry ⟨l, b, xs, zs, rfl, rfl, hx, hy, hz, q⟩
  cases rx
  cases ry
  obtain ⟨as, r1, ⟨o1, n1, e1, c1, d1, k1⟩, z1⟩ := I.list hx
  obtain ⟨bs, r2, ⟨o2, n2, e2, c2, d2, k2⟩, z2⟩ := I.list hy
  obtain ⟨oc1, od1, ot1, os1⟩ := o1
  obtain ⟨oc2, od2, ot2, os2⟩ := o2
  simp only at c1 c2 k1 k2
  subst c1 c2 k1 k2
  have l1 := r1.length
  have l2 := r2.length
  refine PySem.concat_meets ⟨_, e1, rfl⟩ ⟨_, e2, rfl⟩ PySem.noFill_list_add PySem.seq_list_add PySem.F.slot_list_add PySem.F.entry_list_add (PySem.F.args_list_add_2 _ _) (addL_any l as.toArray n1 od1 os1 b bs.toArray n2 od2 os2 (by simp only [List.size_toArray]; omega)) ⟨e1, e2, ?_⟩
  have ea : as.toArray ++ bs.toArray = (as ++ bs).toArray := by simp
  rw [ea]
  exact ⟨.ref _, _, I.lnew (t' := s.toks) (r1.append r2) (by rw [List.length_append]; omega), rfl, q _ I.fresh⟩
end
def rAddU (K : PySem.W.Frag) : R2 := fun x y H Q => (∃ i j, x = .int i ∧ y = .int j ∧ Q (.int (i + j)) H) ∨ (∃ i j, x = .str i ∧ y = .str j ∧ i.length + j.length ≤ sizeLine ∧ Q (.str (i ++ j)) H) ∨ rCat x y H Q ∨ rCatA K x y H Q ∨ rCatL K x y H Q
theorem op_addU : OpR X (binaryOp .Add) (rAddU X.K) := op_add.or (op_add_str.or (op_cat.or (op_catA.or op_catL)))
theorem tuple_mul1 (l : Addr) (items : Array Value) (n : Nat) (dd : Option Addr) (sl : Array (Option Value)) (u : Tok) :
    Meets (Builtin.«tuple.__mul__» ⟨[.ref l, .int 1 u], []⟩) (fun _ R s => s.heap.get? l = some { cls := .type "tuple", dict := dd, data := .seq items n, slots := sl } ∧ R (.ok (.ret (Value.ref l))) s) :=
  .of_wp fun prog w A R s h => by
    obtain ⟨hp, g, d, tk, os⟩ := s
    obtain ⟨hl, h⟩ := h
    have f1 := AutoSeq1.idx_int
    have c0 : (decide ((1 : Int) < -(2 ^ 63)) || decide ((1 : Int) ≥ 2 ^ 63)) = false := by decide
    have c1 : (items.isEmpty || (1 : Int) == 1) = true := by simp
    wp_walk using wpAny_loadPart' hl
    repeat (first
      | (refine wpAny_ite_false (decide_eq_false (by rw [c0]; exact Bool.false_ne_true)) ?_; wp_walk using wpAny_loadPart' hl)
      | (refine wpAny_ite_true (decide_eq_true c1) ?_; wp_walk using wpAny_loadPart' hl))
    exact ⟨_, rfl, h⟩
def rRep1 (K : PySem.W.Frag) : R2 := fun x y H Q => ∃ l xs, x = .ref l ∧ y = .int 1 ∧ SqT K H l xs ∧ Q (.ref l) H
theorem op_rep1 {X : Cx} : OpR X (binaryOp .Mult) (rRep1 X.K) := by
  intro pins s σ H x y v u Q I rx ry h
  obtain ⟨l, xs, rfl, rfl, hT, q⟩ := h
  cases rx
  obtain ⟨t, rfl⟩ := ry
  obtain ⟨its, r, ⟨⟨cls, dd, data, sl⟩, ho, hc, n, hd⟩, hs⟩ := I.tuple hT
  simp only at hc hd
  subst hc hd
  refine wpAny_binaryOp_repeat_ref (T := "tuple") (U := "int") (by decide) ⟨_, ho, rfl⟩ (fun s' => typeIs_int s' 1 t) noFill_tuple_mul F.fills_int_mul F.slot_int_rmul repeat_tuple F.slot_int_index.lookup
    (call_meets F.slot_int_rmul (typeIs_int s 1 t) F.entry_int_rmul (F.args_int_rmul_2 _ _) (int_rmul_tuple 1 t l its.toArray n dd sl)
      ⟨ho, rfl, ⟨_, ho, rfl⟩, call_meets F.slot_tuple_mul ⟨_, ho, rfl⟩ F.entry_tuple_mul (F.args_tuple_mul_2 _ _) (tuple_mul1 l its.toArray n dd sl t) ⟨ho, ?_⟩⟩)
  exact ⟨.ref l, H, I, rfl, q⟩
/-- a short text, repeated -/
def rMulS : R2 := fun x y H Q => ∃ (z : Str) (i : Int), x = .str z ∧ y = .int i ∧ z.length ≤ 16 ∧ 0 ≤ i ∧ i ≤ 1048576 ∧ ∀ u : Str, (u.length : Int) = z.length * i → Q (.str u) H
theorem op_mulS : OpR X (binaryOp .Mult) rMulS := by
  rintro pins s σ H x y v u Q I rx ry ⟨z, i, rfl, rfl, hz, h0, h1, q⟩
  obtain ⟨t, rfl⟩ := rx
  obtain ⟨k, rfl⟩ := ry
  exact PySem.W.KXi.mul rfl hz (by omega) h1 fun t' m _ hl => ⟨.str _, H, I.tok _, ⟨_, rfl⟩, q _ (hl h0)⟩
def rMulU (K : PySem.W.Frag) : R2 := fun x y H Q => (∃ i j, x = .int i ∧ y = .int j ∧ CMulX i j ∧ Q (.int (i * j)) H) ∨ rRep x y H Q ∨ rRepT K x y H Q ∨ rMulS x y H Q ∨ rRep1 K x y H Q
theorem op_mulU : OpR X (binaryOp .Mult) (rMulU X.K) := op_mulX.or (op_rep.or (op_repT.or (op_mulS.or op_rep1)))
/-- lists that are not as long -/
def rEqL (K : PySem.W.Frag) : R2 := fun x y H Q => ∃ a b xs ys, x = .ref a ∧ y = .ref b ∧ SqL K H a xs ∧ SqL K H b ys ∧ xs.length ≠ ys.length ∧ Q (.bl false) H
theorem op_eqL {X : Cx} (hu : X.A.units < cLine) : OpR X (compareOp .Eq) (rEqL X.K) := by
  rintro pins s σ H x y v u Q I rx ry ⟨a, b, xs, ys, rfl, rfl, hx, hy, ne, q⟩
  cases rx
  cases ry
  obtain ⟨us, ru, pu, _⟩ := I.list hx
  obtain ⟨vs, rv, pv, _⟩ := I.list hy
  refine PySem.SeqAt.eq_list_lengthsAt pu.isList pv.isList ?_ hu ⟨.bl false, H, I, rfl, q⟩
  have h1 := ru.length
  have h2 := rv.length
  simp
  omega
def rEqU (K : PySem.W.Frag) : R2 := fun x y H Q => rEq x y H Q ∨ rEqD K x y H Q ∨ rEqL K x y H Q
def rNeL (K : PySem.W.Frag) : R2 := fun x y H Q => ∃ a b xs ys, x = .ref a ∧ y = .ref b ∧ SqL K H a xs ∧ SqL K H b ys ∧ xs.length ≠ ys.length ∧ Q (.bl true) H
theorem op_neL {X : Cx} (hu : X.A.units < cLine) : OpR X (compareOp .NotEq) (rNeL X.K) := by
  rintro pins s σ H x y v u Q I rx ry ⟨a, b, xs, ys, rfl, rfl, hx, hy, ne, q⟩
  cases rx
  cases ry
  obtain ⟨us, ru, pu, _⟩ := I.list hx
  obtain ⟨vs, rv, pv, _⟩ := I.list hy
  refine PySem.SeqAt.RcNeAt.lists_lengths pu.isList pv.isList ?_ hu X.prog X.w _ _ ⟨.bl true, H, I, rfl, q⟩
  have h1 := ru.length
  have h2 := rv.length
  simp
  omega
def rNeU (K : PySem.W.Frag) : R2 := fun x y H Q => rNe x y H Q ∨ rNeD K x y H Q ∨ rNeL K x y H Q
theorem op_eqU {k : Nat} (hr : Room k X.A) : OpR X (compareOp .Eq) (rEqU X.K) := op_eq.or ((op_eqD hr.units).or (op_eqL (by have := hr.units; omega)))
theorem op_neU {k : Nat} (hr : Room k X.A) : OpR X (compareOp .NotEq) (rNeU X.K) := op_ne.or ((op_neD hr.units).or (op_neL (by have := hr.units; omega)))
def CDivG (i j : Int) : Prop := j ≠ 0 ∧ Builtin.divisionGoesByPylong i j = false
theorem noPy_low {i j : Int} (h : j.natAbs < 2 ^ 9000) : Builtin.divisionGoesByPylong i j = false := PyProof.noPylong_of_log2 (PySem.Flt.log2_lt_of (by decide) h)
theorem noPy_mid {i j : Int} (h : i.natAbs < 2 ^ 13500) : Builtin.divisionGoesByPylong i j = false := by
  have e := PySem.Flt.log2_lt_of (by decide) h
  unfold Builtin.divisionGoesByPylong
  simp only [Bool.and_eq_false_iff, decide_eq_false_iff_not]
  by_cases c : j = 0
  · left; simp [c]
  · by_cases c2 : i = 0
    · right; simp [c2]
    · simp [c, c2]; omega
theorem op_fdivG : OpR X (binaryOp .FloorDiv) (rI CDivG fun i j => .int (i.fdiv j)) := opI fun i j _ _ _ _ _ hc q => floordiv_int hc.1 q (.inl hc.2)
end
/-- walking a list or a tuple -/
def rItU (K : PySem.W.Frag) (x : V) (H : Hp) (R : It → Hp → Prop) : Prop := ∃ a, x = .ref a ∧ (((∃ xs, SqL K H a xs) ∧ R (Itl K a) H) ∨ ((∃ xs, SqT K H a xs) ∧ R (Itt K a) H))
def iSeqU (K : PySem.W.Frag) (tl : TE) : TI := fun σ H R => tl σ H fun x H1 => rItU K x H1 R
theorem pi_seqU {X : Cx} {tg l : Expr} {tl : TE} (hl : PE X l tl) : PI X tg l (iSeqU X.K tl) :=
  ⟨fun pins s σ H R I h => thn (hl.run pins s σ H _ I h) fun v s1 z => by
    obtain ⟨x, H1, I1, r1, a, e, z⟩ := z
    cases e
    cases r1
    have fp : ∀ b ∈ [s1.heap.objs.size], FpOk X pins H1 b := fun b hb => by
      obtain rfl : b = s1.heap.objs.size := by simpa using hb
      exact I1.fpOk (Nat.le_refl _) (I1.hok.fresh (Nat.le_refl _))
    rcases z with ⟨⟨xs, hq⟩, q⟩ | ⟨⟨xs, hq⟩, q⟩
    · obtain ⟨its, _, pl, _⟩ := I1.list hq
      exact wpAny_pyIter_list pl.isList ⟨_, [s1.heap.objs.size], _, _, H1, rfl, I1.kept (t' := s1.toks) (fun b o w => Heap.get?_push_of_some _ w), turn_list a _, ⟨_, Heap.get?_push_size _ rfl, rfl, rfl⟩, fp, q⟩
    · obtain ⟨its, _, pt, _⟩ := I1.tuple hq
      exact wpAny_pyIter_tuple (show s1.heap.IsTuple a its.toArray from pt) ⟨_, [s1.heap.objs.size], _, _, H1, rfl, I1.kept (t' := s1.toks) (fun b o w => Heap.get?_push_of_some _ w), turn_tuple a _, ⟨_, Heap.get?_push_size _ rfl, rfl, rfl⟩, fp, q⟩⟩
/-- a tuple's type, a list's type -/
theorem pi_seqUK {X : Cx} {K : PySem.W.Frag} {tg l : Expr} {tl : TE} (h : X.K = K) (hl : PE X l tl) : PI X tg l (iSeqU K tl) := h ▸ pi_seqU hl
theorem ty_tup {K : PySem.W.Frag} {H : Hp} {p : Addr} {xs : List V} (h : SqT K H p xs) : TyX K H (.ref p) (.type "tuple") := by
  rcases h with (h | ⟨o, h⟩) | ⟨o, its, n, h, c, _⟩
  · exact .base (.tup h)
  · exact .fTuple h
  · exact .kTuple h c
theorem ty_lst {K : PySem.W.Frag} {H : Hp} {p : Addr} {xs : List V} (h : SqL K H p xs) : TyX K H (.ref p) (.type "list") := by
  rcases h with (h | ⟨o, h⟩) | ⟨o, its, n, h, c, _⟩
  · exact .base (.lst h)
  · exact .base (.frz h)
  · exact .kList h c
/-- isinstance(e, c), e the error that a suite holds, its class cls, its dict d -/
def rIsEU (K : PySem.W.Frag) (a : Addr) (cls : Value) (d : Option Addr) : List V → Hp → VK → Prop := fun xs H Q => ∃ D : Addr, cls = .ref D ∧ (d = none ∨ ∃ dd fs, d = some dd ∧ H dd = some (.xd fs)) ∧ ExcC K D ∧ rIsE K D a xs H Q
theorem call_isEU {X : Cx} {a : Addr} {cls : Value} {d : Option Addr} {oe : Obj} {pn : List (Addr × Obj)} (hz : Zc cls d oe) (hf : ∃ vs, oe.data = .fields vs) : CallR (X.suite a ((a, oe) :: pn)) (.builtin "isinstance") (rIsEU X.K a cls d) := by
  intro pins s σ H xs us Q I r h
  obtain ⟨D, rfl, hd, C, h⟩ := h
  rcases hd with rfl | ⟨dd, fs, rfl, hdd⟩
  · exact call_isE C hz hf pins s σ H xs us Q I r h
  · obtain ⟨c, cv, b, rfl, hcv, e, q⟩ := h
    cases r with
    | cons rx rr =>
      cases rr with
      | cons rt rr =>
        cases rr
        cases rx
        have ec := hcv _ rt
        subst ec
        obtain ⟨hget, _⟩ := I.pin (a, oe) (List.mem_append.mpr (.inl List.mem_cons_self))
        obtain ⟨vs, hv⟩ := hf
        have hx : ObjOk X.prog X.w H s.heap dd (.xd fs) := I.hok dd _ hdd
        obtain ⟨mA, hns, hr⟩ := hx
        obtain ⟨od, ho, hl⟩ := lookIn_ns hns
        have J : PySem.W.InstAt s.heap a oe D (some od) := ⟨hget, hz.1, by unfold PySem.W.notCls; rw [hv] <;> rfl, by rw [hz.2]; exact ho⟩
        exact PySem.W.kia_one (PySem.W.kitx_exc (by obtain ⟨cd, hc, _⟩ := PySem.W.any_some C.hd; rw [hc]; rfl) C.hg C.hk C.hs C.ha C.hn C.ht C.hm) I.kIn J e (fun z => nomatch z) fun tk => ⟨.bl b, H, I.kept (t' := tk) fun _ _ z => z, rfl, q⟩
theorem k_isE {K : PySem.W.Frag} {H : Hp} {Q : VK} {a D : Addr} {c : V} {cv : Value} {b : Bool} (C : ExcC K D) (hk : PySem.W.kitOne K (.ref D) cv = some b) (hc : ∀ u, RelV c u → u = cv) (q : Q (.bl b) H) : rIsEU K a (.ref D) none [.ref a, c] H Q := ⟨D, rfl, .inl rfl, C, c, cv, b, rfl, hc, hk, q⟩
theorem k_isED {K : PySem.W.Frag} {H : Hp} {Q : VK} {a D dd : Addr} {fs : List (Str × V)} {c : V} {cv : Value} {b : Bool} (h : H dd = some (.xd fs)) (C : ExcC K D) (hk : PySem.W.kitOne K (.ref D) cv = some b) (hc : ∀ u, RelV c u → u = cv) (q : Q (.bl b) H) : rIsEU K a (.ref D) (some dd) [.ref a, c] H Q := ⟨D, rfl, .inr ⟨dd, fs, rfl, h⟩, C, c, cv, b, rfl, hc, hk, q⟩
def excB (K : PySem.W.Frag) (x : Str) : Bool := He.eqO (PySem.W.findIn K (.ref (He.ga K x)) "__getattribute__") (some (some (.builtin "BaseException.__getattribute__"))) && (He.eqO (PySem.W.findIn K (.ref (He.ga K x)) "__getattr__") (some none) &&
  (decide (PySem.W.subIn K (.ref (He.ga K x)) (.type "BaseException") = some true) && (PySem.W.hasDictIn K (He.ga K x) && (He.eqO (PySem.W.findIn K (.ref (He.ga K x)) "__class__") (some (some (.builtin "object.__class__"))) &&
  (He.eqO (PySem.W.specialIn K (.builtin "object.__class__") "__get__") (some (some (.builtin "getset_descriptor.__get__"))) && (decide (PySem.W.takesIn K (.builtin "object.__class__") = some true) && decide (PySem.W.mroIn K (He.ga K x) (.type "object") = some true)))))))
theorem excB_ok {K : PySem.W.Frag} {x : Str} (h : excB K x = true) : ExcC K (He.ga K x) := by
  unfold excB at h
  obtain ⟨h1, h⟩ := He.ba h
  obtain ⟨h2, h⟩ := He.ba h
  obtain ⟨h3, h⟩ := He.ba h
  obtain ⟨h4, h⟩ := He.ba h
  obtain ⟨h5, h⟩ := He.ba h
  obtain ⟨h6, h⟩ := He.ba h
  obtain ⟨h7, h8⟩ := He.ba h
  exact ⟨He.eqO_ok h1, He.eqO_ok h2, of_decide_eq_true h3, h4, He.eqO_ok h5, He.eqO_ok h6, of_decide_eq_true h7, of_decide_eq_true h8⟩
def kitB2 (K : PySem.W.Frag) (x : Str) (c : Value) (b : Bool) : Bool := decide (PySem.W.kitOne K (.ref (He.ga K x)) c = some b)
theorem xat {K : PySem.W.Frag} {l : List (PySem.W.Frag → Bool)} (h : (l.all fun f => f K) = true) (i : Nat) {f : PySem.W.Frag → Bool} (e : l[i]? = some f) : f K = true := List.all_eq_true.mp h f (List.mem_of_getElem? e)
/-! ### readings, step by step -/
section
variable {σ : L2.St} {H : Hp} {Q : VK} {v : V} {ta tb tc te : TE} {tt tu : TT} {K : PySem.W.Frag} {i j : Nat}
theorem k_var (h : σ[i]? = some (some v)) (q : Q v H) : tVar i σ H Q := ⟨v, h, q⟩
theorem k_c (q : Q v H) : tC v σ H Q := q
theorem k_op {r : R2} (q : ta σ H fun x H1 => tb σ H1 fun y H2 => r x y H2 Q) : tOp r ta tb σ H Q := q
theorem k_un {r : V → Hp → VK → Prop} (q : ta σ H fun x H1 => r x H1 Q) : tUn r ta σ H Q := q
theorem k_neg {a : Int} (q : Q (.int (-a)) H) : rU (fun i => .int (-i)) (.int a) H Q := ⟨a, rfl, q⟩
theorem k_I0 {g : Int → Int → V} {a b : Int} (q : Q (g a b) H) : rI0 g (.int a) (.int b) H Q := ⟨a, b, rfl, rfl, q⟩
theorem k_I {C : Int → Int → Prop} {g : Int → Int → V} {a b : Int} (q : Q (g a b) H) (c : C a b) : rI C g (.int a) (.int b) H Q := ⟨a, b, rfl, rfl, c, q⟩
theorem k_addI {a b : Int} (q : Q (.int (a + b)) H) : rAddU K (.int a) (.int b) H Q := .inl ⟨a, b, rfl, rfl, q⟩
theorem k_addS {a b : Str} (q : Q (.str (a ++ b)) H) (c : a.length + b.length ≤ sizeLine) : rAddU K (.str a) (.str b) H Q := .inr (.inl ⟨a, b, rfl, rfl, c, q⟩)
theorem k_addL {a b : Addr} {xs ys : List V} (ha : H a = some (.lst xs)) (hb : H b = some (.lst ys)) (q : ∀ p H', H p = none → Same H H' → H' p = some (.lst (xs ++ ys)) → Q (.ref p) H') (c : xs.length + ys.length ≤ sizeLine) : rAddU K (.ref a) (.ref b) H Q :=
  .inr (.inr (.inl ⟨a, b, xs, ys, rfl, rfl, ha, hb, c, fun p hp => q p _ hp (same_new hp) upd_same⟩))
theorem k_addT {a b : Addr} {xs ys : List V} (ha : SqT K H a xs) (hb : SqT K H b ys) (hx : xs ≠ []) (hy : ys ≠ []) (q : ∀ p H', H p = none → Same H H' → H' p = some (.tup (xs ++ ys)) → Q (.ref p) H') (c : xs.length + ys.length ≤ sizeLine) : rAddU K (.ref a) (.ref b) H Q :=
  .inr (.inr (.inr (.inl ⟨a, b, xs, ys, rfl, rfl, ha, hb, c, fun e => absurd e hx, fun _ e => absurd e hy, fun _ _ p hp => q p _ hp (same_new hp) upd_same⟩)))
theorem k_mulI {a b : Int} (q : Q (.int (a * b)) H) (c : CMulX a b) : rMulU K (.int a) (.int b) H Q := .inl ⟨a, b, rfl, rfl, c, q⟩
theorem k_mulS {z : Str} {i : Int} (hz : z.length ≤ 16) (h0 : 0 ≤ i) (h1 : i ≤ 1048576) (q : ∀ u : Str, (u.length : Int) = z.length * i → Q (.str u) H) : rMulU K (.str z) (.int i) H Q := .inr (.inr (.inr (.inl ⟨z, i, rfl, rfl, hz, h0, h1, q⟩)))
/-- a tuple of one, repeated -/
theorem k_mulRT {l : Addr} {y : V} {k : Nat} (h : SqT K H l [y]) (h1 : 1 ≤ k) (h2 : k ≤ 1000) (q : ∀ p H', Same H H' → SqT K H' p (List.replicate k y) → Q (.ref p) H') : rMulU K (.ref l) (.int (k : Int)) H Q := by
  by_cases e : k = 1
  · subst e
    exact .inr (.inr (.inr (.inr ⟨l, _, rfl, rfl, h, q l H (Same.refl H) h⟩)))
  · refine .inr (.inr (.inl ⟨l, _, _, rfl, rfl, h, by simp, by omega, by omega, by simp, fun p hp => q p _ (same_new hp) ?_⟩))
    have e2 : ∀ n : Nat, (List.replicate n [y]).flatten = List.replicate n y := fun n => by
      induction n with
      | zero => rfl
      | succ n ih => rw [List.replicate_succ, List.flatten_cons, ih, List.replicate_succ]; rfl
    rw [show ((k : Int)).toNat = k from rfl, e2]
    exact SqT.of upd_same
theorem k_eqS {x y : V} (h : scal x y = true) (q : Q (.bl (decide (x = y))) H) : rEqU K x y H Q := .inl ⟨h, q⟩
theorem k_neS {x y : V} (h : scal x y = true) (q : Q (.bl (!decide (x = y))) H) : rNeU K x y H Q := .inl ⟨h, q⟩
theorem dec_int {a b : Int} : decide (V.int a = V.int b) = decide (a = b) := by
  by_cases h : a = b
  · rw [h] <;> simp
  · rw [decide_eq_false h, decide_eq_false (fun e => h (V.int.inj e))]
theorem dec_str {a b : Str} : decide (V.str a = V.str b) = decide (a = b) := by
  by_cases h : a = b
  · rw [h] <;> simp
  · rw [decide_eq_false h, decide_eq_false (fun e => h (V.str.inj e))]
theorem dec_bl {a b : Bool} : decide (V.bl a = V.bl b) = decide (a = b) := by
  cases a <;> cases b <;> decide
theorem k_eqI {a b : Int} (q : Q (.bl (decide (a = b))) H) : rEqU K (.int a) (.int b) H Q := k_eqS rfl (by rw [dec_int]; exact q)
theorem k_neI {a b : Int} (q : Q (.bl (!decide (a = b))) H) : rNeU K (.int a) (.int b) H Q := k_neS rfl (by rw [dec_int]; exact q)
theorem k_eqT {a b : Str} (q : Q (.bl (decide (a = b))) H) : rEqU K (.str a) (.str b) H Q := k_eqS rfl (by rw [dec_str]; exact q)
theorem k_neT {a b : Str} (q : Q (.bl (!decide (a = b))) H) : rNeU K (.str a) (.str b) H Q := k_neS rfl (by rw [dec_str]; exact q)
theorem k_eqB {a b : Bool} (q : Q (.bl (decide (a = b))) H) : rEqU K (.bl a) (.bl b) H Q := k_eqS rfl (by rw [dec_bl]; exact q)
theorem k_neB {a b : Bool} (q : Q (.bl (!decide (a = b))) H) : rNeU K (.bl a) (.bl b) H Q := k_neS rfl (by rw [dec_bl]; exact q)
theorem k_eqD {x y : V} {d e : PyData} (hx : Dp K H x d) (hy : Dp K H y e) (q : Q (.bl (PyData.eqv d e)) H) (s1 : SeqAt.shaped d = true) (s2 : SeqAt.shaped e = true) : rEqU K x y H Q := .inr (.inl ⟨d, e, hx, hy, s1, s2, q⟩)
theorem k_eqNil {a b : Addr} {xs : List V} (hx : SqL K H a xs) (hb : H b = some (.lst [])) (q : Q (.bl xs.isEmpty) H) : rEqU K (.ref a) (.ref b) H Q := by
  cases xs with
  | nil => exact .inr (.inl ⟨.list [], .list [], .lst hx .nil, .lst (SqL.of hb) .nil, rfl, rfl, by simpa [PyData.eqv, PyData.eqvAll] using q⟩)
  | cons x r => exact .inr (.inr ⟨a, b, _, [], rfl, rfl, hx, SqL.of hb, by simp, q⟩)
theorem k_neD {x y : V} {d e : PyData} (hx : Dp K H x d) (hy : Dp K H y e) (q : Q (.bl (!PyData.eqv d e)) H) (s1 : SeqAt.shaped d = true) (s2 : SeqAt.shaped e = true) : rNeU K x y H Q := .inr (.inl ⟨d, e, hx, hy, s1, s2, q⟩)
theorem k_neNil {a b : Addr} {xs : List V} (hx : SqL K H a xs) (hb : H b = some (.lst [])) (q : Q (.bl (!xs.isEmpty)) H) : rNeU K (.ref a) (.ref b) H Q := by
  cases xs with
  | nil => exact .inr (.inl ⟨.list [], .list [], .lst hx .nil, .lst (SqL.of hb) .nil, rfl, rfl, by simpa [PyData.eqv, PyData.eqvAll] using q⟩)
  | cons x r => exact .inr (.inr ⟨a, b, _, [], rfl, rfl, hx, SqL.of hb, by simp, q⟩)
theorem k_in0 {x : V} {p : Addr} {xs : List V} {b : Bool} (h : SqL K H p xs ∨ SqT K H p xs) (hx : flatV x = true) (ha : xs.all flatV = true) (e : inV x xs = b) (q : Q (.bl b) H) : rIn K false x (.ref p) H Q := ⟨p, xs, rfl, h, hx, ha, by rw [e]; exact q⟩
theorem k_ni0 {x : V} {p : Addr} {xs : List V} {b : Bool} (h : SqL K H p xs ∨ SqT K H p xs) (hx : flatV x = true) (ha : xs.all flatV = true) (e : inV x xs = b) (q : Q (.bl (!b)) H) : rIn K true x (.ref p) H Q := ⟨p, xs, rfl, h, hx, ha, by rw [e]; exact q⟩
/-- True stands in no list of False -/
theorem k_notIn {p : Addr} {xs : List V} (h : SqL K H p xs) (ha : xs.all flatV = true) (e : inV (.bl true) xs = false) (q : Q (.bl true) H) : rIn K true (.bl true) (.ref p) H Q := k_ni0 (.inl h) rfl ha e q
/-- tests -/
theorem k_tst {Q : Bool → Hp → Prop} (q : te σ H fun x H' => ∃ k, x = .bl k ∧ Q k H') : tTest te σ H Q := q
theorem k_B {Q : Bool → Hp → Prop} (q : te σ H fun x H' => ∃ k, x = .bl k ∧ Q k H') : tB te σ H Q := q
theorem k_bl {Q : Bool → Prop} {b : Bool} (q : Q b) : ∃ k, V.bl b = .bl k ∧ Q k := ⟨b, rfl, q⟩
theorem k_and {Q : Bool → Hp → Prop} (q : tt σ H fun c H1 => if c = true then tu σ H1 Q else Q false H1) : tAnd tt tu σ H Q := q
theorem k_or {Q : Bool → Hp → Prop} (q : tt σ H fun c H1 => if c = true then Q true H1 else tu σ H1 Q) : tOr tt tu σ H Q := q
theorem k_not {Q : Bool → Hp → Prop} (q : tt σ H fun c H1 => Q (!c) H1) : tNot tt σ H Q := q
theorem k_andV (q : ta σ H fun x H1 => ∃ c, x = .bl c ∧ if c = true then tb σ H1 Q else Q (.bl false) H1) : tAndV ta tb σ H Q := q
theorem k_orV (q : ta σ H fun x H1 => ∃ c, x = .bl c ∧ if c = true then Q (.bl true) H1 else tb σ H1 Q) : tOrV ta tb σ H Q := q
theorem k_notV (q : ta σ H fun x H1 => ∃ c, x = .bl c ∧ Q (.bl (!c)) H1) : tNotV ta σ H Q := q
theorem k_ife (q : tt σ H fun c H1 => if c = true then ta σ H1 Q else tb σ H1 Q) : tIf tt ta tb σ H Q := q
theorem k_chain {r r' : R2} (q : ta σ H fun x H1 => tb σ H1 fun y H2 => r x y H2 fun z H3 => ∃ k, z = .bl k ∧ (if k = true then tc σ H3 fun w' H4 => r' y w' H4 Q else Q (.bl false) H3)) : tChain r r' ta tb tc σ H Q := q
theorem k_tru {Q : Bool → Hp → Prop} {x : V} {b : Bool} (h : TruV K x H b) (q : Q b H) : ∃ k, TruV K x H k ∧ Q k H := ⟨b, h, q⟩
/-- a branch -/
theorem k_if {c : Prop} [Decidable c] {A B : Prop} (h1 : c → A) (h2 : ¬ c → B) : if decide c = true then A else B := by
  by_cases h : c
  · rw [if_pos (decide_eq_true h)]
    exact h1 h
  · rw [if_neg (by rw [decide_eq_false h]; decide)]
    exact h2 h
theorem k_ifn {c : Prop} [Decidable c] {A B : Prop} (h1 : ¬ c → A) (h2 : c → B) : if (!decide c) = true then A else B := by
  by_cases h : c
  · rw [if_neg (by rw [decide_eq_true h]; decide)]
    exact h2 h
  · rw [if_pos (by rw [decide_eq_false h]; decide)]
    exact h1 h
theorem k_ifb {b : Bool} {A B : Prop} (h1 : b = true → A) (h2 : b = false → B) : if b = true then A else B := by
  cases b with
  | true => exact h1 rfl
  | false => exact h2 rfl
theorem k_ifnb {b : Bool} {A B : Prop} (h1 : b = false → A) (h2 : b = true → B) : if (!b) = true then A else B := by
  cases b with
  | true => exact h2 rfl
  | false => exact h1 rfl
theorem k_ifnd {c : Prop} [Decidable c] {A B : Prop} (h1 : ¬ c → A) (h2 : c → B) : if (!decide c) = true then A else B := k_ifn h1 h2
theorem k_ifT {A B : Prop} (h : A) : if true = true then A else B := iteT h
theorem k_ifF {A B : Prop} (h : B) : if false = true then A else B := iteF h
theorem k_ifnT {A B : Prop} (h : B) : if (!true) = true then A else B := iteF h
theorem k_ifnF {A B : Prop} (h : A) : if (!false) = true then A else B := iteT h
/-- calls, arguments, displays -/
theorem k_cb {r : List V → Hp → VK → Prop} {t : TA} (q : t σ H fun vs H1 => r vs H1 Q) : tCB r t σ H Q := q
theorem k_cons {t : TA} {Q : List V → Hp → Prop} (q : ta σ H fun x H1 => t σ H1 fun xs H2 => Q (x :: xs) H2) : tCons ta t σ H Q := q
theorem k_nil {Q : List V → Hp → Prop} (q : Q [] H) : tNil σ H Q := q
theorem k_callS {sp : Sp} {W : WX} {t : TA} (q : t σ H fun vs H1 => sp vs H1 Q (WE W σ)) : tCallS sp (WE W) t σ H Q := q
theorem k_call {sp : Sp} {t : TA} {E : XK} (q : t σ H fun vs H1 => sp vs H1 Q E) : tCall sp [] E t σ H Q := by
  show t σ H fun vs H1 => sp (vs ++ []) H1 Q E
  simp only [List.append_nil]
  exact q
def rTupX (xs : List V) (H : Hp) (Q : VK) : Prop := xs.length ≤ sizeLine ∧ ∀ p, H p = none → Q (.ref p) (upd H p (.tup xs))
def rLstX (xs : List V) (H : Hp) (Q : VK) : Prop := xs.length ≤ sizeLine ∧ ∀ p, H p = none → Q (.ref p) (upd H p (.lst xs))
theorem k_tupx {xs : List V} (q : ∀ p H2, H p = none → Same H H2 → H2 p = some (.tup xs) → Q (.ref p) H2) (c : xs.length ≤ sizeLine) : rTupX xs H Q := ⟨c, fun p hp => q p _ hp (same_new hp) upd_same⟩
theorem k_lstx {xs : List V} (q : ∀ p H2, H p = none → Same H H2 → H2 p = some (.lst xs) → Q (.ref p) H2) (c : xs.length ≤ sizeLine) : rLstX xs H Q := ⟨c, fun p hp => q p _ hp (same_new hp) upd_same⟩
theorem k_tup0 {t : TA} (q : t σ H fun xs H1 => rTupX xs H1 Q) : tTup t σ H Q := q
theorem k_lst0 {t : TA} (q : t σ H fun xs H1 => rLstX xs H1 Q) : tLst t σ H Q := q
/-- subscripts -/
theorem k_ixL {p : Addr} {xs : List V} {i : Int} (h : SqL K H p xs) (ha : atI xs i = some v) (q : Q v H) : rIx K (.ref p) (.int i) H Q := .inl ⟨p, xs, i, v, rfl, rfl, h, ha, q⟩
theorem k_ixT {p : Addr} {xs : List V} {i : Int} (h : SqT K H p xs) (ha : atI xs i = some v) (q : Q v H) : rIx K (.ref p) (.int i) H Q := .inr (.inl ⟨p, xs, i, v, rfl, rfl, h, ha, q⟩)
/-! statements -/
variable {D : Ends} {t u : TS} {g : TG}
theorem k_seq (q : t { D with nx := u D } σ H) : tSeq t u D σ H := q
theorem k_asg  (q : te σ H fun x H1 => g x σ H1 D.nx) : tAsg te g D σ H := q
theorem k_gn {Q : L2.St → Hp → Prop} (q : Q (σ.set i (some v)) H) : gName i v σ H Q := q
theorem k_gtup {a : Addr} {xs : List V} {n : Nat} {t : TGs} {Q : L2.St → Hp → Prop} (h : SqT K H a xs) (hl : xs.length = n) (q : t xs σ H Q) : gTup K n t (.ref a) σ H Q := ⟨a, xs, rfl, h, hl, q⟩
theorem k_gcons {t : TG} {u : TGs} {r : List V} {Q : L2.St → Hp → Prop} (q : t v σ H fun σ' H' => u r σ' H' Q) : gCons t u (v :: r) σ H Q := ⟨v, r, rfl, q⟩
theorem k_gnil {Q : L2.St → Hp → Prop} (q : Q σ H) : gNil [] σ H Q := ⟨rfl, q⟩
theorem k_drop (q : te σ H fun _ H1 => D.nx σ H1) : tDrop te D σ H := q
theorem k_ret (q : te σ H D.rt) : tRet te D σ H := q
theorem k_ifs (q : tt σ H fun c H1 => if c = true then t D σ H1 else u D σ H1) : tIfS tt t u D σ H := q
theorem k_next (q : D.nx σ H) : tNext D σ H := q
theorem k_par {ta : TA} (q : ta σ H fun vs H1 => ∃ v w, vs = [v, w] ∧ D.nx ((σ.set i (some v)).set j (some w)) H1) : tPar i j ta D σ H := q
theorem k_two {v w : V} {P : V → V → Prop} (q : P v w) : ∃ a b, [v, w] = [a, b] ∧ P a b := ⟨v, w, rfl, q⟩
theorem k_app {l : Addr} {xs : List V} {y : V} (h : H l = some (.lst xs)) (q : ∀ H', But l H H' → H' l = some (.lst (xs ++ [y])) → Q .non H') (c : xs.length < sizeLine) : tyV K "list" (.ref l) H ∧ rAppend (.ref l) [y] H Q :=
  ⟨.inl ⟨rfl, _, SqL.of h⟩, l, xs, y, rfl, rfl, h, c, q _ But.upd upd_same⟩
end
/-! ### the same, the written part by its name -/
section
variable {X : Cx} {K : PySem.W.Frag}
theorem op_addK (h : X.K = K) : OpR X (binaryOp .Add) (rAddU K) := h ▸ op_addU
theorem op_mulK (h : X.K = K) : OpR X (binaryOp .Mult) (rMulU K) := h ▸ op_mulU
theorem op_eqK {k : Nat} (h : X.K = K) (hr : Room k X.A) : OpR X (compareOp .Eq) (rEqU K) := h ▸ op_eqU hr
theorem op_neK {k : Nat} (h : X.K = K) (hr : Room k X.A) : OpR X (compareOp .NotEq) (rNeU K) := h ▸ op_neU hr
theorem op_inK (h : X.K = K) : OpR X (compareOp .In) (rIn K false) := h ▸ op_in_seq
theorem op_niK (h : X.K = K) : OpR X (compareOp .NotIn) (rIn K true) := h ▸ op_notIn_seq
def rSlU (K : PySem.W.Frag) : V → Option Int → Option Int → Hp → VK → Prop := fun x lo hi H Q => rSlL K x lo hi H Q ∨ rSlS x lo hi H Q ∨ rSlA K x lo hi H Q
theorem sl_U {X : Cx} : SlR X (rSlU X.K) := sl_list.or (sl_str.or sl_tupA)
theorem sl_K (h : X.K = K) : SlR X (rSlU K) := h ▸ sl_U
theorem ix_K (h : X.K = K) : IxR X (rIx K) := h ▸ ix_seq
end
section
variable {σ : L2.St} {H : Hp} {Q : VK} {te : TE} {K : PySem.W.Frag}
/-! slices, an empty dict -/
theorem k_sl {r : V → Option Int → Option Int → Hp → VK → Prop} {tl th : TO} (q : te σ H fun x H1 => tl σ H1 fun lo H2 => th σ H2 fun hi H3 => r x lo hi H3 Q) : tSl r te tl th σ H Q := q
theorem k_part {Q : Option Int → Hp → Prop} (q : te σ H fun x H1 => ∃ i, x = .int i ∧ Q (some i) H1) : tPart te σ H Q := q
theorem k_noPart {Q : Option Int → Hp → Prop} (q : Q none H) : tNoPart σ H Q := q
theorem k_int {a : Int} {Q : Int → Prop} (q : Q a) : ∃ i, V.int a = .int i ∧ Q i := ⟨a, rfl, q⟩
theorem k_slL {a : Addr} {xs : List V} {lo hi : Option Int} (h : SqL K H a xs) (q : ∀ p H2, H p = none → Same H H2 → H2 p = some (.lst (cutV xs lo hi)) → Q (.ref p) H2) : rSlU K (.ref a) lo hi H Q := .inl ⟨a, xs, rfl, h, fun p hp => q p _ hp (same_new hp) upd_same⟩
theorem k_slS {z : Str} {lo hi : Option Int} (q : Q (.str (cutS z lo hi)) H) (c : z.length ≤ sizeLine) : rSlU K (.str z) lo hi H Q := .inr (.inl ⟨z, rfl, c, q⟩)
theorem k_slT {a : Addr} {xs : List V} {lo hi : Option Int} (h : SqT K H a xs) (c : ¬ (HT.sIx xs.length 0 lo = 0 ∧ HT.sIx xs.length xs.length hi = xs.length)) (q : ∀ p H2, H p = none → Same H H2 → H2 p = some (.tup (cutV xs lo hi)) → Q (.ref p) H2) : rSlU K (.ref a) lo hi H Q :=
  .inr (.inr ⟨a, xs, rfl, h, fun z => absurd z c, fun _ p hp => q p _ hp (same_new hp) upd_same⟩)
def rDictX (H : Hp) (Q : VK) : Prop := ∀ p, H p = none → Q (.ref p) (upd H p (.dK []))
theorem k_dict0 (q : rDictX H Q) : tDNewK σ H Q := q
theorem k_dict1 (q : ∀ p H2, H p = none → Same H H2 → H2 p = some (.dK []) → Q (.ref p) H2) : rDictX H Q := fun p hp => q p _ hp (same_new hp) upd_same
end
/-! ### built-ins by name -/
section
variable {X : Cx}
def rLenU (K : PySem.W.Frag) : List V → Hp → VK → Prop := fun xs H Q => ∃ x n, xs = [x] ∧ LenV K x H n ∧ Q (.int n) H
theorem call_lenU : CallR X (.builtin "len") (rLenU X.K) := call_len
def rAbsU : List V → Hp → VK → Prop := fun xs H Q => ∃ i, xs = [.int i] ∧ Q (.int (if i < 0 then -i else i)) H
theorem call_absU : CallR X (.builtin "abs") rAbsU := call_abs
def rMaxU : List V → Hp → VK → Prop := fun xs H Q => ∃ i j, xs = [.int i, .int j] ∧ Q (.int (if j > i then j else i)) H
theorem call_maxU (hc : X.calm = true) : CallR X (.builtin "max") rMaxU := call_max2 hc
def rMinU : List V → Hp → VK → Prop := fun xs H Q => ∃ i j, xs = [.int i, .int j] ∧ Q (.int (if j < i then j else i)) H
theorem call_minU (hc : X.calm = true) : CallR X (.builtin "min") rMinU := call_min2 hc
def rIntU : List V → Hp → VK → Prop := fun xs H Q => ((∃ i, xs = [.int i] ∧ Q (.int i) H) ∨ ∃ k, xs = [.bl k] ∧ Q (.int (if k then 1 else 0)) H) ∨ ∃ a n, xs = [.str a] ∧ PySem.intText? a = some n ∧ a.length ≤ 640 ∧ Q (.int n) H
theorem call_intU : CallR X (.type "int") rIntU := fun pins s σ H xs us Q I r h => h.elim (call_int1 pins s σ H xs us Q I r) (call_int_str pins s σ H xs us Q I r)
def rBoolU : List V → Hp → VK → Prop := fun xs H Q => (∃ i, xs = [.int i] ∧ Q (.bl (i != 0)) H) ∨ ∃ k, xs = [.bl k] ∧ Q (.bl k) H
theorem call_boolU : CallR X (.type "bool") rBoolU := call_bool1
def rStrU : List V → Hp → VK → Prop := fun xs H Q => ∃ i, xs = [.int i] ∧ i.natAbs.log2 < 1920 ∧ Q (.str (toString i)) H
theorem call_strU : CallR X (.type "str") rStrU := call_str_int
def rTupU (K : PySem.W.Frag) : List V → Hp → VK → Prop := fun xs H Q => ∃ p ys, xs = [.ref p] ∧ ((SqL K H p ys ∧ ∀ l, H l = none → Q (.ref l) (upd H l (.tup ys))) ∨ (SqT K H p ys ∧ Q (.ref p) H))
theorem call_tupU : CallR X (.type "tuple") (rTupU X.K) := call_tuple_of
def rLstU (K : PySem.W.Frag) : List V → Hp → VK → Prop := fun xs H Q => ∃ p ys, xs = [.ref p] ∧ (SqL K H p ys ∨ SqT K H p ys) ∧ ∀ l, H l = none → Q (.ref l) (upd H l (.lst ys))
theorem call_lstU : CallR X (.type "list") (rLstU X.K) := call_list_of
def rIsN : R2 := fun x y H Q => y = .non ∧ Q (.bl (decide (x = .non))) H
def rNotN : R2 := fun x y H Q => y = .non ∧ Q (.bl (!decide (x = .non))) H
theorem op_isNU : OpR X (compareOp .Is) rIsN := op_isN
theorem op_notNU : OpR X (compareOp .IsNot) rNotN := op_notN
end
section
variable {σ : L2.St} {H : Hp} {Q : VK} {K : PySem.W.Frag}
theorem k_lenL {p : Addr} {xs : List V} (q : Q (.int xs.length) H) (h : SqL K H p xs) : rLenU K [.ref p] H Q := ⟨.ref p, xs.length, rfl, .inl ⟨xs, h, rfl⟩, q⟩
theorem k_lenT {p : Addr} {xs : List V} (q : Q (.int xs.length) H) (h : SqT K H p xs) : rLenU K [.ref p] H Q := ⟨.ref p, xs.length, rfl, .inr ⟨xs, h, rfl⟩, q⟩
theorem k_lenS {x : Str} (q : Q (.int x.length) H) (h : x.length ≤ sizeLine) : rLenU K [.str x] H Q := ⟨.str x, x.length, rfl, ⟨h, rfl⟩, q⟩
theorem k_abs {a : Int} (q : Q (.int (a.natAbs : Int)) H) : rAbsU [.int a] H Q := ⟨a, rfl, by
  have e : (if a < 0 then -a else a) = (a.natAbs : Int) := by split <;> omega
  rw [e]
  exact q⟩
theorem k_max {a b : Int} (q : Q (.int (max a b)) H) : rMaxU [.int a, .int b] H Q := ⟨a, b, rfl, by
  have e : (if b > a then b else a) = max a b := by split <;> omega
  rw [e]
  exact q⟩
theorem k_min {a b : Int} (q : Q (.int (min a b)) H) : rMinU [.int a, .int b] H Q := ⟨a, b, rfl, by
  have e : (if b < a then b else a) = min a b := by split <;> omega
  rw [e]
  exact q⟩
theorem k_intI {a : Int} (q : Q (.int a) H) : rIntU [.int a] H Q := .inl (.inl ⟨a, rfl, q⟩)
theorem k_intB {b : Bool} (q : Q (.int (if b then 1 else 0)) H) : rIntU [.bl b] H Q := .inl (.inr ⟨b, rfl, q⟩)
theorem k_intS {a : Str} {n : Int} (h : PySem.intText? a = some n) (c : a.length ≤ 640) (q : Q (.int n) H) : rIntU [.str a] H Q := .inr ⟨a, n, rfl, h, c, q⟩
theorem k_boolI {a : Int} (q : Q (.bl (a != 0)) H) : rBoolU [.int a] H Q := .inl ⟨a, rfl, q⟩
theorem k_boolB {b : Bool} (q : Q (.bl b) H) : rBoolU [.bl b] H Q := .inr ⟨b, rfl, q⟩
theorem k_strI {a : Int} (q : Q (.str (toString a)) H) (c : a.natAbs.log2 < 1920) : rStrU [.int a] H Q := ⟨a, rfl, c, q⟩
theorem k_lstL {p : Addr} {xs : List V} (h : SqL K H p xs) (q : ∀ l H', H l = none → Same H H' → H' l = some (.lst xs) → Q (.ref l) H') : rLstU K [.ref p] H Q := ⟨p, xs, rfl, .inl h, fun l hl => q l _ hl (same_new hl) upd_same⟩
theorem k_lstT {p : Addr} {xs : List V} (h : SqT K H p xs) (q : ∀ l H', H l = none → Same H H' → H' l = some (.lst xs) → Q (.ref l) H') : rLstU K [.ref p] H Q := ⟨p, xs, rfl, .inr h, fun l hl => q l _ hl (same_new hl) upd_same⟩
theorem k_isN {x : V} (q : Q (.bl (decide (x = .non))) H) : rIsN x .non H Q := ⟨rfl, q⟩
theorem k_notN {x : V} (q : Q (.bl (!decide (x = .non))) H) : rNotN x .non H Q := ⟨rfl, q⟩
theorem k_powc {a b c : Int} (e : a ^ b.toNat = c) (hc : CPow a b) (q : Q (.int c) H) : rI CPow (fun i j => .int (i ^ j.toNat)) (.int a) (.int b) H Q := ⟨a, b, rfl, rfl, hc, by show Q (.int (a ^ b.toNat)) H; rw [e]; exact q⟩
theorem cpow {a b : Int} (h : 0 ≤ b) (h1 : b ≤ 1000000) (h2 : a.natAbs < 2 ^ 64) : CPow a b := ⟨h, h1, h2⟩
theorem k_mod {a b : Int} (hb : 0 < b) (q : Q (.int (a % b)) H) : rI (fun _ j => j ≠ 0) (fun i j => .int (i.fmod j)) (.int a) (.int b) H Q := ⟨a, b, rfl, rfl, by omega, by show Q (.int (a.fmod b)) H; rw [Int.fmod_eq_emod_of_nonneg a (by omega)]; exact q⟩
theorem k_log {b : Int} (h : b.natAbs < 2 ^ 64) : b.natAbs.log2 < 9000 := Nat.lt_of_lt_of_le (PySem.Flt.log2_lt_of (by decide) h) (by decide)
theorem k_div {a b : Int} (hb : 0 < b) (hl : b.natAbs.log2 < 9000) (q : Q (.int (a / b)) H) : rI CDivG (fun i j => .int (i.fdiv j)) (.int a) (.int b) H Q := ⟨a, b, rfl, rfl, ⟨by omega, PyProof.noPylong_of_log2 hl⟩, by show Q (.int (a.fdiv b)) H; rw [Int.fdiv_eq_ediv_of_nonneg a (by omega)]; exact q⟩
theorem k_mulB {a b : Int} {m n : Nat} (ha : a.natAbs < 2 ^ m) (hb : b.natAbs < 2 ^ n) (h : m + n ≤ 134217728) (q : Q (.int (a * b)) H) : rMulU K (.int a) (.int b) H Q := k_mulI q (mulx_ok ha hb h)
theorem k_pop {l : Addr} {xs : List V} {y : V} (h : H l = some (.lst (xs ++ [y]))) (q : ∀ H', But l H H' → H' l = some (.lst xs) → Q y H') : tyV K "list" (.ref l) H ∧ rPop (.ref l) [] H Q :=
  ⟨.inl ⟨rfl, _, SqL.of h⟩, l, _, y, rfl, rfl, h, by simp, q _ But.upd (by rw [List.dropLast_concat]; exact upd_same)⟩
theorem k_bm0 {T : String} {r : V → List V → Hp → VK → Prop} {te : TE} (q : te σ H fun x H1 => tyV K T x H1 ∧ r x [] H1 Q) : tBM0 K T r te σ H Q := q
theorem k_bm {T : String} {r : V → List V → Hp → VK → Prop} {te : TE} {t : TA} (q : te σ H fun x H1 => tyV K T x H1 ∧ t σ H1 fun xs H2 => r x xs H2 Q) : tBM K T r te t σ H Q := q
theorem k_app0 {l : Addr} {xs : List V} (h : H l = some (.lst xs)) : tyV K "list" (.ref l) H := .inl ⟨rfl, _, SqL.of h⟩
theorem k_app1 {l : Addr} {xs : List V} {y : V} (h : H l = some (.lst xs)) (c : xs.length < sizeLine) (q : ∀ H', But l H H' → H' l = some (.lst (xs ++ [y])) → Q .non H') : rAppend (.ref l) [y] H Q := ⟨l, xs, y, rfl, rfl, h, c, q _ But.upd upd_same⟩
def rRevX (K : PySem.W.Frag) (x : V) (H : Hp) (Q : VK) : Prop := ∃ a xs, x = .ref a ∧ SqL K H a xs ∧ ∀ p, H p = none → Q (.ref p) (upd H p (.lst xs.reverse))
theorem k_rev {te : TE} (q : te σ H fun x H1 => rRevX K x H1 Q) : tRevL K te σ H Q := q
theorem k_rev1 {p : Addr} {xs : List V} (h : SqL K H p xs) (q : ∀ l H', H l = none → Same H H' → H' l = some (.lst xs.reverse) → Q (.ref l) H') : rRevX K (.ref p) H Q := ⟨p, xs, rfl, h, fun l hl => q l _ hl (same_new hl) upd_same⟩
/-- isinstance -/
theorem k_isi {x c : V} {t u : Value} {b : Bool} (hc : ClsV c u) (ht : TyX K H x t) (hk : PySem.W.kitOne K t u = some b) (q : Q (.bl b) H) : rIsi K [x, c] H Q := ⟨x, c, t, u, b, rfl, hc, ht, hk, q⟩
theorem k_cut {t u : TS} {D : Ends} (M : L2.St → Hp → Prop) (h : t { D with nx := M } σ H) (k : ∀ σ' H', M σ' H' → u D σ' H') : C8.tCut t u D σ H := ⟨M, h, k⟩
theorem k_cut0 {t u : TS} {D : Ends} (h : t { D with nx := u D } σ H) : C8.tCut t u D σ H := ⟨_, h, fun _ _ q => q⟩
/-! loops -/
variable {D : Ends} {g : TG} {tb : TS} {j : Nat} {wi : TI}
def LoopI (J : It) (g : TG) (tb : TS) (D : Ends) (σ : L2.St) (H : Hp) : Prop := ∃ W : Nat → Nat → L2.St → Hp → Prop, (∃ m, W 0 m σ H) ∧ ∀ i m σ H, W i m σ H →
  (J.stop i H ∧ D.nx σ H) ∨ (J.go i H ∧ ∃ N : L2.St → Hp → Prop, (∀ σ' H', N σ' H' → ∃ m', m' < m ∧ W (i + 1) m' σ' H') ∧ ∀ x H', J.yld i H x H' → g x σ H' fun σ2 H2 => tb { D with nx := N, ct := N, bk := D.nx } σ2 H2)
theorem k_for (q : wi σ H fun J H1 => LoopI J g tb D σ H1) : tFor wi g tb D σ H := q
def rRng1 (vs : List V) (H : Hp) (R : It → Hp → Prop) : Prop := ∃ j : Int, vs = [.int j] ∧ -(2 ^ 62) ≤ j ∧ j < 2 ^ 62 ∧ R (Itr 0 j.toNat) H
def rRng2 (vs : List V) (H : Hp) (R : It → Hp → Prop) : Prop := ∃ i j : Int, vs = [.int i, .int j] ∧ (-(2 ^ 62) ≤ i ∧ i < 2 ^ 62 ∧ -(2 ^ 62) ≤ j ∧ j < 2 ^ 62) ∧ R (Itr i (j - i).toNat) H
def rItL (K : PySem.W.Frag) (x : V) (H : Hp) (R : It → Hp → Prop) : Prop := ∃ a, x = .ref a ∧ (∃ xs, SqL K H a xs) ∧ R (Itl K a) H
def rItT (K : PySem.W.Frag) (x : V) (H : Hp) (R : It → Hp → Prop) : Prop := ∃ a, x = .ref a ∧ (∃ xs, SqT K H a xs) ∧ R (Itt K a) H
theorem k_iRng1 {ta : TA} {R : It → Hp → Prop} (q : ta σ H fun vs H1 => rRng1 vs H1 R) : iRng1 ta σ H R := q
theorem k_iRng2 {ta : TA} {R : It → Hp → Prop} (q : ta σ H fun vs H1 => rRng2 vs H1 R) : iRng2 ta σ H R := q
theorem k_iList {tl : TE} {R : It → Hp → Prop} (q : tl σ H fun x H1 => rItL K x H1 R) : iList K tl σ H R := q
theorem k_iSeqU {tl : TE} {R : It → Hp → Prop} (q : tl σ H fun x H1 => rItU K x H1 R) : iSeqU K tl σ H R := q
theorem k_itUL {a : Addr} {xs : List V} {R : It → Hp → Prop} (h : SqL K H a xs) (q : R (Itl K a) H) : rItU K (.ref a) H R := ⟨a, rfl, .inl ⟨⟨xs, h⟩, q⟩⟩
theorem k_itUT {a : Addr} {xs : List V} {R : It → Hp → Prop} (h : SqT K H a xs) (q : R (Itt K a) H) : rItU K (.ref a) H R := ⟨a, rfl, .inr ⟨⟨xs, h⟩, q⟩⟩
theorem k_iTup {tl : TE} {R : It → Hp → Prop} (q : tl σ H fun x H1 => rItT K x H1 R) : iTup K tl σ H R := q
theorem k_rng1 {n : Int} {R : It → Hp → Prop} (c : -(2 ^ 62) ≤ n ∧ n < 2 ^ 62) (q : R (Itr 0 n.toNat) H) : rRng1 [.int n] H R := ⟨n, rfl, c.1, c.2, q⟩
theorem k_rng2 {m n : Int} {R : It → Hp → Prop} (c : -(2 ^ 62) ≤ m ∧ m < 2 ^ 62 ∧ -(2 ^ 62) ≤ n ∧ n < 2 ^ 62) (q : R (Itr m (n - m).toNat) H) : rRng2 [.int m, .int n] H R := ⟨m, n, rfl, c, q⟩
theorem k_itL {a : Addr} {xs : List V} {R : It → Hp → Prop} (h : SqL K H a xs) (q : R (Itl K a) H) : rItL K (.ref a) H R := ⟨a, rfl, ⟨xs, h⟩, q⟩
theorem k_itT {a : Addr} {xs : List V} {R : It → Hp → Prop} (h : SqT K H a xs) (q : R (Itt K a) H) : rItT K (.ref a) H R := ⟨a, rfl, ⟨xs, h⟩, q⟩
/-- for x in range(..) -/
theorem k_loopR {n : Nat} (P : Nat → L2.St → Hp → Prop) (h0 : P 0 σ H) (hs : ∀ (i : Nat) σ H, i < n → P i σ H → tb { D with nx := P (i + 1), ct := P (i + 1), bk := D.nx } (σ.set j (some (.int (i : Int)))) H)
    (hd : ∀ σ H, P n σ H → D.nx σ H) : LoopI (Itr 0 n) (gName j) tb D σ H := for_range P h0 (fun i σ H hi p => by
      show tb _ (σ.set j (some (.int (0 + (i : Int))))) H
      rw [Int.zero_add]
      exact hs i σ H hi p) hd
theorem k_loopR2 {lo : Int} {n : Nat} (P : Nat → L2.St → Hp → Prop) (h0 : P 0 σ H) (hs : ∀ (i : Nat) σ H, i < n → P i σ H → tb { D with nx := P (i + 1), ct := P (i + 1), bk := D.nx } (σ.set j (some (.int (lo + (i : Int))))) H)
    (hd : ∀ σ H, P n σ H → D.nx σ H) : LoopI (Itr lo n) (gName j) tb D σ H := for_range P h0 hs hd
theorem k_loopL {a : Addr} {xs : List V} (P : Nat → L2.St → Hp → Prop) (h0 : P 0 σ H) (hl : ∀ i σ H, i ≤ xs.length → P i σ H → SqL K H a xs)
    (hs : ∀ (i : Nat) x σ H, xs[i]? = some x → P i σ H → g x σ H fun σ2 H2 => tb { D with nx := P (i + 1), ct := P (i + 1), bk := D.nx } σ2 H2) (hd : ∀ σ H, P xs.length σ H → D.nx σ H) : LoopI (Itl K a) g tb D σ H := for_list P h0 hl hs hd
theorem k_loopT {a : Addr} {xs : List V} (P : Nat → L2.St → Hp → Prop) (h0 : P 0 σ H) (hl : ∀ i σ H, i ≤ xs.length → P i σ H → SqT K H a xs)
    (hs : ∀ (i : Nat) x σ H, xs[i]? = some x → P i σ H → g x σ H fun σ2 H2 => tb { D with nx := P (i + 1), ct := P (i + 1), bk := D.nx } σ2 H2) (hd : ∀ σ H, P xs.length σ H → D.nx σ H) : LoopI (Itt K a) g tb D σ H := for_tup P h0 hl hs hd
theorem k_loopU {a : Addr} {xs : List V} (hS : SqL K H a xs ∨ SqT K H a xs) (P : Nat → L2.St → Hp → Prop) (h0 : P 0 σ H) (hl : ∀ i σ' H', P i σ' H' → Same H H')
    (hs : ∀ (i : Nat) x σ H, xs[i]? = some x → P i σ H → g x σ H fun σ2 H2 => tb { D with nx := P (i + 1), ct := P (i + 1), bk := D.nx } σ2 H2) (hd : ∀ σ H, P xs.length σ H → D.nx σ H) : rItU K (.ref a) H fun J H1 => LoopI J g tb D σ H1 := by
  rcases hS with hS | hS
  · exact k_itUL hS (k_loopL P h0 (fun i σ' H' _ p => seqL_same (hl i σ' H' p) hS) hs hd)
  · exact k_itUT hS (k_loopT P h0 (fun i σ' H' _ p => seqT_same (hl i σ' H' p) hS) hs hd)
/-- while: P with a number that falls -/
def Less (P : Nat → L2.St → Hp → Prop) (m : Nat) : L2.St → Hp → Prop := fun σ H => ∃ m', m' < m ∧ P m' σ H
theorem k_while {tc : TT} (P : Nat → L2.St → Hp → Prop) (m : Nat) (h0 : P m σ H)
    (hs : ∀ m σ H, P m σ H → tc σ H fun b H1 => if b = true then ∃ N : L2.St → Hp → Prop, (∀ σ' H', N σ' H' → ∃ m', m' < m ∧ P m' σ' H') ∧ tb { D with nx := N, ct := N, bk := D.nx } σ H1 else D.nx σ H1) : tWhile tc tb D σ H := ⟨P, ⟨m, h0⟩, hs⟩
theorem k_wN {P : Nat → L2.St → Hp → Prop} {m : Nat} (q : tb { D with nx := Less P m, ct := Less P m, bk := D.nx } σ H) : ∃ N : L2.St → Hp → Prop, (∀ σ' H', N σ' H' → ∃ m', m' < m ∧ P m' σ' H') ∧ tb { D with nx := N, ct := N, bk := D.nx } σ H := ⟨_, fun _ _ h => h, q⟩
end
/-! more steps -/
section
variable {σ : L2.St} {H : Hp} {Q : VK} {v : V} {te to ti : TE} {K : PySem.W.Frag} {D : Ends} {i : Nat}
theorem k_aug {ip : TIp} (h : σ[i]? = some (some v)) (q : te σ H fun y H1 => ip v y H1 fun z H2 => D.nx (σ.set i (some z)) H2) : tAug i te ip D σ H := ⟨v, h, q⟩
theorem k_ip {f : Int → Int → Int} {a b : Int} (q : Q (.int (f a b)) H) : ipI f (.int a) (.int b) H Q := ⟨a, b, rfl, rfl, q⟩
theorem k_gsub {t : TSet} {Q : L2.St → Hp → Prop} (q : to σ H fun o H1 => ti σ H1 fun i H2 => t o i v H2 fun H3 => Q σ H3) : gSub to ti t v σ H Q := q
theorem k_setL {p : Addr} {xs : List V} {k : Int} {j : Nat} {Q : Hp → Prop} (h : H p = some (.lst xs)) (hj : ixN xs.length k = some j) (q : ∀ H', But p H H' → H' p = some (.lst (xs.set j v)) → Q H') : rSetL (.ref p) (.int k) v H Q := ⟨p, xs, k, j, rfl, rfl, h, hj, q _ But.upd upd_same⟩
theorem ixN_nat {n j : Nat} (h : j < n) : ixN n (j : Int) = some j := by
  unfold ixN
  rw [if_pos (by omega), if_pos (by omega)]
  rfl
theorem k_m1 {r : V → List V → Hp → VK → Prop} (q : to σ H fun x H1 => (∃ a, x = .str a) ∧ te σ H1 fun y H2 => r x [y] H2 Q) : tM1 r to te σ H Q := q
theorem k_m0 {r : V → List V → Hp → VK → Prop} (q : to σ H fun x H1 => (∃ a, x = .str a) ∧ r x [] H1 Q) : tM0 r to σ H Q := q
theorem k_isS {a : Str} {B : Prop} (q : B) : (∃ b, V.str a = .str b) ∧ B := ⟨⟨a, rfl⟩, q⟩
def rJoinU (K : PySem.W.Frag) : V → List V → Hp → VK → Prop := fun x xs H Q => ∃ a p, ∃ ys : List Str, x = .str a ∧ xs = [.ref p] ∧ (SqL K H p (ys.map V.str) ∨ SqT K H p (ys.map V.str)) ∧ (ys.map (·.length)).sum + ys.length * a.length ≤ 16777216 ∧ Q (.str (Txt.join a ys)) H
theorem mt_joinK {X : Cx} (h : X.K = K) : MtR X "str.join" (rJoinU K) := h ▸ mt_join
theorem k_join {a : Str} {p : Addr} {ys : List Str} (h : SqL K H p (ys.map V.str) ∨ SqT K H p (ys.map V.str)) (c : (ys.map (·.length)).sum + ys.length * a.length ≤ 16777216) (q : Q (.str (Txt.join a ys)) H) : rJoinU K (.str a) [.ref p] H Q := ⟨a, p, ys, rfl, rfl, h, c, q⟩
theorem k_ixS {z : Str} {i : Int} {c : Nat} (hz : z.length ≤ sizeLine) (h : atI z.cps.toList i = some c) (q : Q (.str ⟨#[c]⟩) H) : rIx K (.str z) (.int i) H Q := .inr (.inr ⟨z, i, c, rfl, rfl, hz, h, q⟩)
theorem k_sum {a : Addr} {ns : List Int} (h : SqL K H a (ns.map V.int)) (q : Q (.int ns.sum) H) : rSum K [.ref a] H Q := ⟨a, ns, rfl, h, q⟩
end
/-- in, not in: of flat things, of data, of a text in a text -/
def rInU (K : PySem.W.Frag) : R2 := fun x y H Q => rIn K false x y H Q ∨ rInD K x y H Q ∨ (∃ i j, x = .str i ∧ y = .str j ∧ Q (.bl (!(Builtin.Str.occurrences j i 0 j.length 1).isEmpty)) H)
def rNiU (K : PySem.W.Frag) : R2 := fun x y H Q => rIn K true x y H Q ∨ rNotInD K x y H Q ∨ (∃ i j, x = .str i ∧ y = .str j ∧ Q (.bl (!(!(Builtin.Str.occurrences j i 0 j.length 1).isEmpty))) H)
theorem Room.un65 {k : Nat} {A : Around} (r : Room k A) : A.units + 65 < cLine := by have := r.un; omega
theorem op_inUK {X : Cx} {K : PySem.W.Frag} {k : Nat} (h : X.K = K) (hr : Room k X.A) : OpR X (compareOp .In) (rInU K) := h ▸ op_in_seq.or ((op_inD (Room.un65 hr)).or op_in_str)
theorem op_niUK {X : Cx} {K : PySem.W.Frag} {k : Nat} (h : X.K = K) (hr : Room k X.A) : OpR X (compareOp .NotIn) (rNiU K) := h ▸ op_notIn_seq.or ((op_notInD (Room.un65 hr)).or op_notIn_str)
section
variable {H : Hp} {Q : VK} {K : PySem.W.Frag}
theorem k_in {x : V} {p : Addr} {xs : List V} {b : Bool} (h : SqL K H p xs ∨ SqT K H p xs) (hx : flatV x = true) (ha : xs.all flatV = true) (e : inV x xs = b) (q : Q (.bl b) H) : rInU K x (.ref p) H Q := .inl (k_in0 h hx ha e q)
theorem k_ni {x : V} {p : Addr} {xs : List V} {b : Bool} (h : SqL K H p xs ∨ SqT K H p xs) (hx : flatV x = true) (ha : xs.all flatV = true) (e : inV x xs = b) (q : Q (.bl (!b)) H) : rNiU K x (.ref p) H Q := .inl (k_ni0 h hx ha e q)
theorem k_inD {x y : V} {d : PyData} {ds : List PyData} (hx : Dp K H x d) (hy : Dp K H y (.list ds)) (s1 : SeqAt.shaped d = true) (s2 : SeqAt.shaped (.list ds) = true) (q : Q (.bl (ds.any fun z => PyData.eqv z d)) H) : rInU K x y H Q := .inr (.inl ⟨d, ds, hx, hy, s1, s2, q⟩)
theorem k_niD {x y : V} {d : PyData} {ds : List PyData} (hx : Dp K H x d) (hy : Dp K H y (.list ds)) (s1 : SeqAt.shaped d = true) (s2 : SeqAt.shaped (.list ds) = true) (q : Q (.bl (!ds.any fun z => PyData.eqv z d)) H) : rNiU K x y H Q := .inr (.inl ⟨d, ds, hx, hy, s1, s2, q⟩)
theorem k_inS {x y : Str} (q : Q (.bl (!(Builtin.Str.occurrences y x 0 y.length 1).isEmpty)) H) : rInU K (.str x) (.str y) H Q := .inr (.inr ⟨x, y, rfl, rfl, q⟩)
theorem k_niS {x y : Str} (q : Q (.bl (!(!(Builtin.Str.occurrences y x 0 y.length 1).isEmpty))) H) : rNiU K (.str x) (.str y) H Q := .inr (.inr ⟨x, y, rfl, rfl, q⟩)
end
/-- a dict of one pair, its key a text -/
def rDisp1 (p : Addr) (x y : V) (H : Hp) (Q : VK) : Prop := H p = some (.dK []) ∧ ∃ kvs : List (Key × V), [(x, y)] = kvs.map (fun kv => (kV kv.1, kv.2)) ∧ kvs.length ≤ 15 ∧ Q (.ref p) (upd H p (.dK (mergeK [] kvs)))
theorem k_disp1 {σ : L2.St} {H : Hp} {Q : VK} {tk tv : TE} (q : ∀ p H1, H p = none → Same H H1 → H1 p = some (.dK []) → tk σ H1 fun x H2 => tv σ H2 fun y H3 => rDisp1 p x y H3 Q) : tDisp [(tk, tv)] σ H Q := fun p hp => q p _ hp (same_new hp) upd_same
theorem k_disp1x {p : Addr} {z : Str} {y : V} {H : Hp} {Q : VK} (h : H p = some (.dK [])) (q : ∀ H', But p H H' → H' p = some (.dK [(.inr z, y)]) → Q (.ref p) H') : rDisp1 p (.str z) y H Q := ⟨h, [(.inr z, y)], rfl, by simp, q _ But.upd upd_same⟩
theorem k_ev {te : TE} {g : TG} {D : Ends} {σ : L2.St} {H : Hp} (P : V → Hp → Prop) (h : ∀ Q : VK, (∀ v H', P v H' → Q v H') → te σ H Q) (q : ∀ v H', P v H' → g v σ H' D.nx) : tAsg te g D σ H := h _ q
theorem k_evT {tt : TT} {t u : TS} {D : Ends} {σ : L2.St} {H : Hp} (P : Bool → Hp → Prop) (h : ∀ Q : Bool → Hp → Prop, (∀ b H', P b H' → Q b H') → tt σ H Q) (q : ∀ b H', P b H' → if b = true then t D σ H' else u D σ H') : tIfS tt t u D σ H := h _ q
/-! ### list comprehensions -/
section
variable {σ : L2.St} {H : Hp} {Q : VK} {K : PySem.W.Frag} {g : TG} {tt : TT} {te : TE} {vs : List Nat} {wi : TI}
def LcB (D : Addr) (g : TG) (tt : TT) (te : TE) (vs : List Nat) (σ : L2.St) (x : V) (H : Hp) (N : Hp → Prop) : Prop := g x (wipe σ vs) H fun σ2 H2 => wipe σ2 vs = wipe σ vs ∧ tt σ2 H2 fun b H3 =>
  if b = true then te σ2 H3 fun y H4 => ∃ acc, H4 D = some (.lst acc) ∧ acc.length < sizeLine ∧ N (upd H4 D (.lst (acc ++ [y]))) else N H3
def LcX (J : It) (g : TG) (tt : TT) (te : TE) (vs : List Nat) (σ : L2.St) (H : Hp) (Q : VK) : Prop := ∀ D, H D = none → ∃ W : Nat → Nat → Hp → Prop, (∃ m, W 0 m (upd H D (.lst []))) ∧ ∀ i m H, W i m H →
  (J.stop i H ∧ Q (.ref D) H) ∨ (J.go i H ∧ ∃ Nx : Hp → Prop, (∀ H', Nx H' → ∃ m', m' < m ∧ W (i + 1) m' H') ∧ ∀ x H', J.yld i H x H' → LcB D g tt te vs σ x H' Nx)
theorem k_lc (q : wi σ H fun J H1 => LcX J g tt te vs σ H1 Q) : tLc wi g tt te vs σ H Q := q
/-- one turn: the element kept, or not -/
theorem k_lcY {y : V} {D : Addr} {acc : List V} {P : Hp → Prop} (h : H D = some (.lst acc)) (hz : acc.length < sizeLine) (q : ∀ H', But D H H' → H' D = some (.lst (acc ++ [y])) → P H') : ∃ acc, H D = some (.lst acc) ∧ acc.length < sizeLine ∧ P (upd H D (.lst (acc ++ [y]))) :=
  ⟨acc, h, hz, q _ But.upd upd_same⟩
theorem k_lcU {a : Addr} {xs : List V} (hS : SqL K H a xs ∨ SqT K H a xs) (P : Addr → Nat → List V → Hp → Prop) (h0 : ∀ D H', H D = none → Same H H' → H' D = some (.lst []) → P D 0 [] H') (hl : ∀ D i ys H', H D = none → P D i ys H' → Same H H')
    (hs : ∀ D (i : Nat) x ys H', H D = none → xs[i]? = some x → P D i ys H' → H' D = some (.lst ys) → LcB D g tt te vs σ x H' fun H'' => ∃ zs, P D (i + 1) zs H'' ∧ H'' D = some (.lst zs))
    (hd : ∀ D ys H', H D = none → P D xs.length ys H' → H' D = some (.lst ys) → Q (.ref D) H') : rItU K (.ref a) H fun J H1 => LcX J g tt te vs σ H1 Q := by
  rcases hS with hS | hS
  · exact k_itUL hS fun D hD => lc_list (fun i H' => ∃ ys, P D i ys H' ∧ H' D = some (.lst ys)) ⟨[], h0 D _ hD (same_new hD) upd_same, upd_same⟩ (fun i H' _ ⟨ys, p, _⟩ => seqL_same (hl D i ys H' hD p) hS)
      (fun i x H' hx ⟨ys, p, e⟩ => hs D i x ys H' hD hx p e) fun H' ⟨ys, p, e⟩ => hd D ys H' hD p e
  · exact k_itUT hS fun D hD => lc_tup (fun i H' => ∃ ys, P D i ys H' ∧ H' D = some (.lst ys)) ⟨[], h0 D _ hD (same_new hD) upd_same, upd_same⟩ (fun i H' _ ⟨ys, p, _⟩ => seqT_same (hl D i ys H' hD p) hS)
      (fun i x H' hx ⟨ys, p, e⟩ => hs D i x ys H' hD hx p e) fun H' ⟨ys, p, e⟩ => hd D ys H' hD p e
/-- a list walked while other things change -/
theorem k_lcLb {σ : L2.St} {H : Hp} {Q : VK} {K : PySem.W.Frag} {g : TG} {tt : TT} {te : TE} {vs : List Nat} {a : Addr} {xs : List V} {P : Addr → Nat → List V → Hp → Prop} (h0 : ∀ D H', H D = none → Same H H' → H' D = some (.lst []) → P D 0 [] H') (hl : ∀ D i ys H', H D = none → P D i ys H' → SqL K H' a xs)
    (hs : ∀ D (i : Nat) x ys H', H D = none → xs[i]? = some x → P D i ys H' → H' D = some (.lst ys) → LcB D g tt te vs σ x H' fun H'' => ∃ zs, P D (i + 1) zs H'' ∧ H'' D = some (.lst zs))
    (hd : ∀ D ys H', H D = none → P D xs.length ys H' → H' D = some (.lst ys) → Q (.ref D) H') : LcX (Itl K a) g tt te vs σ H Q := fun D hD =>
  lc_list (fun i H' => ∃ ys, P D i ys H' ∧ H' D = some (.lst ys)) ⟨[], h0 D _ hD (same_new hD) upd_same, upd_same⟩ (fun i H' _ ⟨ys, p, _⟩ => hl D i ys H' hD p)
    (fun i x H' hx ⟨ys, p, e⟩ => hs D i x ys H' hD hx p e) fun H' ⟨ys, p, e⟩ => hd D ys H' hD p e
theorem k_lcR {lo : Int} {n : Nat} (P : Addr → Nat → List V → Hp → Prop) (h0 : ∀ D H', H D = none → Same H H' → H' D = some (.lst []) → P D 0 [] H')
    (hs : ∀ D (i : Nat) ys H', H D = none → i < n → P D i ys H' → H' D = some (.lst ys) → LcB D g tt te vs σ (.int (lo + (i : Int))) H' fun H'' => ∃ zs, P D (i + 1) zs H'' ∧ H'' D = some (.lst zs))
    (hd : ∀ D ys H', H D = none → P D n ys H' → H' D = some (.lst ys) → Q (.ref D) H') : LcX (Itr lo n) g tt te vs σ H Q := fun D hD =>
  lc_range (fun i H' => ∃ ys, P D i ys H' ∧ H' D = some (.lst ys)) ⟨[], h0 D _ hD (same_new hD) upd_same, upd_same⟩ (fun i H' hi ⟨ys, p, e⟩ => hs D i ys H' hD hi p e) fun H' ⟨ys, p, e⟩ => hd D ys H' hD p e
/-- a turn begins: the target a name -/
theorem k_lcB {D : Addr} {j : Nat} {x : V} {N : Hp → Prop} (hw : wipe ((wipe σ vs).set j (some x)) vs = wipe σ vs) (q : tt ((wipe σ vs).set j (some x)) H fun b H3 => if b = true then te ((wipe σ vs).set j (some x)) H3 fun y H4 => ∃ acc, H4 D = some (.lst acc) ∧ acc.length < sizeLine ∧ N (upd H4 D (.lst (acc ++ [y]))) else N H3) :
    LcB D (gName j) tt te vs σ x H N := ⟨hw, q⟩
/-- a comprehension's turn, its target a tuple -/
theorem k_lcT {D : Addr} {x : V} {N : Hp → Prop} (q : g x (wipe σ vs) H fun σ2 H2 => wipe σ2 vs = wipe σ vs ∧ tt σ2 H2 fun b H3 =>
    if b = true then te σ2 H3 fun y H4 => ∃ acc, H4 D = some (.lst acc) ∧ acc.length < sizeLine ∧ N (upd H4 D (.lst (acc ++ [y]))) else N H3) : LcB D g tt te vs σ x H N := q
/-- no test -/
theorem k_yes {Q : Bool → Hp → Prop} (q : Q true H) : tYes σ H Q := q
def rRgX (a b : Int) (H : Hp) (Q : VK) : Prop := RgOk a b ∧ ∀ q, H q = none → Q (.ref q) (upd H q (.lst (rgV a b)))
theorem k_listRg {tr : L2.St → Hp → (Int → Int → Hp → Prop) → Prop} (q : tr σ H fun a b H1 => rRgX a b H1 Q) : tLstRg tr σ H Q := q
theorem k_rg1 {ta : TE} {R : Int → Int → Hp → Prop} (q : ta σ H fun x H1 => ∃ n, x = .int n ∧ R 0 n H1) : tRg1 ta σ H R := q
theorem k_rgX {a b : Int} (c : 0 ≤ a ∧ a ≤ 1000000 ∧ 0 ≤ b ∧ b ≤ 1000000) (q : ∀ l H', H l = none → Same H H' → H' l = some (.lst (rgV a b)) → Q (.ref l) H') : rRgX a b H Q := ⟨RgOk.of_le (by omega) (by omega) (by omega) (by omega), fun l hl => q l _ hl (same_new hl) upd_same⟩
end
def rIsBl : R2 := fun x y H Q => ∃ a b, x = .bl a ∧ y = .bl b ∧ Q (.bl (decide (a = b))) H
def rNotBl : R2 := fun x y H Q => ∃ a b, x = .bl a ∧ y = .bl b ∧ Q (.bl (!decide (a = b))) H
theorem op_isBlU {X : Cx} : OpR X (compareOp .Is) rIsBl := op_is_bl
theorem op_notBlU {X : Cx} : OpR X (compareOp .IsNot) rNotBl := op_isnot_bl
theorem k_isBl {a b : Bool} {H : Hp} {Q : VK} (q : Q (.bl (decide (a = b))) H) : rIsBl (.bl a) (.bl b) H Q := ⟨a, b, rfl, rfl, q⟩
theorem k_notBl {a b : Bool} {H : Hp} {Q : VK} (q : Q (.bl (!decide (a = b))) H) : rNotBl (.bl a) (.bl b) H Q := ⟨a, b, rfl, rfl, q⟩
theorem k_glst {K : PySem.W.Frag} {a : Addr} {xs : List V} {n : Nat} {t : TGs} {σ : L2.St} {H : Hp} {Q : L2.St → Hp → Prop} (h : SqL K H a xs) (hl : xs.length = n) (q : t xs σ H Q) : gLst K n t (.ref a) σ H Q := ⟨a, xs, rfl, h, hl, q⟩
theorem k_ext1 {l b : Addr} {xs zs : List V} {H : Hp} {Q : VK} (h : H l = some (.lst xs)) (g : H b = some (.lst zs)) (c : xs.length + zs.length ≤ sizeLine) (q : ∀ H', But l H H' → H' l = some (.lst (xs ++ zs)) → Q .non H') : rExtend (.ref l) [.ref b] H Q := ⟨l, b, xs, zs, rfl, rfl, h, g, c, q _ But.upd upd_same⟩
/-- a tuple and one more -/
theorem k_addT1 {K : PySem.W.Frag} {H : Hp} {Q : VK} {a b : Addr} {xs : List V} {y : V} (ha : SqT K H a xs) (hb : SqT K H b [y]) (c : xs.length + 1 ≤ sizeLine) (q : ∀ p H', Same H H' → SqT K H' p (xs ++ [y]) → Q (.ref p) H') : rAddU K (.ref a) (.ref b) H Q :=
  .inr (.inr (.inr (.inl ⟨a, b, xs, [y], rfl, rfl, ha, hb, c, fun e => by subst e; exact q b H (Same.refl H) hb, fun _ e => (by cases e), fun _ _ p hp => q p _ (same_new hp) (SqT.of upd_same)⟩)))
/-! len(set(t)), t a tuple of ints, none twice -/
def tLenSetT (K : PySem.W.Frag) (ta : TE) : TE := fun σ H Q => ta σ H fun x H1 => ∃ (l : Addr) (ns : List Int), x = .ref l ∧ SqT K H1 l (ns.map V.int) ∧ ns.Nodup ∧ ns.length ≤ 4000 ∧ Q (.int (ns.length : Nat)) H1
theorem ints_vals : ∀ {ns : List Int} {us : List Value}, Vals (ns.map V.int) us → PyProof.Rows.IntsAre us ns
  | [], _, .nil => .nil
  | n :: ns, _, .cons r t => by
    obtain ⟨k, rfl⟩ := r
    exact .cons n k (ints_vals t)
theorem pe_lenSetT {X : Cx} {K : PySem.W.Frag} {a : Expr} {ta : TE} {p p2 q pos : Pos} (hK : X.K = K) (hg : Gl X "len") (hm : X.mg "len" = none) (hg2 : Gl X "set") (hm2 : X.mg "set" = none) (ha : PE X a ta) (hc : X.calm = true := by rfl)
    (na : starEach [a] X.env = (false, eval a X.env) :: starEach [] X.env := by rfl) : PE X (.Call (.Name "len" p) [.Call (.Name "set" p2) [a] [] q] [] pos) (tLenSetT K ta) := by
  subst hK
  refine ⟨fun pins s σ H Q I h => ?_⟩
  refine Call_ (ld_blt I hg hm boot_len ?_)
  refine PyProof.Rows.callWith_builtin1 (PyProof.Rows.args_cons ?_ rfl) rfl rfl
  refine Call_ (ld_blt I hg2 hm2 boot_set ?_)
  refine PyProof.Rows.callWith_type1 (PyProof.Rows.args_cons (thn (ha.run pins s σ H _ I h) fun v s1 ⟨x, H1, I1, r1, q1⟩ => PyProof.Rows.args_nil ?_) na) na rfl
  obtain ⟨l, ns, rfl, hq, hnd, hl, q1⟩ := q1
  cases r1
  obtain ⟨its, r, pt, hz⟩ := I1.tuple hq
  refine call_set_tupI ns (I1.ok.hd hc) pt (by simpa using ints_vals r) (by unfold scanBound; omega) fun h' tk c hS _ hk => ?_
  refine PyProof.Rows.args_nil ?_
  obtain ⟨o, es, ep, t, ho, hex, hd, g, nd, hm3, hb, hf, hn, _⟩ := hS
  have I2 : Inv X pins σ H1 { s1 with heap := h', toks := tk } := I1.kept hk
  have hp : (es.toList.map keyOf).Perm ns := (List.perm_ext_iff_of_nodup nd hnd).mpr fun k => by
    have := hm3 k
    rw [← this]
    simp
  have hlen : es.size = ns.length := by
    have := hp.length_eq
    rw [List.length_map, Array.length_toList] at this
    exact this
  exact call_len_set ho hex hd hf (by rw [hlen]; omega) ⟨.int ns.length, H1, I2.tok _, ⟨_, by rw [hlen]⟩, q1⟩
def rLenSetT (K : PySem.W.Frag) (x : V) (H1 : Hp) (Q : VK) : Prop := ∃ (l : Addr) (ns : List Int), x = .ref l ∧ SqT K H1 l (ns.map V.int) ∧ ns.Nodup ∧ ns.length ≤ 4000 ∧ Q (.int (ns.length : Nat)) H1
theorem k_lenSetT {K : PySem.W.Frag} {ta : TE} {σ : L2.St} {H : Hp} {Q : VK} (q : ta σ H fun x H1 => rLenSetT K x H1 Q) : tLenSetT K ta σ H Q := q
theorem k_lenSetTx {K : PySem.W.Frag} {H : Hp} {Q : VK} {l : Addr} {ns : List Int} (h : SqT K H l (ns.map V.int)) (nd : ns.Nodup) (c : ns.length ≤ 4000) (q : Q (.int (ns.length : Nat)) H) : rLenSetT K (.ref l) H Q := ⟨l, ns, rfl, h, nd, c, q⟩
/-! count of data -/
def rCntL (K : PySem.W.Frag) : V → List V → Hp → VK → Prop := fun x xs H Q => ∃ (p : Addr) (y : V) (d : PyData) (ds : List PyData), x = .ref p ∧ xs = [y] ∧ Dp K H (.ref p) (.list ds) ∧ Dp K H y d ∧ PyData.plainAll ds = true ∧ d.plain = true ∧ PyData.depthAll ds ≤ 32 ∧
  Q (.int ((ds.countP fun z => PyData.eqv z d : Nat) : Int)) H
theorem mt_cntL {X : Cx} {k : Nat} {K : PySem.W.Frag} (h : X.K = K) (hr : Room k X.A) : MtR X "list.count" (rCntL K) := by
  subst h
  intro pins s σ H x xs v us Q I rx rxs h
  obtain ⟨p, y, d, ds, rfl, rfl, hl, hy, pl, pd, dp, q⟩ := h
  cases rx
  cases rxs with
  | cons ry rt =>
    rename_i uy ut
    cases rt
    obtain ⟨bs, r1⟩ := Dp.reads I d y uy hy ry
    cases hl with
    | lst hs ha =>
      obtain ⟨its, rv, pl2, hlen⟩ := I.list hs
      obtain ⟨as, h4⟩ := Dp.readsAll I ds _ its ha rv
      refine PySem.SeqAt.count_list_data pl2.isList (show ReadsAll s.heap its.toArray.toList ds as from h4) r1 pl pd (by have := hr.units; omega) ⟨.int ((ds.countP fun z => PyData.eqv z d : Nat) : Int), H, I.tok _, ⟨_, rfl⟩, q⟩
theorem k_cntL {H : Hp} {Q : VK} {K : PySem.W.Frag} {p : Addr} {y : V} {d : PyData} {ds : List PyData} (hl : Dp K H (.ref p) (.list ds)) (hy : Dp K H y d) (pl : PyData.plainAll ds = true) (pd : d.plain = true) (dp : PyData.depthAll ds ≤ 32)
    (q : Q (.int ((ds.countP fun z => PyData.eqv z d : Nat) : Int)) H) : rCntL K (.ref p) [y] H Q := ⟨p, y, d, ds, rfl, rfl, hl, hy, pl, pd, dp, q⟩
/-- a list, repeated -/
theorem k_mulR {H : Hp} {Q : VK} {K : PySem.W.Frag} {l : Addr} {k : Int} {xs : List V} (h : H l = some (.lst xs)) (c : -(2 ^ 63) ≤ k ∧ k < 2 ^ 63 ∧ xs.length * k.toNat ≤ sizeLine) (q : ∀ p H', H p = none → Same H H' → H' p = some (.lst (List.replicate k.toNat xs).flatten) → Q (.ref p) H') : rMulU K (.ref l) (.int k) H Q :=
  .inr (.inl ⟨l, k, xs, rfl, rfl, h, c.1, c.2.1, c.2.2, fun p hp => q p _ hp (same_new hp) upd_same⟩)
/-! ### walks that lay a new pair at each turn: enumerate, zip -/
structure PairIt (J : It) (n : Nat) (u v : Nat → V) (Ok : Hp → Prop) : Prop where
  go : ∀ i H, Ok H → i < n → J.go i H
  stop : ∀ H, Ok H → J.stop n H
  yld : ∀ i H x H', Ok H → i < n → J.yld i H x H' → ∃ T, x = .ref T ∧ H T = none ∧ H' = upd H T (.tup [u i, v i])
section
variable {σ : L2.St} {H : Hp} {Q : VK} {K : PySem.W.Frag} {g : TG} {tt : TT} {te : TE} {vs : List Nat} {J : It} {n : Nat} {u v : Nat → V} {Ok : Hp → Prop} {D : Ends} {tb : TS} {ta : TA}
theorem k_loopP (pi : PairIt J n u v Ok) (P : Nat → L2.St → Hp → Prop) (h0 : P 0 σ H) (hl : ∀ i σ' H', P i σ' H' → Ok H')
    (hs : ∀ (i : Nat) T σ' H1 H2, i < n → P i σ' H1 → H1 T = none → Same H1 H2 → H2 T = some (.tup [u i, v i]) → g (.ref T) σ' H2 fun σ2 H2 => tb { D with nx := P (i + 1), ct := P (i + 1), bk := D.nx } σ2 H2) (hd : ∀ σ' H', P n σ' H' → D.nx σ' H') : LoopI J g tb D σ H := by
  refine ⟨fun i m σ' H' => m = n - i ∧ i ≤ n ∧ P i σ' H', ⟨n, by simp, Nat.zero_le _, h0⟩, ?_⟩
  rintro i m σ' H' ⟨rfl, hi, p⟩
  have ok := hl i σ' H' p
  by_cases c : i < n
  · refine .inr ⟨pi.go i H' ok c, P (i + 1), fun σ2 H2 q => ⟨n - (i + 1), by omega, rfl, c, q⟩, fun x H2 y => ?_⟩
    obtain ⟨T, rfl, hT, rfl⟩ := pi.yld i H' x H2 ok c y
    exact hs i T σ' H' _ c p hT (same_new hT) upd_same
  · have e : i = n := by omega
    subst e
    exact .inl ⟨pi.stop H' ok, hd σ' H' p⟩
theorem k_lcP (pi : PairIt J n u v Ok) (P : Addr → Nat → List V → Hp → Prop) (h0 : ∀ D H', H D = none → Same H H' → H' D = some (.lst []) → P D 0 [] H') (hl : ∀ D i ys H', H D = none → P D i ys H' → Ok H')
    (hs : ∀ D (i : Nat) T ys H1 H2, H D = none → i < n → P D i ys H1 → H1 T = none → Same H1 H2 → H2 T = some (.tup [u i, v i]) → H2 D = some (.lst ys) → LcB D g tt te vs σ (.ref T) H2 fun H'' => ∃ zs, P D (i + 1) zs H'' ∧ H'' D = some (.lst zs))
    (hd : ∀ D ys H', H D = none → P D n ys H' → H' D = some (.lst ys) → Q (.ref D) H') : LcX J g tt te vs σ H Q := fun D hD => by
  refine ⟨fun i m H' => m = n - i ∧ i ≤ n ∧ ∃ ys, P D i ys H' ∧ H' D = some (.lst ys), ⟨n, by simp, Nat.zero_le _, [], h0 D _ hD (same_new hD) upd_same, upd_same⟩, ?_⟩
  rintro i m H' ⟨rfl, hi, ys, p, e⟩
  have ok := hl D i ys H' hD p
  by_cases c : i < n
  · refine .inr ⟨pi.go i H' ok c, fun H'' => ∃ zs, P D (i + 1) zs H'' ∧ H'' D = some (.lst zs), fun H2 ⟨zs, q, e2⟩ => ⟨n - (i + 1), by omega, rfl, c, zs, q, e2⟩, fun x H2 y => ?_⟩
    obtain ⟨T, rfl, hT, rfl⟩ := pi.yld i H' x H2 ok c y
    exact hs D i T ys H' _ hD c p hT (same_new hT) upd_same (same_new hT _ _ e)
  · have ei : i = n := by omega
    subst ei
    exact .inl ⟨pi.stop H' ok, hd D ys H' hD p e⟩
theorem get_some {xs : List V} {i : Nat} (h : i < xs.length) : xs[i]? = some (xs.getD i .non) := by
  rw [List.getElem?_eq_getElem h]
  simp [h]
theorem enum_it {a : Addr} {xs : List V} : PairIt (Ite K a) xs.length (fun i => .int (i : Nat)) (fun i => xs.getD i .non) (fun H => SqL K H a xs) where
  go := fun i H h c => ⟨xs, _, h, get_some c⟩
  stop := fun H h => ⟨xs, h, Nat.le_refl _⟩
  yld := fun i H x H' h c ⟨T, y, e, hT, eH, hy⟩ => ⟨T, e, hT, by
    have := hy xs h
    rw [get_some c] at this
    rw [eH, Option.some.inj this]⟩
theorem zip_it {a b : Addr} {xs ys : List V} (hl : xs.length = ys.length) : PairIt (Itz K a b) xs.length (fun i => xs.getD i .non) (fun i => ys.getD i .non) (fun H => SqL K H a xs ∧ SqL K H b ys) where
  go := fun i H h c => ⟨xs, ys, _, _, h.1, h.2, get_some c, get_some (by omega)⟩
  stop := fun H h => ⟨xs, ys, h.1, h.2, .inl (Nat.le_refl _)⟩
  yld := fun i H x H' h c ⟨T, y, z, e, hT, eH, hy, hz⟩ => ⟨T, e, hT, by
    have e1 := hy xs h.1
    have e2 := hz ys h.2
    rw [get_some c] at e1
    rw [get_some (by omega)] at e2
    rw [eH, Option.some.inj e1, Option.some.inj e2]⟩
def rEnum (K : PySem.W.Frag) (vs : List V) (H1 : Hp) (R : It → Hp → Prop) : Prop := ∃ a xs, vs = [.ref a] ∧ SqL K H1 a xs ∧ R (Ite K a) H1
theorem k_iEnum {R : It → Hp → Prop} (q : ta σ H fun vs H1 => rEnum K vs H1 R) : iEnum K ta σ H R := q
theorem k_enumx {a : Addr} {xs : List V} {R : It → Hp → Prop} (h : SqL K H a xs) (q : R (Ite K a) H) : rEnum K [.ref a] H R := ⟨a, xs, rfl, h, q⟩
end
/-! the written part by its name, in comprehensions too -/
section
variable {X : Cx} {K : PySem.W.Frag}
theorem callK {f : Value} {r : PySem.W.Frag → List V → Hp → VK → Prop} (h : X.K = K) (c : CallR X f (r X.K)) : CallR X f (r K) := h ▸ c
theorem pe_fldK {e : Expr} {ta : TE} {f : Str} {pos : Pos} (h : X.K = K) (he : PE X e ta) (hb : attributeBase e f X.env (eval e X.env) = eval e X.env) : PE X (.Attribute e f pos) (tFld K ta f) := h ▸ pe_fld he hb
theorem pe_bm0K {T id : String} {name : Str} {o : Expr} {to : TE} {r : V → List V → Hp → VK → Prop} {apos cpos : Pos} (h : X.K = K) (pa : PlainAttrs T) (slot : Slot T name id) (hty : typeOf (.builtin id) = pure (.type "method_descriptor")) (hm : MtR X id r) (ho : PE X o to)
    (hbase : attributeBase o name X.env (eval o X.env) = eval o X.env := by rfl) (hline : (apos.endLine == cpos.line) = true := by rfl) : PE X (.Call (.Attribute o name apos) [] [] cpos) (tBM0 K T r to) := h ▸ pe_bm0 pa slot hty hm ho hbase hline
theorem pe_bmK {T id : String} {name : Str} {o e : Expr} {es : List Expr} {to : TE} {t : TA} {r : V → List V → Hp → VK → Prop} {apos cpos : Pos} (h : X.K = K) (pa : PlainAttrs T) (slot : Slot T name id) (hty : typeOf (.builtin id) = pure (.type "method_descriptor")) (hm : MtR X id r) (ho : PE X o to) (ha : PA X (e :: es) t)
    (hbase : attributeBase o name X.env (eval o X.env) = eval o X.env := by rfl)
    (hfew : ((backTo cpos (starEach (e :: es) X.env)).all (fun x => !x.1) && (backToKw cpos (keywordEach [] X.env)).all (fun x => x.1.isSome)
      && decide ((e :: es).length + ([] : List Keyword).length + (if ([] : List Keyword).isEmpty then 0 else 1) < 30)) = true := by rfl)
    (hline : (apos.endLine == cpos.line) = true := by rfl) (hs : starEach (e :: es) X.env = (false, eval e X.env) :: starEach es X.env := by rfl) (hplain : (backTo cpos (starEach es X.env)).any (·.1) = false := by rfl) :
    PE X (.Call (.Attribute o name apos) (e :: es) [] cpos) (tBM K T r to t) := h ▸ pe_bm pa slot hty hm ho ha hbase hfew hline hs hplain
end
/-! X(e).f, X an exception with a field -/
section
variable {X : Cx} {e : Expr} {t : L2.St → Hp → XK → Prop} {C : Addr} {f : Str} {pos : Pos}
def tMkF (C : Addr) (f : Str) (t : L2.St → Hp → XK → Prop) : TE := fun σ H Q => t σ H fun cls d H1 => ∃ (dd : Addr) (fs : List (Str × V)) (v : V), cls = .ref C ∧ d = some dd ∧ H1 dd = some (.xd fs) ∧ fs.lookup f = some v ∧ Q v H1
theorem pe_mkF (T : XfC X.K C) (hno : PySem.W.findIn X.K (.ref C) f = some none) (he : PMk X e t) (hb : attributeBase e f X.env (eval e X.env) = eval e X.env := by rfl) : PE X (.Attribute e f pos) (tMkF C f t) := by
  refine ⟨fun pins s σ H Q I h => ?_⟩
  refine attr_of hb (thn (he pins s σ H _ I h) fun u s1 hh => ?_)
  obtain ⟨a, oe, vs, sI, H1, cls, d, ex, J, k, hne, ha, hz, hd, h1, na, os, ag, r, dd, fs, v, ec, ed, ea, l, q⟩ := hh
  subst ex
  subst ec
  subst ed
  have J2 := J.kept (h' := s1.heap) (t' := s1.toks) k
  have I1 : Inv X pins σ H1 s1 := ⟨J2.ok, os.trans J2.os, ag, J2.base, J2.loc, J2.cell, J2.free, J2.freeC, J2.pin, J2.hok, J2.len⟩
  have hx : ObjOk X.prog X.w H1 s1.heap dd (.xd fs) := I1.hok dd _ ea
  obtain ⟨mA, hns, hr⟩ := hx
  obtain ⟨od, ho, hl⟩ := lookIn_ns hns
  obtain ⟨u, hu, ru⟩ := RelO.some_of (v := v) (o := mA f) (by rw [← l]; exact hr f)
  have J : PySem.W.InstAt s1.heap a oe C (some od) := ⟨ha, hz.1, by unfold PySem.W.notCls; rw [hd] <;> rfl, by rw [hz.2]; exact ho⟩
  exact HandSPX.exc_get I1.kIn J T.ga T.gg T.exC (PySem.W.findObj_own T.hdC hno rfl (by rw [hl, hu])) (handed_of ru) ⟨v, H1, I1.tok _, ru, q⟩
theorem k_mkF {sp : Sp} {ta : TA} {σ : L2.St} {H : Hp} {Q : VK} (q : ta σ H fun vs H1 => rMkO C sp vs H1 fun cls d H1 => ∃ (dd : Addr) (fs : List (Str × V)) (v : V), cls = .ref C ∧ d = some dd ∧ H1 dd = some (.xd fs) ∧ fs.lookup f = some v ∧ Q v H1) : tMkF C f (tMkO C sp [] ta) σ H Q := q
theorem k_mkFx {v : V} {H1 : Hp} {Q : VK} (k : ∀ H2, Same H1 H2 → Q v H2) : rMkO C (spXI C f) [v] H1 fun cls d H1 => ∃ (dd : Addr) (fs : List (Str × V)) (v : V), cls = .ref C ∧ d = some dd ∧ H1 dd = some (.xd fs) ∧ fs.lookup f = some v ∧ Q v H1 :=
  k_mkx fun d H2 _ s hd => ⟨d, _, v, rfl, rfl, hd, by simp [List.lookup], k H2 s⟩
/-- tuples of ints, < -/
theorem op_ltTK {K : PySem.W.Frag} {k : Nat} (h : X.K = K) (hr : Room k X.A) : OpR X (compareOp .Lt) (rLtT K) := h ▸ op_ltT (by have := hr.units; omega)
theorem k_ltT {K : PySem.W.Frag} {H : Hp} {Q : VK} {a b : Addr} {ns ms : List Int} (ha : SqT K H a (ns.map V.int)) (hb : SqT K H b (ms.map V.int)) (q : Q (.bl (HT.lexLt ns ms)) H) : rLtT K (.ref a) (.ref b) H Q := ⟨a, b, ns, ms, rfl, rfl, ha, hb, q⟩
theorem k_clear {H : Hp} {Q : VK} {l : Addr} {xs : List V} (h : H l = some (.lst xs)) (q : ∀ H', But l H H' → H' l = some (.lst []) → Q .non H') : rClear (.ref l) [] H Q := ⟨l, xs, rfl, rfl, h, q _ But.upd upd_same⟩
end
/-- while, its test by what it gives -/
theorem k_whileT {tc : TT} {tb : TS} {D : Ends} {σ : L2.St} {H : Hp} (P : Nat → L2.St → Hp → Prop) (R : Nat → L2.St → Bool → Hp → Prop) (m : Nat) (h0 : P m σ H) (ht : ∀ m σ H, P m σ H → ∀ Q : Bool → Hp → Prop, (∀ b H', R m σ b H' → Q b H') → tc σ H Q)
    (hb : ∀ m σ H, R m σ true H → tb { D with nx := Less P m, ct := Less P m, bk := D.nx } σ H) (hd : ∀ m σ H, R m σ false H → D.nx σ H) : tWhile tc tb D σ H := k_while P m h0 fun m σ H p => ht m σ H p _ fun b H' r => by
  cases b with
  | true => exact k_ifT (k_wN (hb m σ H' r))
  | false => exact k_ifF (hd m σ H' r)
/-! a tuple and a list walked side by side -/
def Itm (K : PySem.W.Frag) (a b : Addr) : It where
  go i H := ∃ xs ys x y, SqT K H a xs ∧ SqL K H b ys ∧ xs[i]? = some x ∧ ys[i]? = some y
  yld i H v H' := ∃ T x y, v = .ref T ∧ H T = none ∧ H' = upd H T (.tup [x, y]) ∧ (∀ xs, SqT K H a xs → xs[i]? = some x) ∧ ∀ ys, SqL K H b ys → ys[i]? = some y
  stop i H := ∃ xs ys, SqT K H a xs ∧ SqL K H b ys ∧ xs.length = i ∧ ys.length = i
def ZmSt (z TI TO i1 i2 a b : Addr) (i : Nat) (h : Heap) : Prop := IsZip h z TI TO .none ∧ IsTupOf2 h TI (.ref i1) (.ref i2) ∧ (∃ x y, IsTupOf2 h TO x y) ∧ h.IsTupleIter i1 a i ∧ h.IsListIter i2 b i
theorem zm_obj {z TI TO i1 i2 a b : Addr} {i : Nat} {h : Heap} (st : ZmSt z TI TO i1 i2 a b i h) {c : Addr} (hc : c ∈ [z, TI, TO, i1, i2]) : ∃ o, h.get? c = some o ∧ ∀ v, o.data ≠ .cell v := by
  obtain ⟨s1, s2, ⟨_, _, s3⟩, ⟨o4, e4, _, d4⟩, ⟨o5, e5, _, d5⟩⟩ := st
  simp only [List.mem_cons, List.not_mem_nil, or_false] at hc
  rcases hc with rfl | rfl | rfl | rfl | rfl
  · exact ⟨_, s1, fun _ => nofun⟩
  · exact ⟨_, s2, fun _ => nofun⟩
  · exact ⟨_, s3, fun _ => nofun⟩
  · exact ⟨o4, e4, fun _ z => by rw [d4] at z; cases z⟩
  · exact ⟨o5, e5, fun _ z => by rw [d5] at z; cases z⟩
theorem turn_zipM {P : Program} {w : World} {K : PySem.W.Frag} {elts : List Expr} {kk : Nat} {tpos : Pos} {a b z TI TO i1 i2 : Addr} (S : ZipSep2 z TI TO i1 i2 [i1, a] [i2, b]) (ha : a ≠ i1) (hb : b ≠ i2) :
    Turn P w K (.Tuple elts kk tpos) (Itm K a b) [z, TI, TO, i1, i2] z (ZmSt z TI TO i1 i2 a b) where
  mem := by simp
  obj := fun i h st c hc => zm_obj st hc
  keep := fun i h h' st k => ⟨k z (by simp) _ st.1, k TI (by simp) _ st.2.1, (let ⟨x, y, e⟩ := st.2.2.1; ⟨x, y, k TO (by simp) _ e⟩), st.2.2.2.1.at fun o q => k i1 (by simp) o q, st.2.2.2.2.at fun o q => k i2 (by simp) o q⟩
  item := by
    intro X hP hw hK hc i pins s σ H E I hf st hg
    subst hP hw hK
    obtain ⟨xs, ys, x, y, qx, qy, ex, ey⟩ := hg
    obtain ⟨us, ru, pu, _⟩ := I.tuple qx
    obtain ⟨vs, rv, pv, _⟩ := I.list qy
    have hh : X.A.in1.handled = none := I.ok.hd hc
    have lu : i < us.length := by rw [← ru.length]; exact (List.getElem?_eq_some_iff.mp ex).1
    have lv : i < vs.length := by rw [← rv.length]; exact (List.getElem?_eq_some_iff.mp ey).1
    have W := WalksT.zipD2 (prog := X.prog) (w := X.w) (A := X.A) S (Draws.tuple hh i1 a ha us.toArray) (Draws.list hh i2 b hb vs.toArray)
    refine W.item i s _ E (by simp; omega) ⟨st.1, st.2.1, st.2.2.1, ⟨st.2.2.2.1, pu⟩, ⟨st.2.2.2.2, pv.isList⟩⟩ fun T vals h' tk hP hT ht hm hk => ?_
    obtain ⟨u, v, hu, hv, rfl⟩ := hP
    obtain ⟨u', hu', r1⟩ := ru.get ex
    obtain ⟨v', hv', r2⟩ := rv.get ey
    obtain rfl : u' = u := Option.some.inj (hu'.symm.trans (by simpa using hu))
    obtain rfl : v' = v := Option.some.inj (hv'.symm.trans (by simpa using hv))
    refine ⟨.ref T, rfl, W.go elts kk tpos i T { s with heap := h', toks := tk } _ E hm fun h2 st2 hk2 => ?_⟩
    have new : ObjOk X.prog X.w (upd H T (.tup [x, y])) h2 T (.tup [x, y]) := ⟨by show 2 ≤ sizeLine; decide, [u', v'], .cons r1 (.cons r2 .nil), ht.at fun o e => hk2 T o (W.apart i T h' hm) e⟩
    have I1 := I.turnedNew (t' := tk) (ch := [z, TI, TO, i1, i2]) (fun c o n e => hk2 c o (fun q => n (by simp at q ⊢; rcases q with h | h | h | h <;> simp [h])) (hk c o (fun q => n (by simp at q ⊢; rcases q with h | h | h | h <;> simp [h])) e)) hf hT new
    refine ⟨.ref T, _, I1, rfl, ⟨T, x, y, rfl, I.hok.fresh hT, rfl, fun l hl => by rw [I.tuple_inj hl qx]; exact ex, fun l hl => by rw [I.list_inj hl qy]; exact ey⟩, ⟨st2.1, st2.2.1, st2.2.2.1, st2.2.2.2.1.1, st2.2.2.2.2.1⟩, fun c hcm => ?_⟩
    obtain ⟨o, e, _⟩ := zm_obj st hcm
    rw [upd_ne (Nat.ne_of_lt (Nat.lt_of_lt_of_le (Heap.lt_size e) hT))]
    exact (hf c hcm).1
  done := by
    intro X hP hw hK hc i pins s σ H E I hf st hg
    subst hP hw hK
    obtain ⟨xs, ys, qx, qy, ex, ey⟩ := hg
    obtain ⟨us, ru, pu, _⟩ := I.tuple qx
    obtain ⟨vs, rv, pv, _⟩ := I.list qy
    have hh : X.A.in1.handled = none := I.ok.hd hc
    have lu : us.length = i := by rw [← ru.length]; exact ex
    have lv : vs.length = i := by rw [← rv.length]; exact ey
    have W := WalksT.zipD2 (prog := X.prog) (w := X.w) (A := X.A) S (Draws.tuple hh i1 a ha us.toArray) (Draws.list hh i2 b hb vs.toArray)
    rw [show min us.toArray.size vs.toArray.size = i by simp; omega] at W
    exact W.done s _ E ⟨st.1, st.2.1, st.2.2.1, ⟨st.2.2.2.1, pu⟩, ⟨st.2.2.2.2, pv.isList⟩⟩ fun h' tk hk => ⟨rfl, I.turnedL (t' := tk) (ch := [z, TI, TO, i1, i2]) (fun c o n e => hk c o (fun q => n (by simp at q ⊢; rcases q with h | h | h | h <;> simp [h])) e) hf⟩
  self := fun A i s Q E st h => wpAny_pyIter_zip st.1 h
def rZipM (K : PySem.W.Frag) (vs : List V) (H1 : Hp) (R : It → Hp → Prop) : Prop := ∃ a b xs ys, vs = [.ref a, .ref b] ∧ SqT K H1 a xs ∧ SqL K H1 b ys ∧ R (Itm K a b) H1
def iZipM (K : PySem.W.Frag) (ta : TA) : TI := fun σ H R => ta σ H fun vs H1 => rZipM K vs H1 R
theorem pi_zipM {X : Cx} {K : PySem.W.Frag} {e e2 : Expr} {ta : TA} {p pos tpos : Pos} {elts : List Expr} {kk : Nat} (h : X.K = K) (hg : Gl X "zip") (hm : X.mg "zip" = none) (ha : PA X [e, e2] ta)
    (hs : starEach [e, e2] X.env = (false, eval e X.env) :: starEach [e2] X.env := by rfl) (hpl : (backTo pos (starEach [e2] X.env)).any (·.1) = false := by rfl) :
    PI X (.Tuple elts kk tpos) (.Call (.Name "zip" p) [e, e2] [] pos) (iZipM K ta) := by
  subst h
  refine ⟨fun pins s σ H R I h => Call_ (ld_blt I hg hm PyProof.Rows.boot_zip (PyProof.Rows.callWith_type1 (thn (ha.run pos pins s σ H _ I h) fun us s1 z => ?_) hs hpl))⟩
  obtain ⟨vs, H1, I1, r1, a, b, xs, ys, rfl, qx, qy, q⟩ := z
  cases r1 with
  | cons ra rr =>
    obtain ⟨ub, rfl, rb⟩ := vals1 rr
    cases ra
    cases rb
    obtain ⟨us, ru, pu, _⟩ := I1.tuple qx
    obtain ⟨vs, rv, pv, _⟩ := I1.list qy
    have la : a < s1.heap.objs.size := by obtain ⟨_, e, _⟩ := id pu; exact Heap.lt_size e
    refine zip_begins2 (begins_tuple a us.toArray) (begins_list b vs.toArray) pu pv.isList fun h' hz hTI hTO g1 g2 hsz hk => wpAny_pyIter_zip hz ?_
    have S := zip_sep2 (N := s1.heap.objs.size) (fp1 := [a]) (fp2 := [b]) (fun c hc => by rw [List.mem_singleton.mp hc]; exact la) (fun c hc => by rw [List.mem_singleton.mp hc]; exact pv.lt)
    refine ⟨_, _, _, _, H1, rfl, I1.kept (t' := s1.toks) hk, turn_zipM S (Nat.ne_of_lt la) (Nat.ne_of_lt (Nat.lt_succ_of_lt pv.lt)), ⟨hz, hTI, ⟨_, _, hTO⟩, ⟨_, g1, rfl, rfl⟩, ⟨_, g2, rfl, rfl⟩⟩, fun c hc => ?_, q⟩
    have hle : s1.heap.objs.size ≤ c := by
      simp only [List.mem_cons, List.not_mem_nil, or_false] at hc
      rcases hc with rfl | rfl | rfl | rfl | rfl
      · exact Nat.le_add_right _ 4
      · exact Nat.le_add_right _ 2
      · exact Nat.le_add_right _ 3
      · exact Nat.le_refl _
      · exact Nat.le_add_right _ 1
    exact I1.fpOk hle (I1.hok.fresh hle)
theorem k_iZipM {K : PySem.W.Frag} {ta : TA} {σ : L2.St} {H : Hp} {R : It → Hp → Prop} (q : ta σ H fun vs H1 => rZipM K vs H1 R) : iZipM K ta σ H R := q
theorem k_zipMx {K : PySem.W.Frag} {H : Hp} {R : It → Hp → Prop} {a b : Addr} {xs ys : List V} (hx : SqT K H a xs) (hy : SqL K H b ys) (q : R (Itm K a b) H) : rZipM K [.ref a, .ref b] H R := ⟨a, b, xs, ys, rfl, hx, hy, q⟩
theorem zipM_it {K : PySem.W.Frag} {a b : Addr} {xs ys : List V} (hl : xs.length = ys.length) : PairIt (Itm K a b) xs.length (fun i => xs.getD i .non) (fun i => ys.getD i .non) (fun H => SqT K H a xs ∧ SqL K H b ys) where
  go := fun i H h c => ⟨xs, ys, _, _, h.1, h.2, get_some c, get_some (by omega)⟩
  stop := fun H h => ⟨xs, ys, h.1, h.2, rfl, hl.symm⟩
  yld := fun i H x H' h c ⟨T, y, z, e, hT, eH, hy, hz⟩ => ⟨T, e, hT, by
    have e1 := hy xs h.1
    have e2 := hz ys h.2
    rw [get_some c] at e1
    rw [get_some (by omega)] at e2
    rw [eH, Option.some.inj e1, Option.some.inj e2]⟩
/-! a list and a tuple walked side by side -/
def Itn (K : PySem.W.Frag) (a b : Addr) : It where
  go i H := ∃ xs ys x y, SqL K H a xs ∧ SqT K H b ys ∧ xs[i]? = some x ∧ ys[i]? = some y
  yld i H v H' := ∃ T x y, v = .ref T ∧ H T = none ∧ H' = upd H T (.tup [x, y]) ∧ (∀ xs, SqL K H a xs → xs[i]? = some x) ∧ ∀ ys, SqT K H b ys → ys[i]? = some y
  stop i H := ∃ xs ys, SqL K H a xs ∧ SqT K H b ys ∧ xs.length = i ∧ ys.length = i
def ZnSt (z TI TO i1 i2 a b : Addr) (i : Nat) (h : Heap) : Prop := IsZip h z TI TO .none ∧ IsTupOf2 h TI (.ref i1) (.ref i2) ∧ (∃ x y, IsTupOf2 h TO x y) ∧ h.IsListIter i1 a i ∧ h.IsTupleIter i2 b i
theorem zn_obj {z TI TO i1 i2 a b : Addr} {i : Nat} {h : Heap} (st : ZnSt z TI TO i1 i2 a b i h) {c : Addr} (hc : c ∈ [z, TI, TO, i1, i2]) : ∃ o, h.get? c = some o ∧ ∀ v, o.data ≠ .cell v := by
  obtain ⟨s1, s2, ⟨_, _, s3⟩, ⟨o4, e4, _, d4⟩, ⟨o5, e5, _, d5⟩⟩ := st
  simp only [List.mem_cons, List.not_mem_nil, or_false] at hc
  rcases hc with rfl | rfl | rfl | rfl | rfl
  · exact ⟨_, s1, fun _ => nofun⟩
  · exact ⟨_, s2, fun _ => nofun⟩
  · exact ⟨_, s3, fun _ => nofun⟩
  · exact ⟨o4, e4, fun _ z => by rw [d4] at z; cases z⟩
  · exact ⟨o5, e5, fun _ z => by rw [d5] at z; cases z⟩
theorem turn_zipN {P : Program} {w : World} {K : PySem.W.Frag} {elts : List Expr} {kk : Nat} {tpos : Pos} {a b z TI TO i1 i2 : Addr} (S : ZipSep2 z TI TO i1 i2 [i1, a] [i2, b]) (ha : a ≠ i1) (hb : b ≠ i2) :
    Turn P w K (.Tuple elts kk tpos) (Itn K a b) [z, TI, TO, i1, i2] z (ZnSt z TI TO i1 i2 a b) where
  mem := by simp
  obj := fun i h st c hc => zn_obj st hc
  keep := fun i h h' st k => ⟨k z (by simp) _ st.1, k TI (by simp) _ st.2.1, (let ⟨x, y, e⟩ := st.2.2.1; ⟨x, y, k TO (by simp) _ e⟩), st.2.2.2.1.at fun o q => k i1 (by simp) o q, st.2.2.2.2.at fun o q => k i2 (by simp) o q⟩
  item := by
    intro X hP hw hK hc i pins s σ H E I hf st hg
    subst hP hw hK
    obtain ⟨xs, ys, x, y, qx, qy, ex, ey⟩ := hg
    obtain ⟨us, ru, pu, _⟩ := I.list qx
    obtain ⟨vs, rv, pv, _⟩ := I.tuple qy
    have hh : X.A.in1.handled = none := I.ok.hd hc
    have lu : i < us.length := by rw [← ru.length]; exact (List.getElem?_eq_some_iff.mp ex).1
    have lv : i < vs.length := by rw [← rv.length]; exact (List.getElem?_eq_some_iff.mp ey).1
    have W := WalksT.zipD2 (prog := X.prog) (w := X.w) (A := X.A) S (Draws.list hh i1 a ha us.toArray) (Draws.tuple hh i2 b hb vs.toArray)
    refine W.item i s _ E (by simp; omega) ⟨st.1, st.2.1, st.2.2.1, ⟨st.2.2.2.1, pu.isList⟩, ⟨st.2.2.2.2, pv⟩⟩ fun T vals h' tk hP hT ht hm hk => ?_
    obtain ⟨u, v, hu, hv, rfl⟩ := hP
    obtain ⟨u', hu', r1⟩ := ru.get ex
    obtain ⟨v', hv', r2⟩ := rv.get ey
    obtain rfl : u' = u := Option.some.inj (hu'.symm.trans (by simpa using hu))
    obtain rfl : v' = v := Option.some.inj (hv'.symm.trans (by simpa using hv))
    refine ⟨.ref T, rfl, W.go elts kk tpos i T { s with heap := h', toks := tk } _ E hm fun h2 st2 hk2 => ?_⟩
    have new : ObjOk X.prog X.w (upd H T (.tup [x, y])) h2 T (.tup [x, y]) := ⟨by show 2 ≤ sizeLine; decide, [u', v'], .cons r1 (.cons r2 .nil), ht.at fun o e => hk2 T o (W.apart i T h' hm) e⟩
    have I1 := I.turnedNew (t' := tk) (ch := [z, TI, TO, i1, i2]) (fun c o n e => hk2 c o (fun q => n (by simp at q ⊢; rcases q with h | h | h | h <;> simp [h])) (hk c o (fun q => n (by simp at q ⊢; rcases q with h | h | h | h <;> simp [h])) e)) hf hT new
    refine ⟨.ref T, _, I1, rfl, ⟨T, x, y, rfl, I.hok.fresh hT, rfl, fun l hl => by rw [I.list_inj hl qx]; exact ex, fun l hl => by rw [I.tuple_inj hl qy]; exact ey⟩, ⟨st2.1, st2.2.1, st2.2.2.1, st2.2.2.2.1.1, st2.2.2.2.2.1⟩, fun c hcm => ?_⟩
    obtain ⟨o, e, _⟩ := zn_obj st hcm
    rw [upd_ne (Nat.ne_of_lt (Nat.lt_of_lt_of_le (Heap.lt_size e) hT))]
    exact (hf c hcm).1
  done := by
    intro X hP hw hK hc i pins s σ H E I hf st hg
    subst hP hw hK
    obtain ⟨xs, ys, qx, qy, ex, ey⟩ := hg
    obtain ⟨us, ru, pu, _⟩ := I.list qx
    obtain ⟨vs, rv, pv, _⟩ := I.tuple qy
    have hh : X.A.in1.handled = none := I.ok.hd hc
    have lu : us.length = i := by rw [← ru.length]; exact ex
    have lv : vs.length = i := by rw [← rv.length]; exact ey
    have W := WalksT.zipD2 (prog := X.prog) (w := X.w) (A := X.A) S (Draws.list hh i1 a ha us.toArray) (Draws.tuple hh i2 b hb vs.toArray)
    rw [show min us.toArray.size vs.toArray.size = i by simp; omega] at W
    exact W.done s _ E ⟨st.1, st.2.1, st.2.2.1, ⟨st.2.2.2.1, pu.isList⟩, ⟨st.2.2.2.2, pv⟩⟩ fun h' tk hk => ⟨rfl, I.turnedL (t' := tk) (ch := [z, TI, TO, i1, i2]) (fun c o n e => hk c o (fun q => n (by simp at q ⊢; rcases q with h | h | h | h <;> simp [h])) e) hf⟩
  self := fun A i s Q E st h => wpAny_pyIter_zip st.1 h
def rZipN (K : PySem.W.Frag) (vs : List V) (H1 : Hp) (R : It → Hp → Prop) : Prop := ∃ a b xs ys, vs = [.ref a, .ref b] ∧ SqL K H1 a xs ∧ SqT K H1 b ys ∧ R (Itn K a b) H1
def iZipN (K : PySem.W.Frag) (ta : TA) : TI := fun σ H R => ta σ H fun vs H1 => rZipN K vs H1 R
theorem pi_zipN {X : Cx} {K : PySem.W.Frag} {e e2 : Expr} {ta : TA} {p pos tpos : Pos} {elts : List Expr} {kk : Nat} (h : X.K = K) (hg : Gl X "zip") (hm : X.mg "zip" = none) (ha : PA X [e, e2] ta)
    (hs : starEach [e, e2] X.env = (false, eval e X.env) :: starEach [e2] X.env := by rfl) (hpl : (backTo pos (starEach [e2] X.env)).any (·.1) = false := by rfl) :
    PI X (.Tuple elts kk tpos) (.Call (.Name "zip" p) [e, e2] [] pos) (iZipN K ta) := by
  subst h
  refine ⟨fun pins s σ H R I h => Call_ (ld_blt I hg hm PyProof.Rows.boot_zip (PyProof.Rows.callWith_type1 (thn (ha.run pos pins s σ H _ I h) fun us s1 z => ?_) hs hpl))⟩
  obtain ⟨vs, H1, I1, r1, a, b, xs, ys, rfl, qx, qy, q⟩ := z
  cases r1 with
  | cons ra rr =>
    obtain ⟨ub, rfl, rb⟩ := vals1 rr
    cases ra
    cases rb
    obtain ⟨us, ru, pu, _⟩ := I1.list qx
    obtain ⟨vs, rv, pv, _⟩ := I1.tuple qy
    have lb : b < s1.heap.objs.size := by obtain ⟨_, e, _⟩ := id pv; exact Heap.lt_size e
    refine zip_begins2 (begins_list a us.toArray) (begins_tuple b vs.toArray) pu.isList pv fun h' hz hTI hTO g1 g2 hsz hk => wpAny_pyIter_zip hz ?_
    have S := zip_sep2 (N := s1.heap.objs.size) (fp1 := [a]) (fp2 := [b]) (fun c hc => by rw [List.mem_singleton.mp hc]; exact pu.lt) (fun c hc => by rw [List.mem_singleton.mp hc]; exact lb)
    refine ⟨_, _, _, _, H1, rfl, I1.kept (t' := s1.toks) hk, turn_zipN S (Nat.ne_of_lt pu.lt) (Nat.ne_of_lt (Nat.lt_succ_of_lt lb)), ⟨hz, hTI, ⟨_, _, hTO⟩, ⟨_, g1, rfl, rfl⟩, ⟨_, g2, rfl, rfl⟩⟩, fun c hc => ?_, q⟩
    have hle : s1.heap.objs.size ≤ c := by
      simp only [List.mem_cons, List.not_mem_nil, or_false] at hc
      rcases hc with rfl | rfl | rfl | rfl | rfl
      · exact Nat.le_add_right _ 4
      · exact Nat.le_add_right _ 2
      · exact Nat.le_add_right _ 3
      · exact Nat.le_refl _
      · exact Nat.le_add_right _ 1
    exact I1.fpOk hle (I1.hok.fresh hle)
theorem k_iZipN {K : PySem.W.Frag} {ta : TA} {σ : L2.St} {H : Hp} {R : It → Hp → Prop} (q : ta σ H fun vs H1 => rZipN K vs H1 R) : iZipN K ta σ H R := q
theorem k_zipNx {K : PySem.W.Frag} {H : Hp} {R : It → Hp → Prop} {a b : Addr} {xs ys : List V} (hx : SqL K H a xs) (hy : SqT K H b ys) (q : R (Itn K a b) H) : rZipN K [.ref a, .ref b] H R := ⟨a, b, xs, ys, rfl, hx, hy, q⟩
theorem zipN_it {K : PySem.W.Frag} {a b : Addr} {xs ys : List V} (hl : xs.length = ys.length) : PairIt (Itn K a b) xs.length (fun i => xs.getD i .non) (fun i => ys.getD i .non) (fun H => SqL K H a xs ∧ SqT K H b ys) where
  go := fun i H h c => ⟨xs, ys, _, _, h.1, h.2, get_some c, get_some (by omega)⟩
  stop := fun H h => ⟨xs, ys, h.1, h.2, rfl, hl.symm⟩
  yld := fun i H x H' h c ⟨T, y, z, e, hT, eH, hy, hz⟩ => ⟨T, e, hT, by
    have e1 := hy xs h.1
    have e2 := hz ys h.2
    rw [get_some c] at e1
    rw [get_some (by omega)] at e2
    rw [eH, Option.some.inj e1, Option.some.inj e2]⟩
/-! a tuple made of a list, known to be bare; its count -/
def SqF (H : Hp) (a : Addr) (xs : List V) : Prop := ∃ o, H a = some (.frz o (.tup xs)) ∧ o.dict = none
theorem SqF.sq {K : PySem.W.Frag} {H : Hp} {a : Addr} {xs : List V} (h : SqF H a xs) : SqT K H a xs := let ⟨o, e, _⟩ := h; .inl (.inr ⟨o, e⟩)
theorem SqF.same {H H' : Hp} (e : Same H H') {a : Addr} {xs : List V} (h : SqF H a xs) : SqF H' a xs := let ⟨o, g, d⟩ := h; ⟨o, e _ _ g, d⟩
theorem SqF.but {H H' : Hp} {l : Addr} {ys : List V} (e : But l H H') (hl : H l = some (.lst ys)) {a : Addr} {xs : List V} (h : SqF H a xs) : SqF H' a xs := let ⟨o, g, d⟩ := h; ⟨o, e _ _ (ne_of g hl (by intro z; cases z)) g, d⟩
def rTupF (K : PySem.W.Frag) : List V → Hp → VK → Prop := fun xs H Q => ∃ p ys, xs = [.ref p] ∧ SqL K H p ys ∧ ∀ l o, H l = none → o.dict = none → Q (.ref l) (upd H l (.frz o (.tup ys)))
theorem call_tupF {X : Cx} : CallR X (.type "tuple") (rTupF X.K) := by
  rintro pins s σ H xs us Q I r ⟨p, ys, rfl, hq, q⟩
  obtain ⟨u, rfl, rx⟩ := vals1 r
  cases rx
  obtain ⟨its, ri, pl, hz⟩ := I.list hq
  have hlen := ri.length
  refine call_tuple_list pl.isList (fun h' kp => ?_) (by simp only [List.size_toArray]; omega)
  have I1 := I.kept (t' := s.toks) kp
  have e := Heap.get?_push_size h' (o := { cls := .type "tuple", data := .seq its.toArray }) rfl
  exact ⟨.ref h'.objs.size, _, I1.laid (t' := s.toks) (fun b o e => Heap.get?_push_of_some _ e) (Nat.le_refl _) (show ObjOk X.prog X.w _ _ _ (.frz _ (.tup ys)) from ⟨e, hz, its, ri, IsTup.new _ _⟩), rfl, q _ _ (I1.hok.fresh (Nat.le_refl _)) rfl⟩
def rTupV (K : PySem.W.Frag) : List V → Hp → VK → Prop := fun xs H Q => rTupU K xs H Q ∨ rTupF K xs H Q
theorem call_tupV {X : Cx} : CallR X (.type "tuple") (rTupV X.K) := fun pins s σ H xs us Q I r h => h.elim (call_tupU pins s σ H xs us Q I r) (call_tupF pins s σ H xs us Q I r)
theorem k_tupF {K : PySem.W.Frag} {H : Hp} {Q : VK} {p : Addr} {xs : List V} (h : SqL K H p xs) (q : ∀ l H', H l = none → Same H H' → SqF H' l xs → Q (.ref l) H') : rTupV K [.ref p] H Q := .inr ⟨p, xs, rfl, h, fun l o hl d => q l _ hl (same_new hl) ⟨o, upd_same, d⟩⟩
theorem k_tupL {K : PySem.W.Frag} {H : Hp} {Q : VK} {p : Addr} {xs : List V} (h : SqL K H p xs) (q : ∀ l H', H l = none → Same H H' → H' l = some (.tup xs) → Q (.ref l) H') : rTupV K [.ref p] H Q := .inl ⟨p, xs, rfl, .inl ⟨h, fun l hl => q l _ hl (same_new hl) upd_same⟩⟩
theorem k_tupT {K : PySem.W.Frag} {H : Hp} {Q : VK} {p : Addr} {xs : List V} (h : SqT K H p xs) (q : Q (.ref p) H) : rTupV K [.ref p] H Q := .inl ⟨p, xs, rfl, .inr ⟨h, q⟩⟩
def rCntT (K : PySem.W.Frag) (x y : V) (H : Hp) (Q : VK) : Prop := ∃ p xs d ds, x = .ref p ∧ SqT K H p xs ∧ DpAll K H xs ds ∧ Dp K H y d ∧ PyData.plainAll ds = true ∧ d.plain = true ∧ PyData.depthAll ds ≤ 32 ∧ Q (.int ((ds.countP fun z => PyData.eqv z d : Nat) : Int)) H
def rBare (x : V) (H : Hp) (P : Prop) : Prop := (∃ p xs, x = .ref p ∧ SqF H p xs) ∧ P
def tCntT (K : PySem.W.Frag) (to te : TE) : TE := fun σ H Q => to σ H fun x H1 => rBare x H1 (te σ H1 fun y H2 => rCntT K x y H2 Q)
theorem pe_cntT {X : Cx} {K : PySem.W.Frag} {k : Nat} {o e : Expr} {to te : TE} {apos cpos : Pos} (h : X.K = K) (hr : Room k X.A) (ho : PE X o to) (he : PE X e te)
    (hb : attributeBase o "count" X.env (eval o X.env) = eval o X.env := by rfl)
    (hw : ((backTo cpos (starEach [e] X.env)).all (fun x => !x.1) && (backToKw cpos (keywordEach [] X.env)).all (fun x => x.1.isSome) && decide ([e].length + ([] : List Keyword).length + (if ([] : List Keyword).isEmpty then 0 else 1) < 30)) = true := by rfl)
    (hn : (apos.endLine == cpos.line) = true := by rfl) (hs : starEach [e] X.env = (false, eval e X.env) :: starEach [] X.env := by rfl) :
    PE X (.Call (.Attribute o "count" apos) [e] [] cpos) (tCntT K to te) := by
  subst h
  refine ⟨fun pins s σ H Q I h => wpAny_Call_method_late hb hw hn rfl (thn (ho.run pins s σ H _ I h) fun v s1 z => ?_)⟩
  obtain ⟨x, H1, I1, r1, ⟨p, xs, rfl, ob, ep, dn⟩, q⟩ := z
  cases r1
  obtain ⟨hp, _, its, _, o2, e2, c2, _⟩ := I1.hok p _ ep
  obtain rfl : ob = o2 := Option.some.inj (hp.symm.trans e2)
  refine ⟨"tuple", "tuple.count", PySem.F.plainAttrs_tuple, PySem.F.slot_tuple_count, PySem.F.type_tuple_count, ⟨_, hp, c2⟩, fun a ea => ?_, ?_⟩
  · cases ea
    exact ⟨_, hp, dn⟩
  rw [hs]
  refine Calls.callWith_builtin rfl (Calls.evalArgs_plain (Calls.spliced_cons (thn (he.run pins s1 σ H1 _ I1 q) fun u s2 z => Calls.spliced_nil ?_)))
  obtain ⟨y, H2, I2, r2, p2, ys, d, ds, ex, hq, da, dy, pl, pd, dp, q2⟩ := z
  cases ex
  obtain ⟨vs, rv, pt, _⟩ := I2.tuple hq
  obtain ⟨as, h4⟩ := Dp.readsAll I2 ds _ vs da rv
  obtain ⟨bs, h5⟩ := Dp.reads I2 d y u dy r2
  exact PySem.SeqAt.count_tuple_data pt (show ReadsAll s2.heap vs.toArray.toList ds as from h4) h5 pl pd (by have := hr.units; omega) ⟨.int ((ds.countP fun z => PyData.eqv z d : Nat) : Int), H2, I2.tok _, ⟨_, rfl⟩, q2⟩
theorem k_cntT {K : PySem.W.Frag} {to te : TE} {σ : L2.St} {H : Hp} {Q : VK} (q : to σ H fun x H1 => rBare x H1 (te σ H1 fun y H2 => rCntT K x y H2 Q)) : tCntT K to te σ H Q := q
theorem k_bare {p : Addr} {xs : List V} {H : Hp} {P : Prop} (h : SqF H p xs) (q : P) : rBare (.ref p) H P := ⟨⟨p, xs, rfl, h⟩, q⟩
theorem k_cntTx {K : PySem.W.Frag} {H : Hp} {Q : VK} {p : Addr} {xs : List V} {y : V} {d : PyData} {ds : List PyData} (hq : SqT K H p xs) (da : DpAll K H xs ds) (dy : Dp K H y d) (pl : PyData.plainAll ds = true) (pd : d.plain = true) (dp : PyData.depthAll ds ≤ 32)
    (q : Q (.int ((ds.countP fun z => PyData.eqv z d : Nat) : Int)) H) : rCntT K (.ref p) y H Q := ⟨p, xs, d, ds, rfl, hq, da, dy, pl, pd, dp, q⟩
/-! sorted, insert -/
def rSortU (K : PySem.W.Frag) : List V → Hp → VK → Prop := rSorted K
theorem k_sorted {K : PySem.W.Frag} {H : Hp} {Q : VK} {a : Addr} {ns : List Int} (h : SqL K H a (ns.map V.int)) (c : ns.length < 64) (q : ∀ (ms : List Int) p H', H p = none → Same H H' → ms.Perm ns → ms.Pairwise (· ≤ ·) → H' p = some (.lst (ms.map V.int)) → Q (.ref p) H') : rSorted K [.ref a] H Q :=
  ⟨a, ns, rfl, h, c, fun ms p pm pw hp => q ms p _ hp (same_new hp) pm pw upd_same⟩
def rIns : V → List V → Hp → VK → Prop := fun x vs H Q => ∃ (l : Addr) (xs : List V) (i : Int) (y : V), x = .ref l ∧ vs = [.int i, y] ∧ H l = some (.lst xs) ∧ xs.length < sizeLine ∧ 0 ≤ i ∧ i < 2 ^ 63 ∧ Q .non (upd H l (.lst (xs.take i.toNat ++ [y] ++ xs.drop i.toNat)))
theorem mt_insU {X : Cx} : MtR X "list.insert" rIns := mt_insert
theorem k_ins {l : Addr} {xs : List V} {i : Int} {y : V} {H : Hp} {Q : VK} (h : H l = some (.lst xs)) (c : xs.length < sizeLine) (i0 : 0 ≤ i) (i1 : i < 2 ^ 63) (q : ∀ H', But l H H' → H' l = some (.lst (xs.take i.toNat ++ [y] ++ xs.drop i.toNat)) → Q .non H') : rIns (.ref l) [.int i, y] H Q := ⟨l, xs, i, y, rfl, rfl, h, c, i0, i1, q _ But.upd upd_same⟩
theorem pmkOK {X : Cx} {K : PySem.W.Frag} {e : Expr} {es : List Expr} {ta : TA} {p pos : Pos} {x : Str} {ps : List Str} {sp : Sp} {j k : Nat} (hK : X.K = K) (c : XCl X.prog X.w K X.mg X.base k x ps sp) (hr : Room j X.A) (hk : k + 1 ≤ j) (ha : PA X (e :: es) ta) (hg : Gl X x := by rfl)
    (hdb : (x == ("__debug__" : Str)) = false := by decide) (hs : starEach (e :: es) X.env = (false, eval e X.env) :: starEach es X.env := by rfl) (hpl : (backTo pos (starEach es X.env)).any (·.1) = false := by rfl) :
    PMk X (.Call (.Name x p) (e :: es) [] pos) (tMkO (He.ga K x) sp [] ta) := by
  subst hK
  exact pmkO c hr hk ha hg hdb hs hpl
/-! the head's hook: what the names reach, the interpreter's statics (a class's own attributes are read by them), and a word more -/
def reachS (g : Addr → Option Obj) (n : Nat) : List Addr := He.asD g n ++ [PySem.cStatics]
def obsS (n : Nat) (fa : List He.Fa) (fn : List He.DefD) (ex : PySem.W.Frag → Bool) (g : Addr → Option Obj) : He.AlD × Bool := (He.obsD fa fn (He.frT g (reachS g n)), ex (He.frT g (reachS g n)))
def hookS (n : Nat) (fa : List He.Fa) (fn : List He.DefD) (ex : PySem.W.Frag → Bool) : PySem.W.Hook where
  α := He.AlD × Bool
  obs s := obsS n fa fn ex s.heap.get?
  val _ := (He.valD fn, true)
  says _ h := ∃ K : PySem.W.Frag, K.In h ∧ He.SaysD fa fn K ∧ ex K = true
  of _ _ e := ⟨_, He.frT_in, congrArg (fun z : He.AlD × Bool => z.1) e, congrArg (fun z : He.AlD × Bool => z.2) e⟩
  keeps := fun _ _ _ ⟨K, hK, c⟩ k => ⟨K, PySem.W.Frag.In.keeps hK k, c⟩
theorem obsS_eq {n : Nat} {fa : List He.Fa} {fn : List He.DefD} {ex : PySem.W.Frag → Bool} {g : Addr → Option Obj} {s : Shared} (h : ∀ a, g a = s.heap.get? a) : obsS n fa fn ex g = (hookS n fa fn ex).obs s := by
  obtain rfl : g = s.heap.get? := funext h
  rfl
/-- the same, its addresses given -/
def obsA (as : List Addr) (fa : List He.Fa) (fn : List He.DefD) (ex : PySem.W.Frag → Bool) (g : Addr → Option Obj) : He.AlD × Bool := (He.obsD fa fn (He.frT g as), ex (He.frT g as))
def hookA (as : List Addr) (fa : List He.Fa) (fn : List He.DefD) (ex : PySem.W.Frag → Bool) : PySem.W.Hook where
  α := He.AlD × Bool
  obs s := obsA as fa fn ex s.heap.get?
  val _ := (He.valD fn, true)
  says _ h := ∃ K : PySem.W.Frag, K.In h ∧ He.SaysD fa fn K ∧ ex K = true
  of _ _ e := ⟨_, He.frT_in, congrArg (fun z : He.AlD × Bool => z.1) e, congrArg (fun z : He.AlD × Bool => z.2) e⟩
  keeps := fun _ _ _ ⟨K, hK, c⟩ k => ⟨K, PySem.W.Frag.In.keeps hK k, c⟩
theorem obsA_eq {as : List Addr} {fa : List He.Fa} {fn : List He.DefD} {ex : PySem.W.Frag → Bool} {g : Addr → Option Obj} {s : Shared} (h : ∀ a, g a = s.heap.get? a) : obsA as fa fn ex g = (hookA as fa fn ex).obs s := by
  obtain rfl : g = s.heap.get? := funext h
  rfl
/-! is None, of what is known -/
section
variable {A B : Prop} {a : Addr} {x : Str}
theorem k_nonT (h : A) : if decide (V.non = V.non) = true then A else B := by simpa using h
theorem k_nonF (h : B) : if (!decide (V.non = V.non)) = true then A else B := by simpa using h
theorem k_refT (h : B) : if decide (V.ref a = V.non) = true then A else B := by simpa using h
theorem k_refF (h : A) : if (!decide (V.ref a = V.non)) = true then A else B := by simpa using h
theorem k_blT {b : Bool} (h : B) : if decide (V.bl b = V.non) = true then A else B := by simpa using h
theorem k_blF {b : Bool} (h : A) : if (!decide (V.bl b = V.non)) = true then A else B := by simpa using h
theorem k_strT (h : B) : if decide (V.str x = V.non) = true then A else B := by simpa using h
theorem k_strF (h : A) : if (!decide (V.str x = V.non)) = true then A else B := by simpa using h
end
/-! isinstance of instances, popping at a place -/
structure InsT (K : PySem.W.Frag) (C : Addr) : Prop where
  ha : PySem.W.findIn K (.ref C) "__class__" = some (some (.builtin "object.__class__"))
  hn : PySem.W.specialIn K (.builtin "object.__class__") "__get__" = some (some (.builtin "getset_descriptor.__get__"))
  ht : PySem.W.takesIn K (.builtin "object.__class__") = some true
  hm : PySem.W.mroIn K C (.type "object") = some true
def insB (K : PySem.W.Frag) (x : Str) : Bool := He.eqO (PySem.W.findIn K (.ref (He.ga K x)) "__class__") (some (some (.builtin "object.__class__"))) && (He.eqO (PySem.W.specialIn K (.builtin "object.__class__") "__get__") (some (some (.builtin "getset_descriptor.__get__"))) &&
  (decide (PySem.W.takesIn K (.builtin "object.__class__") = some true) && decide (PySem.W.mroIn K (He.ga K x) (.type "object") = some true)))
theorem insB_ok {K : PySem.W.Frag} {x : Str} (h : insB K x = true) : InsT K (He.ga K x) := by
  obtain ⟨h1, h⟩ := He.ba h
  obtain ⟨h2, h⟩ := He.ba h
  obtain ⟨h3, h4⟩ := He.ba h
  exact ⟨He.eqO_ok h1, He.eqO_ok h2, of_decide_eq_true h3, of_decide_eq_true h4⟩
theorem k_isIns {K : PySem.W.Frag} {H : Hp} {Q : VK} {a C D dx : Addr} {fs : List (Str × V)} {b : Bool} (h : H a = some (.ins C dx fs)) (cl : Cls K C) (t : InsT K C) (hk : PySem.W.kitOne K (.ref C) (.ref D) = some b) (q : Q (.bl b) H) : rIsi K [.ref a, .ref D] H Q :=
  k_isi (.own D) (.base (.ins h cl t.ha t.hn t.ht t.hm)) hk q
theorem k_popAt {l : Addr} {xs : List V} {y : V} {j : Nat} {H : Hp} {Q : VK} (h : H l = some (.lst xs)) (hj : xs[j]? = some y) (c : xs.length ≤ 1000000) (q : ∀ H', But l H H' → H' l = some (.lst (xs.eraseIdx j)) → Q y H') : rPopAt (.ref l) [.int (j : Int)] H Q := by
  have hlt := (List.getElem?_eq_some_iff.mp hj).1
  refine ⟨l, xs, (j : Int), j, y, rfl, rfl, h, by omega, by omega, ?_, hj, q _ But.upd upd_same⟩
  unfold seqIndex?
  rw [if_neg (show ¬ ((j : Int) < 0) by omega)]
  simp [hlt]
/-! zip of two lists, of two tuples -/
def rZipU (K : PySem.W.Frag) (vs : List V) (H1 : Hp) (R : It → Hp → Prop) : Prop := ∃ a b xs ys, vs = [.ref a, .ref b] ∧ ((SqL K H1 a xs ∧ SqL K H1 b ys ∧ R (Itz K a b) H1) ∨ (SqT K H1 a xs ∧ SqT K H1 b ys ∧ R (RZ.ItzT K a b) H1))
def iZipU (K : PySem.W.Frag) (ta : TA) : TI := fun σ H R => ta σ H fun vs H1 => rZipU K vs H1 R
theorem pi_zipU {X : Cx} {K : PySem.W.Frag} {e e2 : Expr} {ta : TA} {p pos tpos : Pos} {elts : List Expr} {kk : Nat} (h : X.K = K) (hg : Gl X "zip") (hm : X.mg "zip" = none) (ha : PA X [e, e2] ta)
    (hs : starEach [e, e2] X.env = (false, eval e X.env) :: starEach [e2] X.env := by rfl) (hpl : (backTo pos (starEach [e2] X.env)).any (·.1) = false := by rfl) :
    PI X (.Tuple elts kk tpos) (.Call (.Name "zip" p) [e, e2] [] pos) (iZipU K ta) := h ▸ RZ.pi_zipA hg hm ha hs hpl
theorem k_iZipU {K : PySem.W.Frag} {ta : TA} {σ : L2.St} {H : Hp} {R : It → Hp → Prop} (q : ta σ H fun vs H1 => rZipU K vs H1 R) : iZipU K ta σ H R := q
theorem k_zipLx {K : PySem.W.Frag} {H : Hp} {R : It → Hp → Prop} {a b : Addr} {xs ys : List V} (hx : SqL K H a xs) (hy : SqL K H b ys) (q : R (Itz K a b) H) : rZipU K [.ref a, .ref b] H R := ⟨a, b, xs, ys, rfl, .inl ⟨hx, hy, q⟩⟩
theorem k_zipTx {K : PySem.W.Frag} {H : Hp} {R : It → Hp → Prop} {a b : Addr} {xs ys : List V} (hx : SqT K H a xs) (hy : SqT K H b ys) (q : R (RZ.ItzT K a b) H) : rZipU K [.ref a, .ref b] H R := ⟨a, b, xs, ys, rfl, .inr ⟨hx, hy, q⟩⟩
theorem zipT_it {K : PySem.W.Frag} {a b : Addr} {xs ys : List V} (hl : xs.length = ys.length) : PairIt (RZ.ItzT K a b) xs.length (fun i => xs.getD i .non) (fun i => ys.getD i .non) (fun H => SqT K H a xs ∧ SqT K H b ys) where
  go := fun i H h c => ⟨xs, ys, _, _, h.1, h.2, get_some c, get_some (by omega)⟩
  stop := fun H h => ⟨xs, ys, h.1, h.2, .inl (Nat.le_refl _)⟩
  yld := fun i H x H' h c ⟨T, y, z, e, hT, eH, hy, hz⟩ => ⟨T, e, hT, by
    have e1 := hy xs h.1
    have e2 := hz ys h.2
    rw [get_some c] at e1
    rw [get_some (by omega)] at e2
    rw [eH, Option.some.inj e1, Option.some.inj e2]⟩
/-! texts: walked, cut at a sign, begun by one -/
section
variable {X : Cx} {σ : L2.St} {H : Hp} {Q : VK} {K : PySem.W.Frag} {g : TG} {tt : TT} {te : TE} {vs : List Nat} {tb : TS} {D : Ends}
def rItS (v : V) (H1 : Hp) (R : It → Hp → Prop) : Prop := ∃ x, v = .str x ∧ R (Its x) H1
theorem k_iStr {R : It → Hp → Prop} (q : te σ H fun v H1 => rItS v H1 R) : iStr te σ H R := q
theorem k_itS {x : Str} {R : It → Hp → Prop} (q : R (Its x) H) : rItS (.str x) H R := ⟨x, rfl, q⟩
theorem k_lcS {z : List Nat} (P : Addr → Nat → List V → Hp → Prop) (h0 : ∀ D H', H D = none → Same H H' → H' D = some (.lst []) → P D 0 [] H')
    (hs : ∀ D (i : Nat) c ys H', H D = none → z[i]? = some c → P D i ys H' → H' D = some (.lst ys) → LcB D g tt te vs σ (.str (SX.S [c])) H' fun H'' => ∃ zs, P D (i + 1) zs H'' ∧ H'' D = some (.lst zs))
    (hd : ∀ D ys H', H D = none → P D z.length ys H' → H' D = some (.lst ys) → Q (.ref D) H') : LcX (Its (SX.S z)) g tt te vs σ H Q := fun D hD => by
  refine ⟨fun i m H' => m = z.length - i ∧ i ≤ z.length ∧ ∃ ys, P D i ys H' ∧ H' D = some (.lst ys), ⟨z.length, by simp, Nat.zero_le _, [], h0 D _ hD (same_new hD) upd_same, upd_same⟩, ?_⟩
  rintro i m H' ⟨rfl, hi, ys, p, e⟩
  by_cases c : i < z.length
  · refine .inr ⟨by show i < (SX.S z).cps.size; simpa using c, fun H'' => ∃ zs, P D (i + 1) zs H'' ∧ H'' D = some (.lst zs), fun H2 ⟨zs, q, e2⟩ => ⟨z.length - (i + 1), by omega, rfl, c, zs, q, e2⟩, fun x H2 y => ?_⟩
    obtain ⟨rfl, d, hd, rfl⟩ := y
    exact hs D i d ys H2 hD (by simpa using hd) p e
  · have ei : i = z.length := by omega
    subst ei
    exact .inl ⟨by show (SX.S z).cps.size ≤ _; simp, hd D ys H' hD p e⟩
theorem k_loopS {z : List Nat} (P : Nat → L2.St → Hp → Prop) (h0 : P 0 σ H) (hs : ∀ (i : Nat) c σ H, z[i]? = some c → P i σ H → g (.str (SX.S [c])) σ H fun σ2 H2 => tb { D with nx := P (i + 1), ct := P (i + 1), bk := D.nx } σ2 H2) (hd : ∀ σ H, P z.length σ H → D.nx σ H) : LoopI (Its (SX.S z)) g tb D σ H := by
  refine ⟨fun i m σ' H' => m = z.length - i ∧ i ≤ z.length ∧ P i σ' H', ⟨z.length, by simp, Nat.zero_le _, h0⟩, ?_⟩
  rintro i m σ' H' ⟨rfl, hi, p⟩
  by_cases c : i < z.length
  · refine .inr ⟨by show i < (SX.S z).cps.size; simpa using c, P (i + 1), fun σ2 H2 q => ⟨z.length - (i + 1), by omega, rfl, c, q⟩, fun x H2 y => ?_⟩
    obtain ⟨rfl, d, hd, rfl⟩ := y
    exact hs i d σ' H2 (by simpa using hd) p
  · have ei : i = z.length := by omega
    subst ei
    exact .inl ⟨by show (SX.S z).cps.size ≤ _; simp, hd σ' H' p⟩
def rSplit : V → List V → Hp → VK → Prop := fun x xs H Q => ∃ a b, x = .str a ∧ xs = [.str b] ∧ (b.length == 0) = false ∧ a.length + 2 ≤ sizeLine ∧ rNewStrs (Txt.split a b) H Q
theorem mt_splitU : MtR X "str.split" rSplit := mt_split
theorem k_split {a : List Nat} {c : Nat} (hc : c < 256) (h : a.length + 2 ≤ sizeLine) (q : ∀ p H', H p = none → Same H H' → H' p = some (.lst ((TL.spl [c] 0 [] a).map fun z => V.str (SX.S z))) → Q (.ref p) H') : rSplit (.str (SX.S a)) [.str (SX.S [c])] H Q := by
  refine ⟨_, _, rfl, rfl, rfl, by rw [SX.S_len]; exact h, fun p hp => q p _ hp (same_new hp) ?_⟩
  rw [upd_same, SX.split_S (by simp) (by simp [hc]), List.map_map]
  rfl
def rStarts : V → List V → Hp → VK → Prop := fun x xs H Q => ∃ a b, x = .str a ∧ xs = [.str b] ∧ Q (.bl (Txt.startswith a b)) H
theorem mt_startsU : MtR X "str.startswith" rStarts := mt_startswith
theorem starts_one (a : List Nat) (c : Nat) : Txt.startswith (SX.S a) (SX.S [c]) = decide (a.head? = some c) := by
  rw [Bool.eq_iff_iff, decide_eq_true_eq]
  have h := PySem.StrLaws.subAt_one (SX.S a) c 0
  show (decide (0 + (SX.S [c]).length ≤ (SX.S a).length) && Builtin.Str.subAt (SX.S a) (SX.S [c]) 0) = true ↔ _
  rw [Bool.and_eq_true, decide_eq_true_eq]
  refine Iff.trans h ?_
  show a[0]? = some c ↔ _
  rw [List.head?_eq_getElem?]
theorem k_starts {a : List Nat} {c : Nat} (q : Q (.bl (decide (a.head? = some c))) H) : rStarts (.str (SX.S a)) [.str (SX.S [c])] H Q := ⟨_, _, rfl, rfl, by rw [starts_one]; exact q⟩
theorem k_all {a : Addr} {bs : List Bool} (h : SqL K H a (bs.map V.bl)) (q : Q (.bl (bs.all id)) H) : rAll K [.ref a] H Q := ⟨a, bs, rfl, h, q⟩
theorem k_inC {c : Nat} {a : List Nat} (q : Q (.bl (decide (c ∈ a))) H) : rInU K (.str (SX.S [c])) (.str (SX.S a)) H Q := k_inS (by rw [SX.in_one]; exact q)
theorem k_niC {c : Nat} {a : List Nat} (q : Q (.bl (!decide (c ∈ a))) H) : rNiU K (.str (SX.S [c])) (.str (SX.S a)) H Q := k_niS (by rw [SX.in_one]; exact q)
/-- text slices -/
theorem k_slFrom {a : List Nat} {i : Nat} (c : a.length ≤ sizeLine) (q : Q (.str (SX.S (a.drop i))) H) : rSlU K (.str (SX.S a)) (some (i : Int)) none H Q := k_slS (by rw [C8.cutS_slice, SX.slice_from (by omega)]; exact q) (by rw [SX.S_len]; exact c)
theorem k_slTo {a : List Nat} {i : Nat} (c : a.length ≤ sizeLine) (q : Q (.str (SX.S (a.take i))) H) : rSlU K (.str (SX.S a)) none (some (i : Int)) H Q := k_slS (by rw [C8.cutS_slice, SX.slice_to (by omega)]; exact q) (by rw [SX.S_len]; exact c)
end
/-! how often, and where, a sign stands in a text -/
section
variable {X : Cx} {H : Hp} {Q : VK} {K : PySem.W.Frag}
def rCntS : V → List V → Hp → VK → Prop := fun x xs H Q => ∃ a b, x = .str a ∧ xs = [.str b] ∧ Q (.int (Txt.count a b)) H
theorem mt_cntS : MtR X "str.count" rCntS := mt_count
theorem cnt_is (c : Nat) : ∀ l : List Nat, PyProof.Rows.cnt c l = (l.countP (· == c) : Int)
  | [] => rfl
  | n :: r => by
    rw [PyProof.Rows.cnt_cons, cnt_is c r, List.countP_cons]
    by_cases h : n = c <;> simp [h] <;> omega
theorem k_cntS {a : List Nat} {c : Nat} (q : Q (.int (a.countP (· == c) : Int)) H) : rCntS (.str (SX.S a)) [.str (SX.S [c])] H Q := ⟨_, _, rfl, rfl, by
  have e : Txt.count (SX.S a) (SX.S [c]) = (a.countP (· == c) : Int) := (PyProof.Rows.count_cnt (SX.S a) c).trans (cnt_is c a)
  rw [e]
  exact q⟩
def rIdxS : V → List V → Hp → VK → Prop := fun x xs H Q => ∃ a b i rest, x = .str a ∧ xs = [.str b] ∧ Builtin.Str.occurrences a b 0 a.length 1 = i :: rest ∧ Q (.int (i : Nat)) H
theorem mt_idxS : MtR X "str.index" rIdxS := mt_sindex
theorem fig_occ {c : Nat} (h : 48 ≤ c ∧ c ≤ 57) : Builtin.Str.occurrences (Str.ofString "0123456789") (SX.S [c]) 0 (Str.ofString "0123456789").length 1 = [c - 48] := by
  have k : ∀ d : Fin 10, Builtin.Str.occurrences (Str.ofString "0123456789") (SX.S [48 + d.1]) 0 (Str.ofString "0123456789").length 1 = [d.1] := by decide +kernel
  have := k ⟨c - 48, by omega⟩
  rwa [show 48 + (⟨c - 48, by omega⟩ : Fin 10).1 = c by show 48 + (c - 48) = c; omega] at this
theorem k_idxFig {c : Nat} (h : 48 ≤ c ∧ c ≤ 57) (q : Q (.int ((c - 48 : Nat) : Int)) H) : rIdxS (.str (Str.ofString "0123456789")) [.str (SX.S [c])] H Q := ⟨_, _, _, _, rfl, rfl, fig_occ h, q⟩
end
/-! a dict that is asked for None, too -/
def optIs : Option Key → Value → Bool
  | none, .none => true
  | none, _ => false
  | some k, v => keyIs k v
theorem optIs_none {v : Value} (h : optIs none v = true) : v = .none := by
  cases v <;> first | rfl | exact absurd h Bool.false_ne_true
theorem optIs_some {k : Key} {v : Value} (h : optIs (some k) v = true) : keyIs k v = true := h
theorem key_none {k : Key} (h : keyIs k Value.none = true) : False := by
  rcases keyIs_shape h with ⟨i, t, _, e⟩ | ⟨x, t, _, e⟩ <;> cases e
def optH (w : World) : Option Key → Int
  | none => NestedKey.hash w .none
  | some k => keyH w k
theorem hash_none {prog : Program} {w : World} {A : Around} {E : Value → Shared → Prop} {s : Shared} {Q : Int → Shared → Prop} (h : Q (optH w none) { s with toks := s.toks + 1 }) : wpAny (model prog w) A (pyHash .none) Q E s :=
  PySem.W.pyHash_slot (T := "NoneType") rfl PySem.F.slot_NoneType_hash PySem.F.entry_NoneType_hash (PySem.F.args_NoneType_hash_1 _) (beq_builtin_none _) (.inl rfl) (wpAny_bind (wpAny_pure (wpAny_bind (wpAny_mkInt (wpAny_pure ⟨_, _, rfl, h⟩)))))
theorem eq_opt {prog : Program} {w : World} {A : Around} {E : Value → Shared → Prop} {s : Shared} : ∀ {a b : Option Key} {u v : Value} {Q : Bool → Shared → Prop}, optIs a u = true → optIs b v = true → Q (decide (a = b)) s → wpAny (model prog w) A (PySem.eqBool u v) Q E s
  | none, none, u, v, Q, hu, hv, h => by
    rw [optIs_none hu, optIs_none hv]
    exact SeqAt.EqAt.same _ _ _ _ _ h
  | none, some k, u, v, Q, hu, hv, h => by
    rw [optIs_none hu]
    rcases keyIs_shape (optIs_some hv) with ⟨i, t, _, e⟩ | ⟨x, t, _, e⟩ <;> subst e
    · exact SeqAt.EqAt.none_int i t _ _ _ _ h
    · exact SeqAt.EqAt.none_str x t _ _ _ _ h
  | some k, none, u, v, Q, hu, hv, h => by
    rw [optIs_none hv]
    rcases keyIs_shape (optIs_some hu) with ⟨i, t, _, e⟩ | ⟨x, t, _, e⟩ <;> subst e
    · exact SeqAt.EqAt.int_none i t _ _ _ _ h
    · exact SeqAt.EqAt.str_none x t _ _ _ _ h
  | some a, some b, u, v, Q, hu, hv, h => (mixKind prog w).eqBool (a := a) (b := b) (optIs_some hu) (optIs_some hv) (by
    have e : decide (a = b) = decide (some a = some b) := by by_cases c : a = b <;> simp [c]
    rw [e]
    exact h)
def optKind (prog : Program) (w : World) : PySem.KeyKind prog w (Option Key) where
  is := optIs
  hash := optH w
  inj := fun v a b ha hb => by
    cases a with
    | none =>
      cases b with
      | none => rfl
      | some k => rw [optIs_none ha] at hb; exact (key_none hb).elim
    | some j =>
      cases b with
      | none => rw [optIs_none hb] at ha; exact (key_none ha).elim
      | some k => exact congrArg some ((mixKind prog w).inj v j k ha hb)
  byValue := fun k v h => by
    cases k with
    | none => rw [optIs_none h]; rfl
    | some k => exact (mixKind prog w).byValue k v h
  pyHash := fun {A E s k v Q} hv h => by
    cases k with
    | none => rw [optIs_none hv]; exact hash_none h
    | some k => exact (mixKind prog w).pyHash (k := k) hv h
  eqBool := fun hu hv h => eq_opt hu hv h
  «strs» := fun k x t v h => by
    cases k with
    | none => exact absurd h Bool.false_ne_true
    | some k => exact (mixKind prog w).strs k x t v h
theorem map_opt {prog : Program} {w : World} {h : Heap} {a : Addr} {f : Key → Option Value} (m : h.MapOf (mixKind prog w) a f) : h.MapOf (optKind prog w) a (fun k => k.bind f) := by
  obtain ⟨o, es, ep, ho, hc, hd, hk, hf⟩ := m
  refine ⟨o, es, ep, ho, hc, hd, fun e he => let ⟨k, h1, h2⟩ := hk e he; ⟨some k, h1, h2⟩, fun k => ?_⟩
  cases k with
  | some k => exact hf k
  | none =>
    show findBy optIs es none = none
    unfold findBy
    rw [Array.find?_eq_none.mpr, Option.map_none]
    intro e he q
    obtain ⟨k, h1, _⟩ := hk e he
    rw [optIs_none q] at h1
    exact key_none h1
def rGetN (x y z : V) (H : Hp) (Q : VK) : Prop := ∃ a kvs, x = .ref a ∧ H a = some (.dK kvs) ∧ ((y = .non ∧ Q z H) ∨ ∃ k, y = kV k ∧ Q ((valV kvs k).getD z) H)
def tGetN (td ty tx : TE) : TE := fun σ H Q => td σ H fun x H1 => ∃ a, x = .ref a ∧ IsD H1 a ∧ ty σ H1 fun y H2 => tx σ H2 fun z H3 => rGetN x y z H3 Q
theorem pe_getN {X : Cx} {k : Nat} {o e f : Expr} {td ty tx : TE} {apos cpos : Pos} (hr : Room k X.A) (ho : PE X o td) (he : PE X e ty) (hf : PE X f tx)
    (m1 : attributeBase o "get" X.env (eval o X.env) = eval o X.env := by rfl)
    (m2 : ((backTo cpos (starEach [e, f] X.env)).all (fun x => !x.1) && (backToKw cpos (keywordEach [] X.env)).all (fun x => x.1.isSome) && decide (([e, f] : List Expr).length + ([] : List Keyword).length + (if ([] : List Keyword).isEmpty then 0 else 1) < 30)) = true := by rfl)
    (m3 : (apos.endLine == cpos.line) = true := by rfl) (m4 : backTo cpos (starEach [e, f] X.env) = [(false, eval e X.env), (false, eval f X.env)] := by rfl) :
    PE X (.Call (.Attribute o "get" apos) [e, f] [] cpos) (tGetN td ty tx) := by
  refine ⟨fun pins s σ H Q I h => ?_⟩
  refine wpAny_Call_method m1 m2 m3 PySem.F.plainAttrs_dict PySem.F.slot_dict_get PySem.F.type_dict_get (thn (ho.run pins s σ H _ I h) fun u s1 ⟨x, H1, I1, rx, a, ex, d, q1⟩ => ?_)
  subst ex
  obtain rfl : u = Value.ref a := rx
  obtain ⟨t1, t2, _⟩ := isD_at I1 d
  refine ⟨t1, t2, ?_⟩
  rw [m4]
  refine Calls.callWith_builtin rfl (Calls.evalArgs_plain (Calls.spliced_cons (thn (he.run pins s1 σ H1 _ I1 q1) fun iv s2 ⟨y, H2, I2, ry, q2⟩ =>
    Calls.spliced_cons (thn (hf.run pins s2 σ H2 _ I2 q2) fun fv s3 ⟨z, H3, I3, rz, b, kvs, eb, eh, q3⟩ => Calls.spliced_nil ?_))))
  obtain rfl : a = b := V.ref.inj eb
  rcases q3 with ⟨ey, q3⟩ | ⟨k, ey, q3⟩
  · subst ey
    obtain rfl : iv = Value.none := ry
    obtain ⟨_, hd, vs, _, dd⟩ := dk_rd I3.hok (.inl eh)
    exact call_meetsIn PySem.F.slot_dict_get dd.typeIs PySem.F.entry_dict_get (PySem.F.args_dict_get_3 _ _ _) (meets_dict_get_default (optKind X.prog X.w) (k := none) (key := .none) a rfl hd fv) ⟨_, map_opt dd.mapOf, ⟨z, H3, I3.tok _, rz, q3⟩⟩
  · exact d_get2 (by have := hr.units; omega) I3 (.inl ⟨kvs, k, .inl eh, ey, rfl⟩) ry rz fun w' s4 I4 rw' => ⟨_, H3, I4, rw', q3⟩
theorem k_getN {td ty tx : TE} {σ : L2.St} {H : Hp} {Q : VK} (q : td σ H fun x H1 => ∃ a, x = .ref a ∧ IsD H1 a ∧ ty σ H1 fun y H2 => tx σ H2 fun z H3 => rGetN x y z H3 Q) : tGetN td ty tx σ H Q := q
theorem k_getD {a : Addr} {kvs : List (Key × V)} {H : Hp} {P : Prop} (h : H a = some (.dK kvs)) (q : P) : ∃ b, V.ref a = .ref b ∧ IsD H b ∧ P := ⟨a, rfl, .inl ⟨kvs, .inl h⟩, q⟩
theorem k_getNone {a : Addr} {kvs : List (Key × V)} {z : V} {H : Hp} {Q : VK} (h : H a = some (.dK kvs)) (q : Q z H) : rGetN (.ref a) .non z H Q := ⟨a, kvs, rfl, h, .inl ⟨rfl, q⟩⟩
theorem k_getStr {a : Addr} {kvs : List (Key × V)} {z : V} {t : Str} {H : Hp} {Q : VK} (h : H a = some (.dK kvs)) (q : Q ((valV kvs (.inr t)).getD z) H) : rGetN (.ref a) (.str t) z H Q := ⟨a, kvs, rfl, h, .inr ⟨.inr t, rfl, q⟩⟩
/-- a dict of two pairs, their keys texts -/
def rDisp2 (p : Addr) (x y x2 y2 : V) (H : Hp) (Q : VK) : Prop := H p = some (.dK []) ∧ ∃ kvs : List (Key × V), [(x, y), (x2, y2)] = kvs.map (fun kv => (kV kv.1, kv.2)) ∧ kvs.length ≤ 15 ∧ Q (.ref p) (upd H p (.dK (mergeK [] kvs)))
theorem k_disp2 {σ : L2.St} {H : Hp} {Q : VK} {tk tv tk2 tv2 : TE} (q : ∀ p H1, H p = none → Same H H1 → H1 p = some (.dK []) → tk σ H1 fun x H2 => tv σ H2 fun y H3 => tk2 σ H3 fun x2 H4 => tv2 σ H4 fun y2 H5 => rDisp2 p x y x2 y2 H5 Q) : tDisp [(tk, tv), (tk2, tv2)] σ H Q := fun p hp => q p _ hp (same_new hp) upd_same
theorem k_disp2x {p : Addr} {z z2 : Str} {y y2 : V} {H : Hp} {Q : VK} (h : H p = some (.dK [])) (n : z2 ≠ z) (q : ∀ H', But p H H' → H' p = some (.dK [(.inr z, y), (.inr z2, y2)]) → Q (.ref p) H') : rDisp2 p (.str z) y (.str z2) y2 H Q := ⟨h, [(.inr z, y), (.inr z2, y2)], rfl, by simp, q _ But.upd (by
  have n2 : ¬ z = z2 := fun e => n e.symm
  rw [upd_same]
  simp [mergeK, putK, n2])⟩
theorem k_addG {K : PySem.W.Frag} {H : Hp} {Q : VK} {a b : Addr} {xs ys : List V} (ha : SqL K H a xs) (hb : SqL K H b ys) (q : ∀ p H', H p = none → Same H H' → H' p = some (.lst (xs ++ ys)) → Q (.ref p) H') (c : xs.length + ys.length ≤ sizeLine) : rAddU K (.ref a) (.ref b) H Q :=
  .inr (.inr (.inr (.inr ⟨a, b, xs, ys, rfl, rfl, ha, hb, c, fun p hp => q p _ hp (same_new hp) upd_same⟩)))
/-! C(..) whose __init__ may raise -/
section
variable {X : Cx} {W : WX} {e : Expr} {es : List Expr} {p pos : Pos} {t : TA} {C x : Str} {ps : List Str} {sp : Sp} {j k : Nat}
def tMakeS (C : Addr) (sp : Sp) (E : L2.St → XK) (t : TA) : TE := fun σ H Q => t σ H fun vs H1 => rMake C sp vs H1 Q (E σ)
theorem pmakeS {K : PySem.W.Frag} (hK : X.K = K) (c : KCl X.prog X.w K X.mg X.base k C ps sp) (hr : Room j X.A) (hk : k + 1 ≤ j) (tk : Takes X W) (ha : PA X (e :: es) t) (hg : Gl X C := by rfl)
    (hdb : (C == ("__debug__" : Str)) = false := by decide) (hst : starEach (e :: es) X.env = (false, eval e X.env) :: starEach es X.env := by rfl) (hpl : (backTo pos (starEach es X.env)).any (·.1) = false := by rfl) :
    PE X (.Call (.Name C p) (e :: es) [] pos) (tMakeS (He.ga K C) sp (WE W) t) := by
  subst hK
  obtain ⟨f, fd, M, F, hm, b⟩ := c.ex
  refine ⟨fun pins s σ H Q I h => wpAny_Call_Name_kw (ld_glob I hg hm ?_ hdb)⟩
  refine PySem.W.callWith_K (h₀ := X.base) I.ok.mod.kin M.kp (thn (ha.run pos pins s σ H _ I h) fun us s1 ⟨vs, H1, I1, r, q⟩ => ⟨I1.kIn, ?_⟩) hst hpl
  have q2 := q (s1.heap.objs.size + 1) s1.heap.objs.size (I1.hok.fresh (Nat.le_succ _)) (I1.hok.fresh (Nat.le_refl _)) (Nat.ne_of_lt (Nat.lt_succ_self _))
  have J := Inv.made (C := He.ga X.K C) I1
  have r2 : Vals (V.ref (s1.heap.objs.size + 1) :: vs) (Value.ref (s1.heap.objs.size + 1) :: us) := .cons rfl r
  have hl : (Value.ref (s1.heap.objs.size + 1) :: us).length = ps.length := by
    rw [← r2.length]
    exact F.len _ _ _ _ q2
  have bb := b _ (Value.ref (s1.heap.objs.size + 1) :: us) J.kIn (by rw [List.append_nil]; exact hl)
  rw [List.append_nil] at bb
  refine wpAny_call (make_map (f := f) I1.kIn M.makes M.init (beq_iff_eq.mp M.fn) (codeAny_mono (F.run _ X.stack _ _ ⟨Value.ref (s1.heap.objs.size + 1) :: us, []⟩ _ _ _ _ ((hr.mono hk).make (He.ga X.K C) us []) (J.env0.make (He.ga X.K C) us []) bb r2 q2) fun rr s' z => ?_))
  cases rr with
  | error er => exact passAt tk σ pins _ _ er s' J z
  | ok fl =>
    cases fl with
    | ret u =>
      obtain ⟨v, H', I3, rv, ev, q3⟩ := J.after z
      subst ev
      exact ⟨rv, ⟨V.ref (s1.heap.objs.size + 1), H', I3, rfl, q3⟩⟩
    | next => exact z.elim
    | brk => exact z.elim
    | cont => exact z.elim
theorem k_makeS {σ : L2.St} {H : Hp} {Q : VK} {C : Addr} (q : t σ H fun vs H1 => rMake C sp vs H1 Q (WE W σ)) : tMakeS C sp (WE W) t σ H Q := q
end
/-- tuples stay while an instance changes -/
theorem seqT_butI {K : PySem.W.Frag} {H H' : Hp} {l C dx : Addr} {fs : List (Str × V)} (e : But l H H') (hl : H l = some (.ins C dx fs)) {a : Addr} {xs : List V} (h : SqT K H a xs) : SqT K H' a xs := by
  rcases h with (h | ⟨o, h⟩) | h
  · exact .inl (.inl (e _ _ (ne_of h hl (by intro z; cases z)) h))
  · exact .inl (.inr ⟨o, e _ _ (ne_of h hl (by intro z; cases z)) h⟩)
  · exact .inr h
/-! reversed(range(n)) -/
def rRevR (x : V) (H1 : Hp) (R : It → Hp → Prop) : Prop := ∃ n : Int, x = .int n ∧ (-(2 ^ 62) ≤ (0 : Int) ∧ (0 : Int) < 2 ^ 62 ∧ -(2 ^ 62) ≤ n ∧ n < 2 ^ 62 ∧ R (Itc (0 + (((n - 0).toNat : Nat) : Int) - 1) (-1) (n - 0).toNat) H1)
theorem k_revR {te : TE} {σ : L2.St} {H : Hp} {R : It → Hp → Prop} (q : te σ H fun x H1 => rRevR x H1 R) : iRevR (tRg1 te) σ H R := q
theorem k_revX {n : Nat} {H : Hp} {R : It → Hp → Prop} (c : n < 1000000) (q : R (Itc ((n : Int) - 1) (-1) n) H) : rRevR (.int (n : Int)) H R := by
  refine ⟨n, rfl, by omega, by omega, by omega, by omega, ?_⟩
  rw [Int.sub_zero, Int.toNat_natCast, Int.zero_add]
  exact q
theorem k_loopRev {σ : L2.St} {H : Hp} {D : Ends} {tb : TS} {j n : Nat} (P : Nat → L2.St → Hp → Prop) (h0 : P 0 σ H) (hs : ∀ (i : Nat) σ H, i < n → P i σ H → tb { D with nx := P (i + 1), ct := P (i + 1), bk := D.nx } (σ.set j (some (.int ((n - 1 - i : Nat) : Int)))) H)
    (hd : ∀ σ H, P n σ H → D.nx σ H) : LoopI (Itc ((n : Int) - 1) (-1) n) (gName j) tb D σ H := for_rangeC P h0 (fun i σ H hi p => by
      show tb _ (σ.set j (some (.int ((n : Int) - 1 + (i : Nat) * (-1))))) H
      rw [show (n : Int) - 1 + (i : Nat) * (-1) = ((n - 1 - i : Nat) : Int) by omega]
      exact hs i σ H hi p) hd
/-! a tuple's things, numbered -/
def Iet (K : PySem.W.Frag) (a : Addr) : It where
  go i H := ∃ xs x, SqT K H a xs ∧ xs[i]? = some x
  yld i H v H' := ∃ T x, v = .ref T ∧ H T = none ∧ H' = upd H T (.tup [.int (i : Nat), x]) ∧ ∀ xs, SqT K H a xs → xs[i]? = some x
  stop i H := ∃ xs, SqT K H a xs ∧ xs.length = i
def EtSt (e it a : Addr) (i : Nat) (h : Heap) : Prop := (∃ old, IsEnum h e it (i : Int) old) ∧ h.IsTupleIter it a i ∧ e ≠ it
theorem et_obj {e it a : Addr} {i : Nat} {h : Heap} (st : EtSt e it a i h) {c : Addr} (hc : c ∈ [e, it]) : ∃ o, h.get? c = some o ∧ ∀ v, o.data ≠ .cell v := by
  obtain ⟨⟨_, s1⟩, ⟨o4, e4, _, d4⟩, _⟩ := st
  simp only [List.mem_cons, List.not_mem_nil, or_false] at hc
  rcases hc with rfl | rfl
  · exact ⟨_, s1, fun _ => nofun⟩
  · exact ⟨o4, e4, fun _ z => by rw [d4] at z; cases z⟩
theorem turn_enumT {P : Program} {w : World} {K : PySem.W.Frag} {elts : List Expr} {kk : Nat} {tpos : Pos} {a e it : Addr} (ne : e ≠ it) (nea : e ≠ a) (ha : a ≠ it) :
    Turn P w K (.Tuple elts kk tpos) (Iet K a) [e, it] e (EtSt e it a) where
  mem := by simp
  obj := fun i h st c hc => et_obj st hc
  keep := fun i h h' st k => ⟨(let ⟨old, z⟩ := st.1; ⟨old, k e (by simp) _ z⟩), st.2.1.at fun o q => k it (by simp) o q, st.2.2⟩
  item := by
    intro X hP hw hK hc i pins s σ H E I hf st hg
    subst hP hw hK
    obtain ⟨xs, x, qx, ex⟩ := hg
    obtain ⟨us, ru, pu, _⟩ := I.tuple qx
    have hh : X.A.in1.handled = none := I.ok.hd hc
    have lu : i < us.length := by rw [← ru.length]; exact (List.getElem?_eq_some_iff.mp ex).1
    have W := WalksT.enumerateD (prog := X.prog) (w := X.w) (A := X.A) (Draws.tuple hh it a ha us.toArray) e ne (by simp [ne, nea]) (by simp)
    refine W.item i s _ E (by simpa using lu) ⟨st.1, st.2.1, pu⟩ fun T vals h' tk hP hT ht hm hk => ?_
    obtain ⟨t, u, hu, rfl⟩ := hP
    obtain ⟨u', hu', r1⟩ := ru.get ex
    obtain rfl : u' = u := Option.some.inj (hu'.symm.trans (by simpa using hu))
    refine ⟨.ref T, rfl, W.go elts kk tpos i T { s with heap := h', toks := tk } _ E hm fun h2 st2 hk2 => ?_⟩
    have new : ObjOk X.prog X.w (upd H T (.tup [.int (i : Nat), x])) h2 T (.tup [.int (i : Nat), x]) := ⟨by show 2 ≤ sizeLine; decide, [.int i t, u'], .cons ⟨_, rfl⟩ (.cons r1 .nil), ht.at fun o e => hk2 T o (W.apart i T h' hm) e⟩
    have I1 := I.turnedNew (t' := tk) (ch := [e, it]) (fun c o n e => hk2 c o n (hk c o n e)) hf hT new
    refine ⟨.ref T, _, I1, rfl, ⟨T, x, rfl, I.hok.fresh hT, rfl, fun l hl => by rw [I.tuple_inj hl qx]; exact ex⟩, ⟨?_, st2.2.1, st.2.2⟩, fun c hcm => ?_⟩
    · obtain ⟨old, z⟩ := st2.1
      exact ⟨old, by rw [show ((i + 1 : Nat) : Int) = ((i : Nat) : Int) + 1 by omega]; simpa using z⟩
    obtain ⟨o, e, _⟩ := et_obj st hcm
    rw [upd_ne (Nat.ne_of_lt (Nat.lt_of_lt_of_le (Heap.lt_size e) hT))]
    exact (hf c hcm).1
  done := by
    intro X hP hw hK hc i pins s σ H E I hf st hg
    subst hP hw hK
    obtain ⟨xs, qx, ex⟩ := hg
    obtain ⟨us, ru, pu, _⟩ := I.tuple qx
    have hh : X.A.in1.handled = none := I.ok.hd hc
    have lu : us.length = i := by rw [← ru.length]; exact ex
    have W := WalksT.enumerateD (prog := X.prog) (w := X.w) (A := X.A) (Draws.tuple hh it a ha us.toArray) e ne (by simp [ne, nea]) (by simp)
    rw [show us.toArray.size = i by simpa using lu] at W
    exact W.done s _ E ⟨st.1, st.2.1, pu⟩ fun h' tk hk => ⟨rfl, I.turnedL (t' := tk) (ch := [e, it]) (fun c o n z => hk c o n z) hf⟩
  self := fun A i s Q E st h => let ⟨⟨_, z⟩, _⟩ := st; wpAny_pyIter_enum z h
set_option maxHeartbeats 1000000 in
theorem enum_new {v : Value} {ob : Obj} {Bh : Heap → Prop} (B : Begins v ob Bh) :
    Meets (Builtin.«enumerate.__new__» ⟨[.type "enumerate", v], []⟩) (fun _ R z => Bh z.heap ∧
      R (.ok (.ret (.ref (z.heap.push ob).objs.size))) { z with heap := (z.heap.push ob).push { cls := .type "enumerate", data := .fields #[.none, .bool false, .ref z.heap.objs.size, rawInt 0, .none, .none] } }) :=
  .of_wp fun P w A R z g => by
    obtain ⟨hp, gs, dp, tk, os⟩ := z
    obtain ⟨b, g⟩ := g
    have _u := sub_enumerate
    have begun : ∀ {A2 : Around} {X : Value → Shared → Prop} {Y : Value → Shared → Prop}, Y (.ref hp.objs.size) ⟨hp.push ob, gs, dp, tk, os⟩ → wpAny (model P w) A2 (pyIter v) Y X ⟨hp, gs, dp, tk, os⟩ := fun q => B.iter P w _ _ ⟨hp, gs, dp, tk, os⟩ _ b q
    wp_walk using begun
    refine wpAny_stack_any fun _ => wpAny_pure ?_
    split
    · rename_i c _ _ _ _ _
      cases (c == Value.type "enumerate") <;> (wp_walk using begun; exact ⟨_, rfl, g⟩)
    · wp_walk using begun
      exact ⟨_, rfl, g⟩
theorem enum_made {P : Program} {w : World} {A : Around} {E : Value → Shared → Prop} {z : Shared} {v : Value} {ob : Obj} {Bh : Heap → Prop} {Q : Value → Shared → Prop} (B : Begins v ob Bh) (b : Bh z.heap)
    (q : ∀ h', IsEnum h' (z.heap.objs.size + 1) z.heap.objs.size 0 .none → h'.get? z.heap.objs.size = some ob → (∀ c o, z.heap.get? c = some o → h'.get? c = some o) → Q (.ref (z.heap.objs.size + 1)) { z with heap := h' }) :
    wpAny (model P w) A (call (.type "enumerate") [v]) Q E z := by
  refine callType_new F.called_enumerate (by decide) (F.typeCall_enumerate_1 _) (F.newCall_enumerate_1 _) (fun o => F.args_object_init_2 o _) F.entry_enumerate_new (enum_new B) ⟨b, ?_⟩
  have n1 : (z.heap.push ob).objs.size = z.heap.objs.size + 1 := Heap.size_push ..
  show _ ∧ _
  rw [n1]
  have he : IsEnum ((z.heap.push ob).push { cls := .type "enumerate", data := .fields #[.none, .bool false, .ref z.heap.objs.size, rawInt 0, .none, .none] }) (z.heap.objs.size + 1) z.heap.objs.size 0 .none := by
    have t := Heap.get?_push_size (z.heap.push ob) (o := { cls := .type "enumerate", data := .fields #[.none, .bool false, .ref z.heap.objs.size, rawInt 0, .none, .none] }) rfl
    rwa [n1] at t
  exact ⟨⟨_, he, rfl⟩, q _ he (Heap.get?_push_of_some _ (Heap.get?_push_size _ B.free)) fun c o x => Heap.get?_push_of_some _ (Heap.get?_push_of_some _ x)⟩
def rEnumT (K : PySem.W.Frag) (vs : List V) (H1 : Hp) (R : It → Hp → Prop) : Prop := ∃ a xs, vs = [.ref a] ∧ SqT K H1 a xs ∧ R (Iet K a) H1
def iEnumT (K : PySem.W.Frag) (ta : TA) : TI := fun σ H R => ta σ H fun vs H1 => rEnumT K vs H1 R
theorem pi_enumT {X : Cx} {K : PySem.W.Frag} {e : Expr} {ta : TA} {p pos tpos : Pos} {elts : List Expr} {kk : Nat} (h : X.K = K) (hg : Gl X "enumerate") (hm : X.mg "enumerate" = none) (ha : PA X [e] ta) (hs : starEach [e] X.env = [(false, eval e X.env)] := by rfl) :
    PI X (.Tuple elts kk tpos) (.Call (.Name "enumerate" p) [e] [] pos) (iEnumT K ta) := by
  subst h
  refine ⟨fun pins s σ H R I h => Call_ (ld_blt I hg hm boot_enumerate (PyProof.Rows.callWith_type1 (thn (ha.run pos pins s σ H _ I h) fun us s1 z => ?_) hs rfl))⟩
  obtain ⟨vs, H1, I1, r1, a, xs, rfl, qx, q⟩ := z
  obtain ⟨ua, rfl, ra⟩ := vals1 r1
  cases ra
  obtain ⟨us, ru, pu, _⟩ := I1.tuple qx
  have la : a < s1.heap.objs.size := by obtain ⟨_, e, _⟩ := id pu; exact Heap.lt_size e
  refine enum_made (begins_tuple a us.toArray) pu fun h' he g1 hk => wpAny_pyIter_enum he ?_
  refine ⟨_, _, _, _, H1, rfl, I1.kept (t' := s1.toks) hk, turn_enumT (Nat.succ_ne_self _) (Nat.ne_of_gt (Nat.lt_succ_of_lt la)) (Nat.ne_of_lt la), ⟨⟨_, he⟩, ⟨_, g1, rfl, rfl⟩, Nat.succ_ne_self _⟩, fun c hc => ?_, q⟩
  have hle : s1.heap.objs.size ≤ c := by
    simp only [List.mem_cons, List.not_mem_nil, or_false] at hc
    rcases hc with rfl | rfl
    · exact Nat.le_add_right _ 1
    · exact Nat.le_refl _
  exact I1.fpOk hle (I1.hok.fresh hle)
theorem k_iEnumT {K : PySem.W.Frag} {ta : TA} {σ : L2.St} {H : Hp} {R : It → Hp → Prop} (q : ta σ H fun vs H1 => rEnumT K vs H1 R) : iEnumT K ta σ H R := q
theorem k_enumTx {K : PySem.W.Frag} {H : Hp} {R : It → Hp → Prop} {a : Addr} {xs : List V} (hx : SqT K H a xs) (q : R (Iet K a) H) : rEnumT K [.ref a] H R := ⟨a, xs, rfl, hx, q⟩
theorem enumT_it {K : PySem.W.Frag} {a : Addr} {xs : List V} : PairIt (Iet K a) xs.length (fun i => .int (i : Nat)) (fun i => xs.getD i .non) (fun H => SqT K H a xs) where
  go := fun i H h c => ⟨xs, _, h, get_some c⟩
  stop := fun H h => ⟨xs, h, rfl⟩
  yld := fun i H x H' h c ⟨T, y, e, hT, eH, hy⟩ => ⟨T, e, hT, by
    have := hy xs h
    rw [get_some c] at this
    rw [eH, Option.some.inj this]⟩
end Gx
/-! what never changes stays: tuples, things known, functions -/
namespace Gx
open PySem PySem.Spec PyProof.Rows L2
def Fixt : HO → Prop
  | .tup _ => True
  | .frz _ _ => True
  | .ext _ => True
  | _ => False
def Imm (H H' : Hp) : Prop := ∀ a o, H a = some o → Fixt o → H' a = some o
theorem Imm.refl (H : Hp) : Imm H H := fun _ _ h _ => h
theorem Imm.trans {H H1 H2 : Hp} (a : Imm H H1) (b : Imm H1 H2) : Imm H H2 := fun c o h f => b c o (a c o h f) f
theorem imm_same {H H' : Hp} (e : Same H H') : Imm H H' := fun a o h _ => e a o h
theorem imm_but {H H' : Hp} {l : Addr} {ys : List V} (e : But l H H') (hl : H l = some (.lst ys)) : Imm H H' := fun a o h f => e a o (ne_of h hl (by rintro rfl; exact f)) h
theorem imm_butI {H H' : Hp} {l C dx : Addr} {fs : List (Str × V)} (e : But l H H') (hl : H l = some (.ins C dx fs)) : Imm H H' := fun a o h f => e a o (ne_of h hl (by rintro rfl; exact f)) h
theorem seqT_imm {K : PySem.W.Frag} {H H' : Hp} (e : Imm H H') {a : Addr} {xs : List V} (h : SqT K H a xs) : SqT K H' a xs := by
  rcases h with (h | ⟨o, h⟩) | h
  · exact .inl (.inl (e _ _ h trivial))
  · exact .inl (.inr ⟨o, e _ _ h trivial⟩)
  · exact .inr h
/-- all but two stay -/
def But2 (l m : Addr) (H H' : Hp) : Prop := ∀ a o, a ≠ l → a ≠ m → H a = some o → H' a = some o
theorem But2.refl (l m : Addr) (H : Hp) : But2 l m H H := fun _ _ _ _ h => h
theorem But2.of {H H' : Hp} {l m : Addr} (e : Same H H') : But2 l m H H' := fun a o _ _ h => e a o h
theorem But2.trans {H H1 H2 : Hp} {l m : Addr} (a : But2 l m H H1) (b : But2 l m H1 H2) : But2 l m H H2 := fun c o n1 n2 h => b c o n1 n2 (a c o n1 n2 h)
theorem But2.left {H H' : Hp} {l m : Addr} (e : But l H H') : But2 l m H H' := fun a o n _ h => e a o n h
theorem But2.right {H H' : Hp} {l m : Addr} (e : But m H H') : But2 l m H H' := fun a o _ n h => e a o n h
theorem But2.imm {H H' : Hp} {l m C dx : Addr} {fs : List (Str × V)} {ys : List V} (e : But2 l m H H') (hl : H l = some (.ins C dx fs)) (hm : H m = some (.lst ys)) : Imm H H' := fun a o h f => e a o (ne_of h hl (by rintro rfl; exact f)) (ne_of h hm (by rintro rfl; exact f)) h
/-- what is new here may change -/
theorem But2.same {H H1 H2 : Hp} {l m : Addr} (nl : H l = none) (nm : H m = none) (a : Same H H1) (b : But2 l m H1 H2) : Same H H2 := fun c o h => b c o (ne_of_none h nl) (ne_of_none h nm) (a c o h)
end Gx
/-! a list that will not change any more is known from now on -/
namespace Gx
open PySem PySem.Spec PyProof.Rows L2
theorem inv_frz {X : Cx} {pins : List (Addr × Obj)} {σ : L2.St} {H : Hp} {s : Shared} {l : Addr} {xs : List V} (I : Inv X pins σ H s) (h : H l = some (.lst xs)) : ∃ o, Inv X pins σ (upd H l (.frz o (.lst xs))) s := by
  obtain ⟨hl, its, n, r, e⟩ := id (I.hok l _ h)
  have nl : ∀ {b u}, H b = some u → (∀ ys, u ≠ .lst ys) → b ≠ l := fun {b u} q n z => by
    rw [z, h] at q
    exact n _ (Option.some.inj q).symm
  have I2 := I.un (H' := upd H l (.frz { cls := .type "list", data := .seq its.toArray n } (.lst xs))) (h' := s.heap) (t' := s.toks) ⟨fun b o q _ _ _ => q, fun b o q _ _ _ => ⟨o.slots, q⟩, fun b o q n _ => by rw [upd_ne (fun z => by rw [z, h] at n; cases n)]; exact n, fun b o q _ => ⟨o, q⟩,
    fun b ys q => by rw [upd_ne (nl q (by intro ys z; cases z))]; exact q, fun b o u q => by rw [upd_ne (nl q (by intro ys z; cases z))]; exact q, fun b ps q => ⟨#[], by rw [upd_ne (nl q (by intro ys z; cases z)), q]; simp⟩⟩ (fun b u q => by
    by_cases hb : b = l
    · rw [hb, upd_same] at q
      cases q
      rw [hb]
      exact ⟨e, hl, its, n, r, e⟩
    · rw [upd_ne hb] at q
      exact (I.hok b u q).stay (fun _ _ _ q => q) (fun c q => by rw [upd_ne (nl q (by intro ys z; cases z))]; exact q) fun c ys q => by rw [upd_ne (nl q (by intro ys z; cases z))]; exact q)
  exact ⟨_, I2⟩
def rFrz (v : V) (H1 : Hp) (Q : VK) : Prop := ∃ l xs, v = .ref l ∧ H1 l = some (.lst xs) ∧ ∀ o, Q v (upd H1 l (.frz o (.lst xs)))
def tFrz (te : TE) : TE := fun σ H Q => te σ H fun v H1 => rFrz v H1 Q
theorem pe_frz {X : Cx} {e : Expr} {te : TE} (h : PE X e te) : PE X e (tFrz te) := by
  refine ⟨fun pins s σ H Q I q => thn (h.run pins s σ H _ I q) fun u s1 ⟨v, H1, I1, r, l, xs, ev, hl, q1⟩ => ?_⟩
  obtain ⟨o, I2⟩ := inv_frz I1 hl
  exact ⟨v, _, I2, r, q1 o⟩
theorem k_frz {te : TE} {σ : L2.St} {H : Hp} {Q : VK} (q : te σ H fun v H1 => rFrz v H1 Q) : tFrz te σ H Q := q
theorem k_frzx {l : Addr} {xs : List V} {H : Hp} {Q : VK} (h : H l = some (.lst xs)) (q : ∀ o H', But l H H' → H' l = some (.frz o (.lst xs)) → Q (.ref l) H') : rFrz (.ref l) H Q := ⟨l, xs, rfl, h, fun o => q o _ But.upd upd_same⟩
/-- while a list is put away, tuples stay -/
theorem SqL.frz {K : PySem.W.Frag} {H : Hp} {l : Addr} {o : Obj} {xs : List V} (h : H l = some (.frz o (.lst xs))) : SqL K H l xs := .inl (.inr ⟨o, h⟩)
theorem frz_imm {H H' : Hp} (e : Imm H H') {l : Addr} {o : Obj} {u : HO} (h : H l = some (.frz o u)) : H' l = some (.frz o u) := e _ _ h trivial
end Gx
namespace Gx
open PySem PySem.Spec PyProof.Rows L2
/-! ### xs[lo:hi:c], c a number; ts[::-1], ts a tuple -/
def stV (xs : List V) (lo hi : Option Int) (c : Int) : List V := (sliceRange (sliceBounds lo hi (some c) xs.length).1 (sliceBounds lo hi (some c) xs.length).2.1 (sliceBounds lo hi (some c) xs.length).2.2).filterMap (xs[·]?)
theorem vals_pick : ∀ {xs : List V} {us : List Value} (idx : List Nat), Vals xs us → Vals (idx.filterMap (xs[·]?)) (idx.filterMap (us[·]?))
  | _, _, [], _ => .nil
  | xs, us, i :: r, h => by
    have ih := vals_pick r h
    have key : ∀ {xs : List V} {us : List Value} (i : Nat), Vals xs us → (xs[i]? = none ∧ us[i]? = none) ∨ ∃ x u, xs[i]? = some x ∧ us[i]? = some u ∧ RelV x u := fun {xs us} i h => by
      induction h generalizing i with
      | nil => exact .inl ⟨rfl, rfl⟩
      | cons a _ ih =>
        cases i with
        | zero => exact .inr ⟨_, _, rfl, rfl, a⟩
        | succ i => exact ih i
    rcases key i h with ⟨h1, h2⟩ | ⟨x, u, h1, h2, h3⟩
    · rw [List.filterMap_cons, List.filterMap_cons, h1, h2]
      exact ih
    · rw [List.filterMap_cons, List.filterMap_cons, h1, h2]
      exact .cons h3 ih
theorem stV_len {xs : List V} {lo hi : Option Int} {c : Int} (c0 : 0 < c) : (stV xs lo hi c).length ≤ xs.length := by
  unfold stV
  refine Nat.le_trans (List.length_filterMap_le ..) (sliceRange_length_le _ _ _ xs.length ?_ ?_)
  · intro _
    cases lo <;> cases hi <;> simp [sliceBounds, c0] <;> omega
  · intro z
    exact absurd (show (sliceBounds lo hi (some c) xs.length).2.2 > 0 from c0) z
def rStX (K : PySem.W.Frag) (x : V) (lo hi : Option Int) (c : Int) (H : Hp) (Q : VK) : Prop := ∃ a xs, x = .ref a ∧ SqL K H a xs ∧ ∀ p, H p = none → Q (.ref p) (upd H p (.lst (stV xs lo hi c)))
def tSlSt (K : PySem.W.Frag) (te : TE) (tl th : TO) (c : Int) : TE := fun σ H Q => te σ H fun x H1 => tl σ H1 fun lo H2 => th σ H2 fun hi H3 => rStX K x lo hi c H3 Q
theorem pe_slStep {X : Cx} {e : Expr} {lo hi : Option Expr} {te : TE} {tl th : TO} {c : Int} {k : Nat} {p1 p3 pos : Pos} (he : PE X e te) (hl : PO X lo tl) (hu : PO X hi th) (c0 : 0 < c) : PE X (.Subscript e (.Slice lo hi (some (.Constant (.int c) k p1)) p3) pos) (tSlSt X.K te tl th c) := by
  refine ⟨fun pins s σ H Q I h => ?_⟩
  refine Subscript_ (thn (he.run pins s σ H _ I h) fun v s1 ⟨x, H1, I1, r1, q1⟩ => ?_)
  have hst : PO X (some (.Constant (.int c) k p1)) (tPart (tC (.int c))) := po_some pe_int
  refine wpAny_Slice (thn (hl.run pins s1 σ H1 _ I1 q1) fun vl s2 ⟨l, H2, I2, pl, q2⟩ => ?_)
  refine thn (hu.run pins s2 σ H2 _ I2 q2) fun vu s3 ⟨u, H3, I3, pu, q3⟩ => ?_
  obtain ⟨a, xs, ex, hx, q⟩ := q3
  subst ex
  cases r1
  refine thn (hst.run pins s3 σ H3 (fun o H4 => o = some c ∧ H4 = H3) I3 ⟨c, rfl, rfl, rfl⟩) fun vs s4 ⟨o, H4, I4, ps, eo, e4⟩ => ?_
  subst eo e4
  have I5 : Inv X pins σ H4 { s4 with heap := s4.heap.push { cls := .type "slice", data := .fields #[vl, vu, vs] } } := I4.kept (t' := s4.toks) fun b ob q => Heap.get?_push_of_some _ q
  obtain ⟨its, r, ht, hz⟩ := I5.list hx
  have hlen := r.length
  show wpAny (model X.prog X.w) X.A (subscriptTail e (.Slice lo hi (some (.Constant (.int c) k p1)) p3) (.ref a) (.ref s4.heap.objs.size)) (EP X pins σ Q) X.xe { s4 with heap := s4.heap.push { cls := .type "slice", data := .fields #[vl, vu, vs] } }
  refine tail_any (ops := [.ref a, .ref s4.heap.objs.size]) ht.isList.typeIs (PySem.slot_list_getitem.lookup) ?_ (by with_unfolding_all rfl)
  refine wpAny_getItem_list_slice ht.isList (Heap.IsSliceOf.new _ vl vu vs) pl pu ps (fun z => by have := Option.some.inj z; omega) ?_ (by rw [List.size_toArray]; omega)
  have ep : slicePick its.toArray l u (some c) = ((sliceRange (sliceBounds l u (some c) xs.length).1 (sliceBounds l u (some c) xs.length).2.1 (sliceBounds l u (some c) xs.length).2.2).filterMap (its[·]?)).toArray := by
    unfold slicePick
    rw [List.size_toArray, ← hlen]
    congr 1
    congr 1
    funext i
    simp
  rw [ep]
  have vp := vals_pick (sliceRange (sliceBounds l u (some c) xs.length).1 (sliceBounds l u (some c) xs.length).2.1 (sliceBounds l u (some c) xs.length).2.2) r
  refine ⟨.ref _, _, I5.laid (t' := s4.toks) (o := .lst (stV xs l u c)) (fun b ob q => Heap.get?_push_of_some _ q) (Nat.le_refl _) ?_, rfl, q _ (I5.hok.fresh (Nat.le_refl _))⟩
  refine ⟨?_, _, 0, vp, Heap.get?_push_size _ rfl⟩
  exact Nat.le_trans (stV_len c0) hz
theorem k_st {K : PySem.W.Frag} {te : TE} {tl th : TO} {c : Int} {σ : L2.St} {H : Hp} {Q : VK} (q : te σ H fun x H1 => tl σ H1 fun lo H2 => th σ H2 fun hi H3 => rStX K x lo hi c H3 Q) : tSlSt K te tl th c σ H Q := q
theorem k_stx {K : PySem.W.Frag} {a : Addr} {xs : List V} {lo hi : Option Int} {c : Int} {H : Hp} {Q : VK} (h : SqL K H a xs) (q : ∀ p H2, H p = none → Same H H2 → H2 p = some (.lst (stV xs lo hi c)) → Q (.ref p) H2) : rStX K (.ref a) lo hi c H Q := ⟨a, xs, rfl, h, fun p hp => q p _ hp (same_new hp) upd_same⟩
theorem stV_ints {ns : List Int} {lo hi : Option Int} {c : Int} (c0 : 0 < c) : ∃ ms : List Int, stV (ns.map V.int) lo hi c = ms.map V.int ∧ ms.length ≤ ns.length := by
  refine ⟨(sliceRange (sliceBounds lo hi (some c) ns.length).1 (sliceBounds lo hi (some c) ns.length).2.1 (sliceBounds lo hi (some c) ns.length).2.2).filterMap (ns[·]?), ?_, ?_⟩
  · unfold stV
    rw [List.map_filterMap, List.length_map]
    congr 1
    funext i
    rw [List.getElem?_map]
  · have e := stV_len (xs := ns.map V.int) (lo := lo) (hi := hi) c0
    unfold stV at e
    rw [List.length_map] at e
    refine Nat.le_trans (Nat.le_of_eq ?_) e
    rw [← List.length_map (f := V.int), List.map_filterMap]
    congr 2
    funext i
    rw [List.getElem?_map]
section
variable {prog : Program} {w : World} {A : Around} {E : Value → Shared → Prop} {s : Shared}
theorem fm_congr {α β : Type} {f g : α → Option β} : ∀ {l : List α}, (∀ x ∈ l, f x = g x) → l.filterMap f = l.filterMap g
  | [], _ => rfl
  | x :: r, h => by
    rw [List.filterMap_cons, List.filterMap_cons, h x (List.mem_cons_self ..), fm_congr (l := r) fun y hy => h y (List.mem_cons_of_mem _ hy)]
theorem places_rev (n : Nat) : Builtin.Slice.slicePlaces ((n : Int) - 1) (-1) (-1) = n := by
  unfold Builtin.Slice.slicePlaces
  rw [if_neg (by decide)]
  by_cases h : (n : Int) - 1 > -1
  · rw [if_pos h, show (-(-1) : Int) = 1 by decide, Int.ediv_one]
    omega
  · rw [if_neg h]
    omega
theorem sliceApplied_rev {sl : Addr} {vl vu vs : Value} {n : Nat} {Q : Int × Int × Nat → Shared → Prop} (hs : s.heap.IsSliceOf sl vl vu vs) (pl : IsPart vl none) (pu : IsPart vu none) (ps : IsPart vs (some (-1)))
    (h : Q ((n : Int) - 1, -1, n) s) : wpAny (model prog w) A (Builtin.Slice.sliceApplied (.ref sl) (pure (n : Int))) Q E s := by
  obtain ⟨os, hos, hcs, hds⟩ := id hs
  unfold Builtin.Slice.sliceApplied Builtin.Slice.sliceFields
  refine wpAny_bind (wpAny_bind (wpAny_field hos hds (x := vl) rfl (wpAny_bind (wpAny_field hos hds (x := vu) rfl (wpAny_bind (wpAny_field hos hds (x := vs) rfl (wpAny_pure ?_)))))))
  refine wpAny_bind (HT.slicePart_ ps ?_)
  show wpAny _ _ (if ((-1 : Int) == 0) = true then _ else _) _ _ s
  rw [if_neg (by decide)]
  refine wpAny_bind (HT.slicePart_ pl (wpAny_bind (HT.slicePart_ pu (wpAny_bind (wpAny_pure ?_)))))
  show wpAny _ _ (pure ((n : Int) - 1, (-1 : Int), Builtin.Slice.slicePlaces ((n : Int) - 1) (-1) (-1))) _ _ s
  rw [places_rev]
  exact wpAny_pure h
theorem getItem_tuple_rev {t sl : Addr} {items : Array Value} {vl vu vs : Value} {Q : Value → Shared → Prop} (ht : IsTup s.heap t items) (hs : s.heap.IsSliceOf sl vl vu vs) (pl : IsPart vl none) (pu : IsPart vu none) (ps : IsPart vs (some (-1)))
    (h : Q (.ref s.heap.objs.size) { s with heap := s.heap.push { cls := .type "tuple", data := .seq items.toList.reverse.toArray } })
    (hsz : items.size ≤ sizeLine) : wpAny (model prog w) A (getItem (.ref t) (.ref sl)) Q E s := by
  have htake : sizeOk (.seq items.toList.reverse.toArray) := by
    show items.toList.reverse.toArray.size ≤ sizeLine
    rw [List.size_toArray, List.length_reverse, Array.length_toList]
    omega
  obtain ⟨os, hos, hcs, hds⟩ := id hs
  have hTs : s.TypeIs (.ref sl) "slice" := ⟨os, hos, hcs⟩
  unfold getItem
  try with_reducible refine wpAny_holding ?_
  first | refine wpAny_bind (wpAny_pure ?_) | skip
  refine wpAny_bind (wpAny_sequenceKey ht.typeIs (by decide) ?_)
  refine wpAny_bind (wpAny_callSpecial?_slot (name := Str.ofString "__getitem__") ht.typeIs PyProof.Rows.slot_tuple_getitem
    (wpAny_call_entry PyProof.Rows.slot_tuple_getitem ht.typeIs entry_tuple_getitem ?_ (args_tuple_getitem _ _)))
  show wpAny _ _ (Builtin.Tuple.tupleItemsOf (.ref t) >>= _) _ _ s
  refine wpAny_bind (tupleItemsOf_ ht ?_)
  refine wpAny_bind (wpAny_typeOf hTs ?_)
  rw [if_pos (by decide)]
  refine wpAny_bind (sliceApplied_rev hs pl pu ps ?_)
  have hno : ¬ (((((items.size : Nat) : Int) - 1) == 0 && (-1 : Int) == 1 && items.size == items.size) = true) := by
    intro q
    rw [Bool.and_eq_true, Bool.and_eq_true] at q
    exact absurd (eq_of_beq q.1.2) (by decide)
  show wpAny _ _ (if ((((items.size : Nat) : Int) - 1) == 0 && (-1 : Int) == 1 && items.size == items.size) = true then _ else _) _ _ s
  have ep : ((List.range items.size).filterMap fun (k : Nat) => items[(((items.size : Nat) : Int) - 1 + (k : Int) * (-1)).toNat]?).toArray = items.toList.reverse.toArray := by
    have e : ((List.range items.size).filterMap fun (k : Nat) => items[(((items.size : Nat) : Int) - 1 + (k : Int) * (-1)).toNat]?) = ((List.range items.size).map fun k => items.size - 1 - k).filterMap (items[·]?) := by
      rw [List.filterMap_map]
      refine fm_congr fun k hk => ?_
      have := List.mem_range.mp hk
      show items[(((items.size : Nat) : Int) - 1 + (k : Int) * (-1)).toNat]? = items[items.size - 1 - k]?
      congr 1
      omega
    rw [e, PySem.W.krv_range, List.filterMap_reverse, PySem.W.krv_all]
  rw [if_neg hno, ep]
  first
    | exact wpAny_bind (m := Builtin.Tuple.tupleExact _) (wpAny_newObj_type (wpAny_pure ⟨_, rfl, wpAny_pure h⟩) htake)
    | exact wpAny_bind (m := Builtin.Tuple.tupleExact _) (wpAny_newObj_type (wpAny_bind (wpAny_pure (wpAny_pure ⟨_, rfl, wpAny_pure h⟩))) htake)
    | exact wpAny_bind (wpAny_bind (m := Builtin.Tuple.tupleExact _) (wpAny_newObj_type (wpAny_pure (wpAny_pure ⟨_, rfl, wpAny_pure h⟩)) htake))
    | exact wpAny_bind (wpAny_bind (m := Builtin.Tuple.tupleExact _) (wpAny_newObj_type (wpAny_pure ⟨_, rfl, wpAny_pure h⟩) htake))
end
def rRevTX (K : PySem.W.Frag) (x : V) (H : Hp) (Q : VK) : Prop := ∃ a xs, x = .ref a ∧ SqT K H a xs ∧ ∀ p, H p = none → Q (.ref p) (upd H p (.tup xs.reverse))
def tRevT (K : PySem.W.Frag) (te : TE) : TE := fun σ H Q => te σ H fun x H1 => rRevTX K x H1 Q
theorem pe_revT {X : Cx} {e : Expr} {te : TE} {k : Nat} {p1 p2 p3 pos : Pos} (he : PE X e te) : PE X (.Subscript e (.Slice none none (some (.UnaryOp .USub (.Constant (.int 1) k p1) p2)) p3) pos) (tRevT X.K te) := by
  refine ⟨fun pins s σ H Q I h => ?_⟩
  refine Subscript_ (thn (he.run pins s σ H _ I h) fun v s1 ⟨x, H1, I1, r1, q1⟩ => ?_)
  obtain ⟨a, xs, ex, hx, q⟩ := q1
  subst ex
  cases r1
  have hst : PO X (some (.UnaryOp .USub (.Constant (.int 1) k p1) p2)) (tPart (tUn (rU fun i => .int (-i)) (tC (.int 1)))) := po_some (pe_un un_neg pe_int)
  refine wpAny_Slice (thn (po_none.run pins s1 σ H1 (fun o H2 => o = none ∧ H2 = H1) I1 ⟨rfl, rfl⟩) fun vl s2 ⟨l, H2, I2, pl, el, e2⟩ => ?_)
  subst el e2
  refine thn (po_none.run pins s2 σ H2 (fun o H3 => o = none ∧ H3 = H2) I2 ⟨rfl, rfl⟩) fun vu s3 ⟨u, H3, I3, pu, eu, e3⟩ => ?_
  subst eu e3
  refine thn (hst.run pins s3 σ H3 (fun o H4 => o = some (-1) ∧ H4 = H3) I3 ⟨1, rfl, -1, rfl, rfl, rfl⟩) fun vs s4 ⟨o, H4, I4, ps, eo, e4⟩ => ?_
  subst eo e4
  have I5 : Inv X pins σ H4 { s4 with heap := s4.heap.push { cls := .type "slice", data := .fields #[vl, vu, vs] } } := I4.kept (t' := s4.toks) fun b ob q => Heap.get?_push_of_some _ q
  obtain ⟨its, r, ht, hz⟩ := I5.tuple hx
  have hlen := r.length
  show wpAny (model X.prog X.w) X.A (subscriptTail e (.Slice none none (some (.UnaryOp .USub (.Constant (.int 1) k p1) p2)) p3) (.ref a) (.ref s4.heap.objs.size)) (EP X pins σ Q) X.xe { s4 with heap := s4.heap.push { cls := .type "slice", data := .fields #[vl, vu, vs] } }
  refine tail_any (ops := [.ref a, .ref s4.heap.objs.size]) ht.typeIs (PyProof.Rows.slot_tuple_getitem.lookup) ?_ (by with_unfolding_all rfl)
  refine getItem_tuple_rev ht (Heap.IsSliceOf.new _ vl vu vs) pl pu ps ?_ (by rw [List.size_toArray]; omega)
  refine ⟨.ref _, _, I5.laid (t' := s4.toks) (o := .tup xs.reverse) (fun b ob q => Heap.get?_push_of_some _ q) (Nat.le_refl _) ?_, rfl, q _ (I5.hok.fresh (Nat.le_refl _))⟩
  exact ⟨by rw [List.length_reverse]; exact hz, _, r.reverse, IsTup.new _ _⟩
theorem k_revT {K : PySem.W.Frag} {te : TE} {σ : L2.St} {H : Hp} {Q : VK} (q : te σ H fun x H1 => rRevTX K x H1 Q) : tRevT K te σ H Q := q
theorem k_revTx {K : PySem.W.Frag} {a : Addr} {xs : List V} {H : Hp} {Q : VK} (h : SqT K H a xs) (q : ∀ p H2, H p = none → Same H H2 → H2 p = some (.tup xs.reverse) → Q (.ref p) H2) : rRevTX K (.ref a) H Q := ⟨a, xs, rfl, h, fun p hp => q p _ hp (same_new hp) upd_same⟩
theorem pe_slStepK {K : PySem.W.Frag} {X : Cx} {e : Expr} {lo hi : Option Expr} {te : TE} {tl th : TO} {c : Int} {k : Nat} {p1 p3 pos : Pos} (hK : X.K = K) (he : PE X e te) (hl : PO X lo tl) (hu : PO X hi th) (c0 : 0 < c) : PE X (.Subscript e (.Slice lo hi (some (.Constant (.int c) k p1)) p3) pos) (tSlSt K te tl th c) := hK ▸ pe_slStep he hl hu c0
theorem pe_revTK {K : PySem.W.Frag} {X : Cx} {e : Expr} {te : TE} {k : Nat} {p1 p2 p3 pos : Pos} (hK : X.K = K) (he : PE X e te) : PE X (.Subscript e (.Slice none none (some (.UnaryOp .USub (.Constant (.int 1) k p1) p2)) p3) pos) (tRevT K te) := hK ▸ pe_revT he
end Gx
/-! ### an error that leaves a list comprehension -/
namespace Gx
open PySem PySem.Spec PyProof.Rows L2
theorem noteFrame_frame {e : Value} {a b : Env} (h : a.frame = b.frame) : noteFrame e a = noteFrame e b := by
  unfold noteFrame PySem.frameOf
  rw [h]
theorem passOn_frame {α : Type} {what : String} {e : Value} {a b : Env} (h : a.frame = b.frame) : (passOn what e a : Sem α) = passOn what e b := by
  unfold PySem.passOn
  rw [h]
section
variable {M : Model} {A : Around} {E : Value → Shared → Prop} {s : Shared} {env : Env}
def compPostE (M : Model) (A : Around) (E : Value → Shared → Prop) (use : Option (Value → Sem Unit)) (Q : Value → Shared → Prop) (acc : Value) (cenv : Env) (r : Result) (s' : Shared) : Prop :=
  match r, use with
  | .ok _, none => ∃ m, s'.heap.Ns cenv.locals m ∧ ∀ h', Heap.SameBut cenv.locals s'.heap h' → Q acc { s' with heap := h' }
  | .ok _, some u => wpAny M A (u acc) (fun _ s'' => ∃ m, s''.heap.Ns cenv.locals m ∧ ∀ h', Heap.SameBut cenv.locals s''.heap h' → Q .none { s'' with heap := h' }) E s'
  | .error x, _ => ∃ m, s'.heap.Ns cenv.locals m ∧ ∀ h', Heap.SameBut cenv.locals s'.heap h' → wpAny M A (passOn "comprehension.variables-let-go" x cenv : Sem Value) (fun _ _ => False) E { s' with heap := h' }
theorem comp_freeE {e : Expr} {scope : Scope} {pos : Pos} {newAcc first : Sem Value} {g : Comprehension} {gs : List Comprehension} {cl : List (Str × Addr)} {use : Option (Value → Sem Unit)}
    {Q : Value → Shared → Prop}
    (hcl : clausesOf e = g :: gs) (hs : ∀ x, foldedSetIterable g.iter env x = pure x) (hclos : closureFor scope env = pure cl)
    (hkind : scope.kind = .function) (hnames : ∀ x ∈ scope.names, x.2 = .local → scope.names.lookup x.1 = some .local)
    (h : wpAny M A first (fun x s₁ => wpAny M A (pyIter x) (fun it s₂ => wpAny M A newAcc (fun acc s₃ =>
      wpAny M A (newFunctionEnv scope env.globals cl [] env.qual none .none (some env)) (fun cenv s₄ =>
        codeAny M A (.compStart e 0 it acc { cenv with scope := relabel scope env }) (compPostE M A E use Q acc { cenv with scope := relabel scope env }) s₄) E s₃) E s₂) E s₁) E s) :
    wpAny M A (comprehension e scope env pos newAcc false first use) Q E s := by
  unfold comprehension
  rw [hclos, hcl]
  refine wpAny_bind (wpAny_mono h (fun x s₁ h₁ => wpAny_bind (wpAny_standAt (wpAny_bind (wpAny_of_eq (hs x) (wpAny_bind (wpAny_holding (wpAny_mono h₁ (fun it s₂ h₂ =>
    wpAny_standIf (wpAny_bind (wpAny_mono h₂ (fun acc s₃ h₃ => wpAny_bind (wpAny_pure (wpAny_bind (wpAny_mono h₃ (fun cenv s₄ h₄ => ?_) fun _ _ h' => h')))) fun _ _ h' => h')))
      fun _ _ h' => h'))))))) fun _ _ h' => h')
  dsimp only
  have hv : ∀ x ∈ (scope.names.filter fun x => (x.2 == .local || x.2 == .cell) && x.1 != (".0" : Str)).reverse, x.2 = .local →
      Env.kindOf { cenv with scope := relabel scope env } x.1 = some .local := fun x hx hl => lookup_relabel_local (hnames x (List.mem_filter.mp (List.mem_reverse.mp hx)).1 hl)
  have hv' : ∀ x ∈ (scope.names.filter fun x => (x.2 == .local || x.2 == .cell) && x.1 != (".0" : Str)).reverse.drop 1 ++ (scope.names.filter fun x => (x.2 == .local || x.2 == .cell) && x.1 != (".0" : Str)).reverse.take 1,
      x.2 = .local → Env.kindOf { cenv with scope := relabel scope env } x.1 = some .local := fun x hx hl => by
    rcases List.mem_append.mp hx with h1 | h1
    · exact hv x (List.mem_of_mem_drop h1) hl
    · exact hv x (List.mem_of_mem_take h1) hl
  refine wpAny_holding (wpAny_bind (wpAny_attempt (wpAny_holding (wpAny_run (codeAny_mono h₄ fun r s' hr => ?_)))))
  cases r with
  | ok f =>
    cases use with
    | none =>
      obtain ⟨m, hn, hr⟩ := hr
      exact wpAny_bind (wpAny_holding (wpAny_comp_letGo (cenv := { cenv with scope := relabel scope env }) hkind _ s' m hv hn fun h' m' _ hs' => wpAny_pure (hr h' hs')))
    | some u =>
      refine wpAny_bind (wpAny_rule (wpAny_bind (wpAny_holding (wpAny_mono hr (fun _ s'' hr' => ?_) fun _ _ h' => h'))))
      obtain ⟨m, hn, hr'⟩ := hr'
      exact wpAny_bind (wpAny_comp_letGo (cenv := { cenv with scope := relabel scope env }) hkind _ s'' m hv' hn fun h' m' _ hs' => wpAny_pure (hr' h' hs'))
  | error x =>
    have hr' : ∃ m, s'.heap.Ns cenv.locals m ∧ ∀ h', Heap.SameBut cenv.locals s'.heap h' → wpAny M A (passOn "comprehension.variables-let-go" x { cenv with scope := relabel scope env } : Sem Value) (fun _ _ => False) E { s' with heap := h' } := by cases use <;> exact hr
    obtain ⟨m, hn, hr⟩ := hr'
    exact wpAny_bind (wpAny_holding (wpAny_comp_letGo (cenv := { cenv with scope := relabel scope env }) hkind _ s' m hv hn fun h' m' _ hs' => wpAny_mono (hr h' hs') (fun _ _ f => f.elim) fun _ _ y => y))
end
/-- an error in the air of a block, let out by a call -/
def XB (Y : Cx) (E : XK) (u : Value) (s' : Shared) : Prop :=
  ∃ (a : Addr) (B : Heap) (sI : Shared) (pins : List (Addr × Obj)) (σ : L2.St) (H : Hp) (cls : Value) (d : Option Addr),
    u = .ref a ∧ Inv Y pins σ H sI ∧ (∀ b o, sI.heap.get? b = some o → b ∉ frs Y.stack → B.get? b = some o) ∧ sI.heap.UpToSlots s'.heap ∧
      HandSPX.FlyingZ B Y.stack a (Zc cls d) s'.heap ∧ H a = none ∧ s'.os = sI.os ∧ AllBare s'.gens ∧ E cls d H
theorem XB.of_call {X : Cx} {pins : List (Addr × Obj)} {σ : L2.St} {H : Hp} {s s' : Shared} {E : XK} (I : Inv X pins σ H s) {u : Value} (c : CX X.prog X.w X.stack H s E u s') : XB X E u s' := by
  obtain ⟨a, B, H', cls, d, rfl, fl, hok, ub, na, os, ag, hE⟩ := c
  obtain ⟨G, g1, g2⟩ := restrict s'.heap fun b => (B.get? b).isSome || decide (b ∈ frs X.stack)
  have st : B.StaysIn s'.heap := fl.1
  have gB : ∀ b o, B.get? b = some o → G.get? b = some o := fun b o e => by
    rw [g1 b (by simp [e])]
    exact st b o e
  have gF : ∀ b, b ∈ frs X.stack → G.get? b = s'.heap.get? b := fun b hb => g1 b (by simp [hb])
  have og : ∀ b o, G.get? b = some o → s'.heap.get? b = some o ∧ ((B.get? b).isSome = true ∨ b ∈ frs X.stack) := fun b o e => by
    cases q : ((B.get? b).isSome || decide (b ∈ frs X.stack)) with
    | false => rw [g2 b q] at e; cases e
    | true =>
      rw [g1 b q] at e
      exact ⟨e, by simpa [Bool.or_eq_true] using q⟩
  refine ⟨a, B, { s with heap := G, gens := s'.gens, drawn := s'.drawn, toks := s'.toks }, pins, σ, H', cls, d, rfl, ?_, fun b o e hb => ?_, Heap.UpToSlots.of_keeps fun b o e => (og b o e).1, fl, na, os, ag, hE⟩
  · refine I.call (ch := []) ⟨fun b o e n hb _ => gB b o (ub.keep b o e n hb), fun b o e n hb _ => ?_, fun b o e n _ => ub.free b o e n, fun b o e _ => ?_, ub.tups, ub.frzs, ub.tbls⟩ (hok.kept gB) ag (fun _ z => nomatch z)
    · obtain ⟨sl, q⟩ := ub.slot b o e hb
      exact ⟨sl, by rw [gF b hb]; exact q⟩
    · by_cases hb : b ∈ frs X.stack
      · obtain ⟨sl, q⟩ := ub.slot b o e hb
        exact ⟨_, by rw [gF b hb]; exact q⟩
      · obtain ⟨o', q⟩ := ub.there b o e hb
        exact ⟨o', gB b o' q⟩
  · obtain ⟨e', h⟩ := og b o e
    rcases h with h | h
    · obtain ⟨o', q⟩ := Option.isSome_iff_exists.mp h
      have z := st b o' q
      rw [e'] at z; cases z
      exact q
    · exact absurd h hb
/-- the block's context where an element may let an error out -/
abbrev blkE (X : Cx) (s : Shared) (H : Hp) (scope : Scope) (cenv : Env) (fp : List Addr) (E : XK) : Cx := (X.blk s H scope cenv fp).tr [] (XB (X.blk s H scope cenv fp) E)
theorem inv_toE {X : Cx} {s s' : Shared} {H H' : Hp} {scope : Scope} {cenv : Env} {fp : List Addr} {E : XK} {pins : List (Addr × Obj)} {σ : L2.St} (I : Inv (X.blk s H scope cenv fp) pins σ H' s') : Inv (blkE X s H scope cenv fp E) pins σ H' s' :=
  ⟨I.ok.toTry _ _, I.os, I.bare, I.base, I.loc, I.cell, I.free, I.freeC, I.pin, I.hok, I.len⟩
theorem inv_ofE {X : Cx} {s s' : Shared} {H H' : Hp} {scope : Scope} {cenv : Env} {fp : List Addr} {E : XK} {pins : List (Addr × Obj)} {σ : L2.St} (I : Inv (blkE X s H scope cenv fp E) pins σ H' s') : Inv (X.blk s H scope cenv fp) pins σ H' s' :=
  ⟨I.ok.ofTry, I.os, I.bare, I.base, I.loc, I.cell, I.free, I.freeC, I.pin, I.hok, I.len⟩
theorem passB {X : Cx} {s : Shared} {H : Hp} {scope : Scope} {cenv : Env} {fp : List Addr} {E : XK} : Passes (L2.CX X.prog X.w) (blkE X s H scope cenv fp E) E := fun _ _ _ _ _ _ I c => XB.of_call (inv_ofE I) c
theorem funFrames_but {h h' B B' : Heap} {C : Addr} : ∀ {l : List Env}, h.FunFrames B l → (∀ L ∈ frs l, L ≠ C) → (∀ b o, b ≠ C → h.get? b = some o → h'.get? b = some o) → (∀ b, B.get? b = none → B'.get? b = none) → h'.FunFrames B' l
  | [], _, _, _, _ => trivial
  | env :: l, ⟨hk, ⟨L, o, hf, hb, ho, hd⟩, hr⟩, hC, hh, hB =>
    ⟨hk, ⟨L, o, hf, hB L hb, hh L o (hC L (List.mem_filterMap.mpr ⟨env, List.mem_cons_self, hf⟩)) ho, hd⟩, funFrames_but hr (fun b hb => by
      obtain ⟨e, he, q⟩ := List.mem_filterMap.mp hb
      exact hC b (List.mem_filterMap.mpr ⟨e, List.mem_cons_of_mem _ he, q⟩)) hh hB⟩
/-- a block's error, back in the def -/
theorem XB.out {X : Cx} {pins : List (Addr × Obj)} {σ : L2.St} {H3 : Hp} {s3 s' : Shared} {scope : Scope} {ce : Env} {fp : List Addr} {EE : XK} {use : Option (Value → Sem Unit)} {Qf : Value → Shared → Prop} {acc : Value}
    (tk : Takes X (fun cls d _ H => EE cls d H)) (hs : X.stack = X.env :: X.outer) (hf : X.env.frame = some X.env.locals) (I3 : Inv X pins σ H3 s3) (cf : ce.frame = X.env.frame) (cL : ce.locals = s3.heap.objs.size)
    (f3 : ∀ b ∈ fp, (b ∈ X.ex ∨ X.s_0.heap.objs.size ≤ b) ∧ b ≠ X.env.locals ∧ (∀ x c, X.env.cells.lookup x = some c → c ≠ b) ∧ ∀ p ∈ X.pn ++ pins, p.1 ≠ b) {u : Value} (x : XB (X.blk s3 H3 scope ce fp) EE u s') :
    notedBy (model X.prog X.w) X.A ce (fun e s'' => compPostE (model X.prog X.w) X.A X.xe use Qf acc ce (.error e) s'') u s' := by
  obtain ⟨a, B, sI, pins', σ', H', cls, d, rfl, J, nb, up, fl, na, os, ag, w⟩ := x
  have hfr : X.A.frames = some (X.env :: X.outer) := by rw [I3.ok.frames, hs]
  have fl' : HandSPX.FlyingZ B (X.env :: X.outer) a (Zc cls d) s'.heap := by rw [← hs]; exact fl
  show wpAny _ X.A (noteFrame (.ref a) ce) _ _ _
  rw [noteFrame_frame cf]
  refine HandSPX.looks_onZ Zc.steady hfr hf fl' fun h3 hh3 up3 => ?_
  obtain ⟨m, hn, _⟩ := J.loc
  have hn : sI.heap.Ns ce.locals m := hn
  have hn3 : h3.Ns ce.locals m := up3.ns (up.ns hn)
  have goal : ∃ m, h3.Ns ce.locals m ∧ ∀ h', Heap.SameBut ce.locals h3 h' → wpAny (model X.prog X.w) X.A (passOn "comprehension.variables-let-go" (.ref a) ce : Sem Value) (fun _ _ => False) X.xe { s' with heap := h' } := by
    refine ⟨m, hn3, fun h4 sb => ?_⟩
    have nC : H' ce.locals = none := J.free
    -- everything but the block's own names
    obtain ⟨G, g1, g2⟩ := restrict sI.heap fun b => decide (b ≠ ce.locals)
    obtain ⟨B', b1, b2⟩ := restrict B fun b => decide (b ≠ ce.locals)
    have gG : ∀ b o, b ≠ ce.locals → sI.heap.get? b = some o → G.get? b = some o := fun b o n e => by rw [g1 b (decide_eq_true n)]; exact e
    have oG : ∀ b o, G.get? b = some o → b ≠ ce.locals ∧ sI.heap.get? b = some o := fun b o e => by
      by_cases n : b = ce.locals
      · rw [g2 b (by simp [n])] at e; cases e
      · rw [g1 b (decide_eq_true n)] at e
        exact ⟨n, e⟩
    have oB : ∀ b o, B'.get? b = some o → b ≠ ce.locals ∧ B.get? b = some o := fun b o e => by
      by_cases n : b = ce.locals
      · rw [b2 b (by simp [n])] at e; cases e
      · rw [b1 b (decide_eq_true n)] at e
        exact ⟨n, e⟩
    have nB : ∀ b, B.get? b = none → B'.get? b = none := fun b e => by
      cases q : B'.get? b with
      | none => rfl
      | some o => rw [(oB b o q).2] at e; cases e
    have stF : ∀ b ∈ frs X.stack, b ≠ ce.locals := fun b hb => by
      obtain ⟨_, o, e, _⟩ := I3.stack.mem hb
      rw [cL]
      exact Nat.ne_of_lt (Heap.lt_size e)
    have stF' : ∀ b ∈ frs (X.env :: X.outer), b ≠ ce.locals := fun b hb => stF b (by rw [hs]; exact hb)
    have h34 : ∀ b o, b ≠ ce.locals → h3.get? b = some o → h4.get? b = some o := fun b o n e => (sb.2 b n).trans e
    obtain ⟨od, es, ep, hC3, hCd, _⟩ := hn3
    have rec_ne : ∀ {b : Addr} {o : Obj} {vs : Array Value}, h3.get? b = some o → o.data = .fields vs → b ≠ ce.locals := fun {b o vs} e q z => by
      rw [z, hC3] at e
      cases e
      rw [hCd] at q
      cases q
    obtain ⟨k1, k2, k3, oe, vs, T, oT, ts, he, hz, hd, h1, hnT, hTe, hT, hdT, ht⟩ := hh3
    have hh4 : HandSPX.HeldZ B' (X.env :: X.outer) a (Zc cls d) X.env.locals h4 :=
      ⟨fun b o e => h34 b o (oB b o e).1 (k1 b o (oB b o e).2), nB a k2, funFrames_but k3 stF' h34 nB, oe, vs, T, oT, ts, h34 a oe (rec_ne he hd) he, hz, hd, h1, nB T hnT, hTe, h34 T oT (rec_ne hT hdT) hT, hdT, ht⟩
    rw [passOn_frame cf]
    unfold PySem.passOn
    refine wpAny_bind (wpAny_field (h34 a oe (rec_ne he hd) he) hd h1 ?_)
    rw [if_neg (show ¬ ((Value.ref T == Value.none) = true) from by simp)]
    have fin : wpAny (model X.prog X.w) X.A (setFlight (.ref a) X.env.frame) (fun _ s4 => wpAny (model X.prog X.w) X.A (throw (.ref a) : Sem Value) (fun _ _ => False) X.xe s4) X.xe { s' with heap := h4 } := by
      rw [hf]
      refine HandSPX.setFlight_onZ hh4 fun h5 hh5 up5 => wpAny_throw (tk _ _ ?_)
      refine ⟨a, B', { sI with heap := G }, pins, σ, H', cls, d, rfl, ?_, fun b o e hb => ?_, fun b o e hnf => ?_, .inr (.inr (by rw [hs]; exact hh5)), na, os, ag, w⟩
      · have ub : Un (frs X.stack) fp H3 H' s3.heap sI.heap := J.base
        have lt : ∀ b o, s3.heap.get? b = some o → b ≠ ce.locals := fun b o e z => by
          have := Heap.lt_size e
          rw [z, cL] at this
          exact Nat.lt_irrefl _ this
        refine I3.call' (ch := fp) J.os ⟨fun b o e n hb hx => gG b o (lt b o e) (ub.keep b o e n hb hx), fun b o e n hb hx => ?_, ub.free, fun b o e hx => ?_, ub.tups, ub.frzs, ub.tbls⟩ (fun b o q => (J.hok b o q).stay (fun c v hc r => gG c v (fun z => ?_) r) (fun _ r => r) fun _ _ r => r) J.bare f3
        · obtain ⟨sl, q⟩ := ub.slot b o e n hb hx
          exact ⟨sl, gG _ _ (lt b o e) q⟩
        · obtain ⟨o', q⟩ := ub.there b o e hx
          exact ⟨o', gG _ _ (lt b o e) q⟩
        · rcases hc with hc | hc
          · rw [← hc, z, nC] at q; cases q
          · rw [z, nC] at hc; cases hc
      · obtain ⟨n, e1⟩ := oG b o e
        rw [b1 b (decide_eq_true n)]
        exact nb b o e1 hb
      · obtain ⟨n, e1⟩ := oG b o e
        obtain ⟨sl, e2⟩ := up b o e1 hnf
        obtain ⟨sl3, e3⟩ := up3 b _ e2 hnf
        obtain ⟨sl5, e5⟩ := up5 b { o with slots := sl3 } (h34 b { o with slots := sl3 } n e3) hnf
        exact ⟨sl5, e5⟩
    first
      | exact wpAny_bind (wpAny_pure (wpAny_bind fin))
      | exact wpAny_bind fin
  cases use <;> exact goal
section
variable {X : Cx}
theorem lcE_core {pins : List (Addr × Obj)} {s : Shared} {σ : L2.St} {H : Hp} {Q : VK} {EE : XK} {elt tg iter : Expr} {ifs : List Expr} {scope : Scope} {own : List (Str × Nat)} {pos pos' : Pos} {wi : TI} {g : TG} {tt : TT} {te : TE} {use : Option (Value → Sem Unit)} {Qf : Value → Shared → Prop}
    (tk : Takes X (fun cls d _ H => EE cls d H)) (hst : X.stack = X.env :: X.outer) (hfm : X.env.frame = some X.env.locals)
    (hc : X.calm = true) (hN : X.N.Nodup) (I : Inv X pins σ H s) (hi : PI X tg iter wi) (ok : BlkOk X.N X.env.scope scope own)
    (hg : ∀ (s : Shared) (H : Hp) (C : Addr) (cl : List (Str × Addr)) (fp : List Addr), PG (X.blk s H scope (compEnvC scope cl C X.env) fp) tg g) (ht : ∀ (s : Shared) (H : Hp) (C : Addr) (cl : List (Str × Addr)) (fp : List Addr), PTs (X.blk s H scope (compEnvC scope cl C X.env) fp) ifs tt)
    (he : ∀ (s : Shared) (H : Hp) (C : Addr) (cl : List (Str × Addr)) (fp : List Addr), PE (blkE X s H scope (compEnvC scope cl C X.env) fp EE) elt te) (hs : ∀ x, foldedSetIterable iter X.env x = pure x)
    (h : tLc wi g tt te (own.map (·.2)) σ H Q)
    (hRR : ∀ D ce s' m H', Inv X pins σ H' s' → Q (.ref D) H' → s'.heap.Ns ce.locals m → FpOk X pins H' ce.locals → compPostE (model X.prog X.w) X.A X.xe use Qf (.ref D) ce (.ok .next) s') :
    wpAny (model X.prog X.w) X.A (comprehension (.ListComp elt [⟨tg, iter, ifs, 0⟩] scope pos) scope X.env pos' (newList []) false (eval iter X.env) use) Qf X.xe s := by
  have hfree : ∀ y ∈ scope.names, y.2 = .free → ∃ c, X.env.cells.lookup y.1 = some c := fun y hy e => by
    rcases ok.free y hy e with k | k
    · exact I.ok.has _ (.inl k)
    · exact I.ok.has _ (.inr k)
  refine comp_freeE (use := use) rfl hs (closure_ok hfree) ok.kind (fun y hy e => by rw [ok.uniq y hy, e])
    (thn (hi.run pins s σ H _ I h) fun xv s1 hx => thn hx fun itv s2 h2 => ?_)
  obtain ⟨it, fp, tn, J, H2, e, I2, T, st2, f2, q⟩ := h2
  subst e
  refine wpAny_newObj_type (newEnv_comp ?_) (by show 0 ≤ sizeLine; decide)
  generalize hD : s2.heap.objs.size = D
  have hDn : H2 D = none := I2.hok.fresh (Nat.le_of_eq hD)
  obtain ⟨W, ⟨m0, w0⟩, turn⟩ := q D hDn
  -- the new list
  generalize hs3 : ({ s2 with heap := s2.heap.push { cls := .type "list", data := .seq ([] : List Value).toArray } } : Shared) = s3
  have I3 : Inv X pins σ (upd H2 D (.lst [])) s3 := by
    rw [← hs3]
    refine I2.laid (t' := s2.toks) (fun b o e => Heap.get?_push_of_some _ e) (Nat.le_of_eq hD) ⟨Nat.zero_le _, [], 0, .nil, ?_⟩
    rw [← hD]
    exact Heap.get?_push_size _ rfl
  have h3 : s3.heap = s2.heap.push { cls := .type "list", data := .seq ([] : List Value).toArray } := by rw [← hs3]
  have sz : ∀ b ∈ fp, b < s2.heap.objs.size := fun b hb => by
    obtain ⟨o, e, _⟩ := T.obj _ _ st2 b hb
    exact Heap.lt_size e
  have f3 : ∀ b ∈ fp, FpOk X pins (upd H2 D (.lst [])) b ∧ b < s3.heap.objs.size := fun b hb => by
    have hlt := sz b hb
    refine ⟨⟨?_, (f2 b hb).2⟩, by rw [h3, Heap.size_push]; exact Nat.lt_succ_of_lt hlt⟩
    rw [upd_ne (by rw [← hD]; exact Nat.ne_of_lt hlt)]
    exact (f2 b hb).1
  have st3 : tn 0 s3.heap := T.keep _ _ _ st2 fun b _ o e => by rw [h3]; exact Heap.get?_push_of_some _ e
  have I4 := block_start I3 ok hN f3
  have pg := hg s3 (upd H2 D (.lst [])) s3.heap.objs.size (cellsFrom (s3.heap.objs.size + 1) scope.names (cloFrom X.env.cells scope.names [])) fp
  have pt := ht s3 (upd H2 D (.lst [])) s3.heap.objs.size (cellsFrom (s3.heap.objs.size + 1) scope.names (cloFrom X.env.cells scope.names [])) fp
  have pe := he s3 (upd H2 D (.lst [])) s3.heap.objs.size (cellsFrom (s3.heap.objs.size + 1) scope.names (cloFrom X.env.cells scope.names [])) fp
  show codeAny _ _ (.compStart (.ListComp elt [⟨tg, iter, ifs, 0⟩] scope pos) 0 (.ref it) (.ref D) (compEnvC scope (cellsFrom (s3.heap.objs.size + 1) scope.names (cloFrom X.env.cells scope.names [])) s3.heap.objs.size X.env)) (compPostE (model X.prog X.w) X.A X.xe use Qf (.ref D) (compEnvC scope (cellsFrom (s3.heap.objs.size + 1) scope.names (cloFrom X.env.cells scope.names [])) s3.heap.objs.size X.env)) { s3 with heap := pushCells (s3.heap.push { cls := .type "dict", data := .dict #[] }) scope.names }
  have nfp : ∀ b ∈ fp, (upd H2 D (.lst [])) b = none := fun b hb => (f3 b hb).1.1
  generalize hce : compEnvC scope (cellsFrom (s3.heap.objs.size + 1) scope.names (cloFrom X.env.cells scope.names [])) s3.heap.objs.size X.env = ce at I4 pg pt pe ⊢
  have cL : ce.locals = s3.heap.objs.size := by subst hce; rfl
  have cf : ce.frame = X.env.frame := by subst hce; rfl
  generalize hH3 : upd H2 D (.lst []) = H3 at I3 I4 pg pt pe w0 nfp f3
  generalize hs4 : ({ s3 with heap := pushCells (s3.heap.push { cls := .type "dict", data := .dict #[] }) scope.names } : Shared) = s4 at I4 ⊢
  have st4 : tn 0 s4.heap := T.keep _ _ _ st3 fun b _ o e => by rw [← hs4]; exact pushCells_keeps _ _ _ _ (Heap.get?_push_of_some _ e)
  have stat : ∀ {σ' : L2.St} {H' : Hp} {s' : Shared}, Inv (X.blk s3 H3 scope ce fp) [] σ' H' s' → (∀ b ∈ fp, H' b = none) → ∀ b ∈ fp, FpOk (X.blk s3 H3 scope ce fp) [] H' b := fun {σ' H' s'} I' hn b hb =>
    ⟨hn b hb, (I'.ok.exf b hb).1, I'.ok.exfs b hb, .inl hb, fun x c e => (I'.ok.exf b hb).2 x c e, fun p hp => absurd (show p ∈ ([] : List (Addr × Obj)) ++ [] from hp) (by simp)⟩
  have f3' : ∀ b ∈ fp, (b ∈ X.ex ∨ X.s_0.heap.objs.size ≤ b) ∧ b ≠ X.env.locals ∧ (∀ x c, X.env.cells.lookup x = some c → c ≠ b) ∧ ∀ p ∈ X.pn ++ pins, p.1 ≠ b := fun b hb => ⟨(f3 b hb).1.2.2.2.1, (f3 b hb).1.2.1, (f3 b hb).1.2.2.2.2.1, (f3 b hb).1.2.2.2.2.2⟩
  have loop : codeAny (model X.prog X.w) X.A (.compLoop (.ListComp elt [⟨tg, iter, ifs, 0⟩] scope pos) 0 (.ref it) (.ref D) ce) (compPostE (model X.prog X.w) X.A X.xe use Qf (.ref D) ce) s4 := by
    refine compLoop_any (fun n s' => ∃ i H', Inv (X.blk s3 H3 scope ce fp) [] (wipe σ (own.map (·.2))) H' s' ∧ tn i s'.heap ∧ (∀ b ∈ fp, H' b = none) ∧ W i n H') ?_ m0 ⟨0, H3, I4, st4, nfp, w0⟩
    rintro n s5 ⟨i, H5, I5, st5, n5, w5⟩
    rcases turn i n H5 w5 with ⟨stop, qq⟩ | ⟨go, Nx, hNx, step⟩
    · have td := T.done (X.blk s3 H3 scope ce fp) rfl rfl rfl hc i [] s5 _ H5 (fun _ _ => False) I5 (stat I5 n5) st5 stop
      refine thnF td fun r s6 ⟨hr, I6⟩ => ?_
      subst hr
      have I7 : Inv X pins σ H5 s6 := I3.call' (ch := fp) I6.os I6.base I6.hok I6.bare f3'
      have nC : H5 s3.heap.objs.size = none := by
        have z : H5 ce.locals = none := I6.free
        rw [cL] at z
        exact z
      obtain ⟨m, hn, _⟩ := I6.loc
      have hn : s6.heap.Ns ce.locals m := hn
      exact hRR D ce s6 m H5 I7 qq hn (by rw [cL]; exact I3.fpOk (Nat.le_refl _) nC)
    · have ti := T.item (X.blk s3 H3 scope ce fp) rfl rfl rfl hc i [] s5 _ H5 (fun _ _ => False) I5 (stat I5 n5) st5 go
      refine thnF ti fun r s6 ⟨u, hr, h6⟩ => ?_
      subst hr
      refine thnF h6 fun _ s7 ⟨x, H7, I7, r7, y7, st7, n7⟩ => ?_
      have I7' := I7.pinned (stat I7 n7) (T.obj _ _ st7)
      refine thnF (pg.run _ s7 _ H7 x u _ I7' r7 (step x H7 y7)) fun _ s8 ⟨σ8, H8, I8, hw8, q8⟩ => ?_
      refine thnF (pt.run _ s8 σ8 H8 _ I8 q8) fun b s9 ⟨H9, I9, q9⟩ => ?_
      have fin : ∀ {s' : Shared} {H' : Hp}, Inv (X.blk s3 H3 scope ce fp) ([] ++ pinsAt fp s7.heap) σ8 H' s' → Nx H' → ∃ m, m < n ∧ ∃ i H', Inv (X.blk s3 H3 scope ce fp) [] (wipe σ (own.map (·.2))) H' s' ∧ tn i s'.heap ∧ (∀ b ∈ fp, H' b = none) ∧ W i m H' := fun {s' H'} I' nx => by
        obtain ⟨m', hm, w'⟩ := hNx H' nx
        have pin' : ∀ b ∈ fp, ∀ o, s7.heap.get? b = some o → s'.heap.get? b = some o ∧ H' b = none := fun b hb o e =>
          let z := I'.pin (b, o) (List.mem_append_right _ (List.mem_append_right _ (mem_pinsAt hb e)))
          ⟨z.1, z.2.1⟩
        have hl : (wipe σ (own.map (·.2))).length = σ8.length := by rw [← hw8, wipe_length]
        refine ⟨m', hm, i + 1, H', (I'.unpinned (pins := [])).weak hl (fun j v e => ?_), T.keep _ _ _ st7 fun b hb o e => (pin' b hb o e).1, fun b hb => ?_, w'⟩
        · rw [← hw8] at e
          exact (wipe_some e).1
        · obtain ⟨o, e, _⟩ := T.obj _ _ st7 b hb
          exact (pin' b hb o e).2
      cases b with
      | false =>
        simp only [Bool.false_eq_true, if_false] at q9 ⊢
        exact fin I9 q9
      | true =>
        simp only [if_true] at q9 ⊢
        refine wpAny_mono (pe.run _ s9 σ8 H9 _ (inv_toE I9) q9) (fun z s10 ⟨yv, H10, I10, r10, acc, hD10, hz10, nx⟩ => ?_) fun u s10 xb => XB.out tk hst hfm I3 cf cL f3' xb
        exact app_ok (X := X.blk s3 H3 scope ce fp) (inv_ofE I10) hD10 hz10 r10 fun s11 I11 => fin I11 nx
  exact codeAny_compStart_list loop (T.self X.A 0 _ _ _ st4 loop)
/-- as a value -/
theorem pe_lcE {EE : XK} {elt tg iter : Expr} {ifs : List Expr} {scope : Scope} {own : List (Str × Nat)} {pos : Pos} {wi : TI} {g : TG} {tt : TT} {te : TE} (tk : Takes X (fun cls d _ H => EE cls d H)) (hst : X.stack = X.env :: X.outer) (hfm : X.env.frame = some X.env.locals) (hc : X.calm = true) (hN : X.N.Nodup) (hi : PI X tg iter wi) (ok : BlkOk X.N X.env.scope scope own)
    (hg : ∀ (s : Shared) (H : Hp) (C : Addr) (cl : List (Str × Addr)) (fp : List Addr), PG (X.blk s H scope (compEnvC scope cl C X.env) fp) tg g) (ht : ∀ (s : Shared) (H : Hp) (C : Addr) (cl : List (Str × Addr)) (fp : List Addr), PTs (X.blk s H scope (compEnvC scope cl C X.env) fp) ifs tt)
    (he : ∀ (s : Shared) (H : Hp) (C : Addr) (cl : List (Str × Addr)) (fp : List Addr), PE (blkE X s H scope (compEnvC scope cl C X.env) fp EE) elt te) (hs : ∀ x, foldedSetIterable iter X.env x = pure x := by intro _; rfl) :
    PE X (.ListComp elt [⟨tg, iter, ifs, 0⟩] scope pos) (tLc wi g tt te (own.map (·.2))) := by
  refine ⟨fun pins s σ H Q I h => ?_⟩
  rw [eval_ListComp]
  refine lcE_core tk hst hfm hc hN I hi ok hg ht he hs h fun D ce s' m H' I' q hn f => ⟨m, hn, fun h'' sb => ?_⟩
  obtain ⟨f0, f1, f2, f3, f4, f5⟩ := f
  exact ⟨.ref D, H', I'.turned (t' := s'.toks) (fun b o hb e => (sb.2 b hb).trans e) f0 f1 f3 f4 f5, rfl, q⟩
/-- name = [..] on one line, the name a local -/
theorem ps_setLcE {EE : XK} {i : Nat} {y : Str} {py : Pos} {elt tg iter : Expr} {ifs : List Expr} {scope : Scope} {own : List (Str × Nat)} {pos spos : Pos} {wi : TI} {g : TG} {tt : TT} {te : TE} (tk : Takes X (fun cls d _ H => EE cls d H)) (hst : X.stack = X.env :: X.outer) (hfm : X.env.frame = some X.env.locals) (hc : X.calm = true) (hN : X.N.Nodup) (hy : X.N[i]? = some y) (hyl : X.env.scope.names.lookup y = some .local)
    (hsw : swapsWith (.ListComp elt [⟨tg, iter, ifs, 0⟩] scope pos) (some (.Name y py)) spos.line X.env = pure true) (hi : PI X tg iter wi) (ok : BlkOk X.N X.env.scope scope own)
    (hg : ∀ (s : Shared) (H : Hp) (C : Addr) (cl : List (Str × Addr)) (fp : List Addr), PG (X.blk s H scope (compEnvC scope cl C X.env) fp) tg g) (ht : ∀ (s : Shared) (H : Hp) (C : Addr) (cl : List (Str × Addr)) (fp : List Addr), PTs (X.blk s H scope (compEnvC scope cl C X.env) fp) ifs tt)
    (he : ∀ (s : Shared) (H : Hp) (C : Addr) (cl : List (Str × Addr)) (fp : List Addr), PE (blkE X s H scope (compEnvC scope cl C X.env) fp EE) elt te) (hs : ∀ x, foldedSetIterable iter X.env x = pure x := by intro _; rfl) :
    PS X (.Assign [.Name y py] (.ListComp elt [⟨tg, iter, ifs, 0⟩] scope pos) spos) (tAsg (tLc wi g tt te (own.map (·.2))) (gName i)) := by
  refine ⟨fun pins s σ H D I h => ?_⟩
  rw [exec_Assign_Name_used _ _ _ _ hsw]
  refine wpAny_bind (wpAny_standAt (wpAny_bind ?_))
  show wpAny _ X.A (do let _ ← comprehension (.ListComp elt [⟨tg, iter, ifs, 0⟩] scope pos) scope X.env (firstIterPos [⟨tg, iter, ifs, 0⟩] pos) (newList []) false (eval iter X.env) (some (assign (.Name y py) X.env))) _ _ s
  have h : tLc wi g tt te (own.map (·.2)) σ H (fun x H1 => gName i x σ H1 D.nx) := h
  refine wpAny_bind (thn (lcE_core (Qf := fun _ s' => SP X pins D .next s') tk hst hfm hc hN I hi ok hg ht he hs h fun L ce s' m H' I' q hn f => ?_) fun _ s' hq => wpAny_pure (wpAny_pure hq))
  show wpAny _ _ (assign (.Name y py) X.env (.ref L)) _ _ _
  refine wpAny_assign_Name (store_ok2 (v := V.ref L) I' hN hy (.inl hyl) rfl (fun s2 I2 ⟨a, sb, ha⟩ => ?_) (.inr hyl))
  obtain ⟨f0, f1, f2, f3, f4, f5⟩ := f
  have haC : ce.locals ≠ a := by
    rcases ha with z | z
    · rw [z]; exact f1
    · exact fun e => f4 y a z e.symm
  refine ⟨m, hn.sameBut sb haC, fun h3 sb3 => ?_⟩
  exact ⟨_, H', I2.turned (t' := s2.toks) (fun b o hb e => (sb3.2 b hb).trans e) f0 f1 f3 f4 f5, q⟩
end
section
variable {X : Cx} {e o : Expr} {es : List Expr} {p pos apos : Pos} {ta : TE} {t : TA} {C m x : Str} {ps : List Str} {sp : Sp} {j k : Nat} {E : XK}
/-- calls in such a block -/
theorem pcallB (c : Cl X.prog X.w X.K X.mg X.base k x ps sp) (hr : Room j X.A) (hk : k ≤ j) (px : Passes (L2.CX X.prog X.w) X E) (ha : PA X (e :: es) t) (hg : Gl X x := by rfl)
    (he : starEach (e :: es) X.env = (false, eval e X.env) :: starEach es X.env := by rfl) (hpl : (backTo pos (starEach es X.env)).any (·.1) = false := by rfl) (hdb : (x == ("__debug__" : Str)) = false := by decide) :
    PE X (.Call (.Name x p) (e :: es) [] pos) (tCall sp [] E t) := by
  obtain ⟨f, fd, F, m, kp, b⟩ := c.ex
  exact pe_call F (hr.mono hk) hg m kp b .nil px ha hdb he hpl
theorem pmethB {pl : Sem Bool} {K : PySem.W.Frag} (hK : X.K = K) (c : MCl X.prog X.w K X.mg X.base k C m ps sp) (hr : Room j X.A) (hk : k ≤ j) (px : Passes (L2.CX X.prog X.w) X E) (he : PE X o ta) (ha : PA X (e :: es) t)
    (hst : starEach (e :: es) X.env = (false, eval e X.env) :: starEach es X.env := by rfl) (hpl : (backTo pos (starEach es X.env)).any (·.1) = false := by rfl)
    (ht : eval (.Call (.Attribute o m apos) (e :: es) [] pos) X.env = (do
      let ov ← eval o X.env
      standAt apos.atName
      let (f, first) ← holding [ov] (getMethod ov m pl)
      callWith pos f first (backTo pos (starEach (e :: es) X.env)) (backToKw pos (keywordEach [] X.env))) := by rfl) :
    PE X (.Call (.Attribute o m apos) (e :: es) [] pos) (tMethS (He.ga K C) m sp (fun _ => E) ta t) := by
  subst hK
  obtain ⟨f, fd, hc, hm, F, b⟩ := c.ex
  refine ⟨fun pins s σ H Q I h => (pe_meth (pl := pl) he hc hm F (hr.mono hk) b .nil px ha hst hpl ht).run pins s σ H Q I ?_⟩
  simp only [tMeth, List.append_nil]
  exact h
end
end Gx
/-! isinstance(e, (c, c2, ..)), e the error that a suite holds -/
namespace Gx
open PySem PySem.Spec PyProof.Rows L2
def rIsET (K : PySem.W.Frag) (a : Addr) (cls : Value) (d : Option Addr) : List V → Hp → VK → Prop := fun xs H Q => ∃ D : Addr, cls = .ref D ∧ (d = none ∨ ∃ dd fs, d = some dd ∧ H dd = some (.xd fs)) ∧ ExcC K D ∧
  ∃ (tp : Addr) (cs : List V) (us : List Value) (b : Bool), xs = [.ref a, .ref tp] ∧ H tp = some (.tup cs) ∧ PySem.Paired ClsV cs us ∧ PySem.W.kitAny K (.ref D) us = some b ∧ Q (.bl b) H
theorem call_isET {X : Cx} {a : Addr} {cls : Value} {d : Option Addr} {oe : Obj} {pn : List (Addr × Obj)} (hz : Zc cls d oe) (hf : ∃ vs, oe.data = .fields vs) : CallR (X.suite a ((a, oe) :: pn)) (.builtin "isinstance") (rIsET X.K a cls d) := by
  intro pins s σ H xs us Q I r h
  obtain ⟨D, rfl, hd, C, tp, cs, ws, b, rfl, hT, k, e, q⟩ := h
  obtain ⟨u1, u2, rfl, r1, r2⟩ := vals2 r
  cases (show u2 = Value.ref tp from r2)
  cases (show u1 = Value.ref a from r1)
  obtain ⟨_, its, rv, o, h1, h2, n, h3⟩ := (show ObjOk X.prog X.w H s.heap tp (.tup cs) from I.hok tp _ hT)
  have e3 := ClsV.all k rv
  subst e3
  obtain ⟨oc, od, dt, sl⟩ := o
  simp only at h2 h3
  subst h2 h3
  obtain ⟨hget, _⟩ := I.pin (a, oe) (List.mem_append.mpr (.inl List.mem_cons_self))
  obtain ⟨vs, hv⟩ := hf
  rcases hd with rfl | ⟨dd, fs, rfl, hdd⟩
  · have J : PySem.W.InstAt s.heap a oe D none := ⟨hget, hz.1, by unfold PySem.W.notCls; rw [hv] <;> rfl, by rw [hz.2]; exact trivial⟩
    exact PySem.W.kia_tup (PySem.W.kitx_exc (by obtain ⟨cd, hc, _⟩ := PySem.W.any_some C.hd; rw [hc]; rfl) C.hg C.hk C.hs C.ha C.hn C.ht C.hm) I.kIn J h1 e (fun z => nomatch z) fun tk => ⟨.bl b, H, I.kept (t' := tk) fun _ _ z => z, rfl, q⟩
  · have hx : ObjOk X.prog X.w H s.heap dd (.xd fs) := I.hok dd _ hdd
    obtain ⟨mA, hns, hr⟩ := hx
    obtain ⟨od, ho, hl⟩ := lookIn_ns hns
    have J : PySem.W.InstAt s.heap a oe D (some od) := ⟨hget, hz.1, by unfold PySem.W.notCls; rw [hv] <;> rfl, by rw [hz.2]; exact ho⟩
    exact PySem.W.kia_tup (PySem.W.kitx_exc (by obtain ⟨cd, hc, _⟩ := PySem.W.any_some C.hd; rw [hc]; rfl) C.hg C.hk C.hs C.ha C.hn C.ht C.hm) I.kIn J h1 e (fun z => nomatch z) fun tk => ⟨.bl b, H, I.kept (t' := tk) fun _ _ z => z, rfl, q⟩
theorem kany0 {K : PySem.W.Frag} {t : Value} : PySem.W.kitAny K t [] = some false := rfl
theorem kanyF {K : PySem.W.Frag} {t c : Value} {us : List Value} {b : Bool} (h : PySem.W.kitOne K t c = some false) (r : PySem.W.kitAny K t us = some b) : PySem.W.kitAny K t (c :: us) = some b := by
  show (match PySem.W.kitOne K t c with | some true => some true | some false => PySem.W.kitAny K t us | none => none) = some b
  rw [h]
  exact r
theorem kanyT {K : PySem.W.Frag} {t c : Value} {us : List Value} (h : PySem.W.kitOne K t c = some true) : PySem.W.kitAny K t (c :: us) = some true := by
  show (match PySem.W.kitOne K t c with | some true => some true | some false => PySem.W.kitAny K t us | none => none) = some true
  rw [h]
theorem k_isETD {K : PySem.W.Frag} {H : Hp} {Q : VK} {a D dd tp : Addr} {fs : List (Str × V)} {cs : List V} {us : List Value} {b : Bool} (h : H dd = some (.xd fs)) (C : ExcC K D) (ht : H tp = some (.tup cs)) (hp : PySem.Paired ClsV cs us) (hk : PySem.W.kitAny K (.ref D) us = some b) (q : Q (.bl b) H) : rIsET K a (.ref D) (some dd) [.ref a, .ref tp] H Q :=
  ⟨D, rfl, .inr ⟨dd, fs, rfl, h⟩, C, tp, cs, us, b, rfl, ht, hp, hk, q⟩
theorem k_isET {K : PySem.W.Frag} {H : Hp} {Q : VK} {a D tp : Addr} {cs : List V} {us : List Value} {b : Bool} (C : ExcC K D) (ht : H tp = some (.tup cs)) (hp : PySem.Paired ClsV cs us) (hk : PySem.W.kitAny K (.ref D) us = some b) (q : Q (.bl b) H) : rIsET K a (.ref D) none [.ref a, .ref tp] H Q :=
  ⟨D, rfl, .inl rfl, C, tp, cs, us, b, rfl, ht, hp, hk, q⟩
end Gx
/-! all(t), t a tuple; what is never reached -/
namespace Gx
open PySem PySem.Spec PyProof.Rows L2
def rAllT (K : PySem.W.Frag) : List V → Hp → VK → Prop := fun vs H Q => ∃ (a : Addr) (bs : List Bool), vs = [V.ref a] ∧ SqT K H a (bs.map V.bl) ∧ Q (.bl (bs.all id)) H
theorem cr_allT {X : Cx} (hc : X.calm = true) : CallR X (.builtin "all") (rAllT X.K) := by
  intro pins s σ H vs us Q I r h
  obtain ⟨a, bs, rfl, hs, q⟩ := h
  obtain ⟨its, rv, hl, _⟩ := I.tuple hs
  rw [Vals.ref1 r]
  have hb := rv.bls
  have hlt : a < s.heap.objs.size := hl.lt
  refine call_all_walk (wpAny_pyIter_tuple hl ?_)
  refine ⟨_, _, _, _, _, _, _, rfl, Walks.tuple (A := X.A.in1) (I.ok.hd hc) _ a (Nat.ne_of_lt hlt) its.toArray, ⟨⟨_, Heap.get?_push_size _ rfl, rfl, rfl⟩, hl.push _⟩, truth_bools hb, fun h' tk hk => ?_⟩
  refine ⟨.bl _, H, I.kept fun b o eo => hk b o (fun hmem => ?_) (Heap.get?_push_of_some _ eo), ?_, q⟩
  · rcases List.mem_cons.mp hmem with e1 | hmem
    · exact absurd (e1 ▸ Heap.lt_size eo) (Nat.lt_irrefl _)
    · cases hmem
  · show Value.bool _ = Value.bool _
    rw [← L2.all_range, hb, List.size_toArray, List.length_map]
theorem k_allT {K : PySem.W.Frag} {H : Hp} {Q : VK} {a : Addr} {bs : List Bool} (h : SqT K H a (bs.map V.bl)) (q : Q (.bl (bs.all id)) H) : rAllT K [.ref a] H Q := ⟨a, bs, rfl, h, q⟩
end Gx
namespace Gx
open PySem PySem.Spec PyProof.Rows L2
/-- code that is never reached -/
theorem ps_void {X : Cx} {st : Stmt} : PS X st (fun _ _ _ => False) := ⟨fun _ _ _ _ _ _ h => h.elim⟩
theorem pe_void {X : Cx} {e : Expr} : PE X e (fun _ _ _ => False) := ⟨fun _ _ _ _ _ _ h => h.elim⟩
end Gx
open PySem PySem.Spec PyProof.Rows L2 Gx
local macro_rules | `(tactic| walk_at "s1") => `(tactic| first
  | refine k_var rfl ?_ | refine k_c ?_ | refine k_op ?_ | refine k_seq ?_ | refine k_asg ?_ | refine k_gn ?_ | refine k_gcons ?_ | refine k_gnil ?_ | refine k_ifs ?_ | refine k_tst ?_ | refine k_B ?_ | refine k_bl ?_
  | refine k_ret ?_ | refine k_drop ?_ | refine k_next ?_ | refine k_par ?_ | refine k_two ?_ | refine k_for ?_ | refine k_iRng1 ?_ | refine k_iRng2 ?_ | refine k_iList ?_ | refine k_iTup ?_ | refine k_iSeqU ?_
  | refine k_cb ?_ | refine k_cons ?_ | refine k_nil ?_ | refine k_callS ?_ | refine k_call ?_ | refine k_tup0 ?_ | refine k_lst0 ?_ | refine k_bm0 ?_ | refine k_bm ?_
  | refine k_and ?_ | refine k_or ?_ | refine k_not ?_ | refine k_andV ?_ | refine k_orV ?_ | refine k_notV ?_ | refine k_ife ?_ | refine k_chain ?_ | refine k_un ?_ | refine k_rev ?_ | refine k_st ?_ | refine k_revT ?_
  | refine k_I0 ?_ | refine k_addI ?_ | refine k_eqI ?_ | refine k_neI ?_ | refine k_eqT ?_ | refine k_neT ?_ | refine k_eqB ?_ | refine k_neB ?_ | refine k_neg ?_
  | refine k_fld ?_ | refine k_sfld ?_ | refine k_meth ?_ | refine k_make ?_ | refine k_makeB ?_ | refine k_makeS ?_ | refine k_revR ?_ | refine k_iEnum ?_ | refine k_iEnumT ?_ | refine k_isBl ?_ | refine k_notBl ?_ | refine k_lenSetT ?_ | refine k_mk0 ?_ | refine k_mkF ?_ | refine k_iZipM ?_ | refine k_iZipN ?_ | refine k_iStr ?_ | refine k_itS ?_ | refine k_iZipU ?_ | refine k_cntT ?_ | refine k_veI ?_ | refine k_ost ?_ | refine k_xf ?_ | refine k_aug rfl ?_ | refine k_ip ?_ | refine k_frz ?_ | refine k_gsub ?_ | refine k_m1 ?_ | refine k_m0 ?_ | refine k_isS ?_ | refine k_abs ?_ | refine k_max ?_ | refine k_min ?_ | refine k_intI ?_ | refine k_intB ?_ | refine k_lc ?_ | refine k_yes ?_ | refine k_listRg ?_ | refine k_rg1 ?_ | refine k_sl ?_ | refine k_part ?_ | refine k_noPart ?_ | refine k_int ?_ | refine k_dict0 ?_ | refine k_isN ?_ | refine k_notN ?_
  | refine k_nonT ?_ | refine k_nonF ?_ | refine k_refT ?_ | refine k_refF ?_ | refine k_blT ?_ | refine k_blF ?_ | refine k_strT ?_ | refine k_strF ?_ | refine k_ifT ?_ | refine k_ifF ?_ | refine k_ifnT ?_ | refine k_ifnF ?_)
local macro_rules | `(tactic| walk_at "s2") => `(tactic| first
  | refine k_powc (a := 10) (b := 61) (c := 10000000000000000000000000000000000000000000000000000000000000) (by decide +kernel) (cpow (by decide) (by decide) (by decide)) ?_
  | refine k_powc (a := 10) (b := 60) (c := 1000000000000000000000000000000000000000000000000000000000000) (by decide +kernel) (cpow (by decide) (by decide) (by decide)) ?_
  | refine k_powc (a := 10) (b := 12) (c := 1000000000000) (by decide +kernel) (cpow (by decide) (by decide) (by decide)) ?_
  | refine k_powc (a := 10) (b := 5) (c := 100000) (by decide +kernel) (cpow (by decide) (by decide) (by decide)) ?_
  | refine k_powc (a := 10) (b := 6) (c := 1000000) (by decide +kernel) (cpow (by decide) (by decide) (by decide)) ?_
  | refine k_powc (a := 10) (b := 9) (c := 1000000000) (by decide +kernel) (cpow (by decide) (by decide) (by decide)) ?_
  | refine k_powc (a := 10) (b := 20) (c := 100000000000000000000) (by decide +kernel) (cpow (by decide) (by decide) (by decide)) ?_
  | refine k_powc (a := 10) (b := 50) (c := 100000000000000000000000000000000000000000000000000) (by decide +kernel) (cpow (by decide) (by decide) (by decide)) ?_
  | refine k_powc (a := 10) (b := 58) (c := 10000000000000000000000000000000000000000000000000000000000) (by decide +kernel) (cpow (by decide) (by decide) (by decide)) ?_
  | refine k_mod (by first | decide | omega) ?_
  | refine k_div (by first | decide | omega) (by first | decide +kernel | exact k_log (by omega)) ?_)
local macro_rules | `(tactic| walk_at "go") => `(tactic| repeat (first | with_reducible walk_at "s1" | with_reducible walk_at "s2"))
local macro_rules | `(tactic| walk_at "up") => `(tactic| first | assumption | (refine up_same (by assumption) ?_; walk_at "up") | (refine up_but (by assumption) (by first | assumption | (apply Ne.symm; assumption)) ?_; walk_at "up"))
local macro_rules | `(tactic| walk_at "ut") => `(tactic| first | assumption | exact SqT.of (by assumption) | (refine seqT_same (by assumption) ?_; walk_at "ut"))
local macro_rules | `(tactic| walk_at "ul") => `(tactic| first | assumption | exact SqL.of (by assumption) | (refine seqL_same (by assumption) ?_; walk_at "ul"))
local macro_rules | `(tactic| walk_at "n") => `(tactic| first | with_reducible walk_at "s1" | with_reducible walk_at "s2")
local macro_rules | `(tactic| walk_at "lk") => `(tactic| first | exact lk1 | (apply lkn; (decide +kernel); walk_at "lk"))
local macro_rules | `(tactic| walk_at "lz") => `(tactic| first | exact lk0 | (apply lkz; (decide +kernel); walk_at "lz"))
local macro_rules | `(tactic| walk_at "pf") => `(tactic| first | rfl | (rw [pfn]; (walk_at "pf"); (decide +kernel)) | (rw [pf1]; walk_at "pf") | (rw [pf0]; walk_at "pf"))
local macro_rules | `(tactic| walk_at "pl") => `(tactic| first | exact Nat.lt_of_lt_of_le pfl0 (by decide) | exact Nat.lt_of_lt_of_le (pfl pfl0) (by decide) | exact Nat.lt_of_lt_of_le (pfl (pfl pfl0)) (by decide) | exact Nat.lt_of_lt_of_le (pfl (pfl (pfl pfl0))) (by decide) | exact Nat.lt_of_lt_of_le (pfl (pfl (pfl (pfl pfl0)))) (by decide) | exact Nat.lt_of_lt_of_le (pfl (pfl (pfl (pfl (pfl pfl0))))) (by decide) | exact Nat.lt_of_lt_of_le (pfl (pfl (pfl (pfl (pfl (pfl pfl0)))))) (by decide) | exact Nat.lt_of_lt_of_le (pfl (pfl (pfl (pfl (pfl (pfl (pfl pfl0))))))) (by decide) | exact Nat.lt_of_lt_of_le (pfl (pfl (pfl (pfl (pfl (pfl (pfl (pfl pfl0)))))))) (by decide) | exact Nat.lt_of_lt_of_le (pfl (pfl (pfl (pfl (pfl (pfl (pfl (pfl (pfl pfl0))))))))) (by decide) | (simp; done))
local macro_rules | `(tactic| walk_at "st") => `(tactic| repeat (first | with_reducible refine k_next ?_ | with_reducible refine k_seq ?_))
namespace Lw
open PySem PySem.Spec PyProof.Rows L2 Gx
def top (i : Nat) : Stmt := PySem.Challenge.pw_surecount_k49_draws_in_another_order.main.body.getD i (.Pass ⟨0, 0, 0, 0⟩)
abbrev s_in_common : Stmt := top 10
theorem sc_in_common : FnScope ["a", "b"] ["a", "b"] (defScope s_in_common) := ⟨rfl, rfl, rfl, by decide +kernel, rfl, by decide +kernel, by decide +kernel⟩
abbrev s_lowest : Stmt := top 11
theorem sc_lowest : FnScope ["a", "b", "divisor"] ["a", "b"] (defScope s_lowest) := ⟨rfl, rfl, rfl, by decide +kernel, rfl, by decide +kernel, by decide +kernel⟩
abbrev s_plus : Stmt := top 12
theorem sc_plus : FnScope ["x", "y"] ["x", "y"] (defScope s_plus) := ⟨rfl, rfl, rfl, by decide +kernel, rfl, by decide +kernel, by decide +kernel⟩
abbrev s_minus : Stmt := top 13
theorem sc_minus : FnScope ["x", "y"] ["x", "y"] (defScope s_minus) := ⟨rfl, rfl, rfl, by decide +kernel, rfl, by decide +kernel, by decide +kernel⟩
abbrev s_times : Stmt := top 14
theorem sc_times : FnScope ["x", "y"] ["x", "y"] (defScope s_times) := ⟨rfl, rfl, rfl, by decide +kernel, rfl, by decide +kernel, by decide +kernel⟩
abbrev s_over : Stmt := top 15
theorem sc_over : FnScope ["x", "y"] ["x", "y"] (defScope s_over) := ⟨rfl, rfl, rfl, by decide +kernel, rfl, by decide +kernel, by decide +kernel⟩
abbrev s_below : Stmt := top 17
theorem sc_below : FnScope ["x", "y"] ["x", "y"] (defScope s_below) := ⟨rfl, rfl, rfl, by decide +kernel, rfl, by decide +kernel, by decide +kernel⟩
abbrev s_Game___init__ : Stmt := inClass (top 21) 0
theorem sc_Game___init__ : FnScope ["self", "many", "again", "top", "rule"] ["self", "many", "again", "top", "rule"] (defScope s_Game___init__) := ⟨rfl, rfl, rfl, by decide +kernel, rfl, by decide +kernel, by decide +kernel⟩
abbrev s_Game_twin : Stmt := inClass (top 21) 1
theorem sc_Game_twin : FnScope ["self", "other"] ["self"] (defScope s_Game_twin) := ⟨rfl, rfl, rfl, by decide +kernel, rfl, by decide +kernel, by decide +kernel⟩
abbrev s_Game_ended : Stmt := inClass (top 21) 2
theorem sc_Game_ended : FnScope ["self"] ["self"] (defScope s_Game_ended) := ⟨rfl, rfl, rfl, by decide +kernel, rfl, by decide +kernel, by decide +kernel⟩
abbrev s_Game_price : Stmt := inClass (top 21) 3
theorem sc_Game_price : FnScope ["self"] ["self"] (defScope s_Game_price) := ⟨rfl, rfl, rfl, by decide +kernel, rfl, by decide +kernel, by decide +kernel⟩
abbrev s_Game_worth_behind : Stmt := inClass (top 21) 4
theorem sc_Game_worth_behind : FnScope ["self", "value", "price", "stake", "grown"] ["self", "value"] (defScope s_Game_worth_behind) := ⟨rfl, rfl, rfl, by decide +kernel, rfl, by decide +kernel, by decide +kernel⟩
abbrev s_Game_play : Stmt := inClass (top 21) 5
theorem sc_Game_play : FnScope ["self", "value", "worth"] ["self", "value"] (defScope s_Game_play) := ⟨rfl, rfl, rfl, by decide +kernel, rfl, by decide +kernel, by decide +kernel⟩
abbrev s_Game_worth : Stmt := inClass (top 21) 6
theorem sc_Game_worth : FnScope ["self"] ["self"] (defScope s_Game_worth) := ⟨rfl, rfl, rfl, by decide +kernel, rfl, by decide +kernel, by decide +kernel⟩
abbrev s_Game_reached : Stmt := inClass (top 21) 9
theorem sc_Game_reached : FnScope ["self", "limit"] ["self", "limit"] (defScope s_Game_reached) := ⟨rfl, rfl, rfl, by decide +kernel, rfl, by decide +kernel, by decide +kernel⟩
abbrev s_Way___init__ : Stmt := inClass (top 26) 0
theorem sc_Way___init__ : FnScope ["self", "claim"] ["self", "claim"] (defScope s_Way___init__) := ⟨rfl, rfl, rfl, by decide +kernel, rfl, by decide +kernel, by decide +kernel⟩
abbrev s_Looking_value : Stmt := inClass (top 27) 0
theorem sc_Looking_value : FnScope ["self", "number", "mark"] ["self", "number", "mark"] (defScope s_Looking_value) := ⟨rfl, rfl, rfl, by decide +kernel, rfl, by decide +kernel, by decide +kernel⟩
abbrev s_Looking_top : Stmt := inClass (top 27) 1
theorem sc_Looking_top : FnScope ["self"] ["self"] (defScope s_Looking_top) := ⟨rfl, rfl, rfl, by decide +kernel, rfl, by decide +kernel, by decide +kernel⟩
abbrev s_way_of : Stmt := top 31
theorem sc_way_of : FnScope ["claim", "record", "k", "ballot"] ["claim", "record", "k"] (defScope s_way_of) := ⟨rfl, rfl, rfl, by decide +kernel, rfl, by decide +kernel, by decide +kernel⟩
abbrev s_is_mark : Stmt := top 32
theorem sc_is_mark : FnScope ["thing", "names"] ["thing", "names"] (defScope s_is_mark) := ⟨rfl, rfl, rfl, by decide +kernel, rfl, by decide +kernel, by decide +kernel⟩
abbrev s_Sheet___init__ : Stmt := inClass (top 33) 0
theorem sc_Sheet___init__ : FnScope ["self", "names", "limit"] ["self", "names", "limit"] (defScope s_Sheet___init__) := ⟨rfl, rfl, rfl, by decide +kernel, rfl, by decide +kernel, by decide +kernel⟩
abbrev s_Sheet_add : Stmt := inClass (top 33) 1
theorem sc_Sheet_add : FnScope ["self", "way", "game"] ["self", "way", "game"] (defScope s_Sheet_add) := ⟨rfl, rfl, rfl, by decide +kernel, rfl, by decide +kernel, by decide +kernel⟩
abbrev s_Sheet_is_sure : Stmt := inClass (top 33) 2
theorem sc_Sheet_is_sure : FnScope ["self", "game"] ["self"] (defScope s_Sheet_is_sure) := ⟨rfl, rfl, rfl, by decide +kernel, rfl, by decide +kernel, by decide +kernel⟩
abbrev s_Sheet_played : Stmt := inClass (top 33) 3
theorem sc_Sheet_played : FnScope ["self", "number", "mark", "some", "way", "game", "more"] ["self", "number", "mark"] (defScope s_Sheet_played) := ⟨rfl, rfl, rfl, by decide +kernel, rfl, by decide +kernel, by decide +kernel⟩
abbrev s_Audit___init__ : Stmt := inClass (top 34) 0
theorem sc_Audit___init__ : FnScope ["self", "contests", "outcomes", "limits", "many", "record", "rule", "again", "most", "contest", "claims", "k", "sheet", "claim", "way", "outcome"] ["self", "contests", "outcomes", "limits", "many", "record", "rule", "again", "most"] (defScope s_Audit___init__) := ⟨rfl, rfl, rfl, by decide +kernel, rfl, by decide +kernel, by decide +kernel⟩
abbrev s_Audit_sure_of : Stmt := inClass (top 34) 1
theorem sc_Audit_sure_of : FnScope ["self", "sheet"] ["self"] (defScope s_Audit_sure_of) := ⟨rfl, rfl, rfl, by decide +kernel, rfl, by decide +kernel, by decide +kernel⟩
abbrev s_Audit_worths : Stmt := inClass (top 34) 2
theorem sc_Audit_worths : FnScope ["self", "sheet", "game"] ["self"] (defScope s_Audit_worths) := ⟨rfl, rfl, rfl, by decide +kernel, rfl, by decide +kernel, by decide +kernel⟩
abbrev s_Audit_verdict : Stmt := inClass (top 34) 3
theorem sc_Audit_verdict : FnScope ["self"] ["self"] (defScope s_Audit_verdict) := ⟨rfl, rfl, rfl, by decide +kernel, rfl, by decide +kernel, by decide +kernel⟩
abbrev s_Audit_is_number : Stmt := inClass (top 34) 4
theorem sc_Audit_is_number : FnScope ["self", "thing"] ["self", "thing"] (defScope s_Audit_is_number) := ⟨rfl, rfl, rfl, by decide +kernel, rfl, by decide +kernel, by decide +kernel⟩
abbrev s_Audit_is_ballot : Stmt := inClass (top 34) 5
theorem sc_Audit_is_ballot : FnScope ["self", "thing", "mark", "sheet"] ["self", "thing"] (defScope s_Audit_is_ballot) := ⟨rfl, rfl, rfl, by decide +kernel, rfl, by decide +kernel, by decide +kernel⟩
abbrev s_Audit_draw : Stmt := inClass (top 34) 6
theorem sc_Audit_draw : FnScope ["self", "number", "ballot", "marks", "sheet", "rows", "games", "mark"] ["self", "number", "ballot"] (defScope s_Audit_draw) := ⟨rfl, rfl, rfl, by decide +kernel, rfl, by decide +kernel, by decide +kernel⟩
abbrev s_Claim_value : Stmt := inClass (top 39) 0
theorem sc_Claim_value : FnScope ["self", "mark"] ["self", "mark"] (defScope s_Claim_value) := ⟨rfl, rfl, rfl, by decide +kernel, rfl, by decide +kernel, by decide +kernel⟩
abbrev s_Claim_value_of : Stmt := inClass (top 39) 1
theorem sc_Claim_value_of : FnScope ["self", "mark"] ["self", "mark"] (defScope s_Claim_value_of) := ⟨rfl, rfl, rfl, by decide +kernel, rfl, by decide +kernel, by decide +kernel⟩
abbrev s_Claim_greatest : Stmt := inClass (top 39) 2
theorem sc_Claim_greatest : FnScope ["self"] ["self"] (defScope s_Claim_greatest) := ⟨rfl, rfl, rfl, by decide +kernel, rfl, by decide +kernel, by decide +kernel⟩
abbrev s_Beats___init__ : Stmt := inClass (top 40) 0
theorem sc_Beats___init__ : FnScope ["self", "one", "other"] ["self", "one", "other"] (defScope s_Beats___init__) := ⟨rfl, rfl, rfl, by decide +kernel, rfl, by decide +kernel, by decide +kernel⟩
abbrev s_Beats_value_of : Stmt := inClass (top 40) 1
theorem sc_Beats_value_of : FnScope ["self", "mark"] ["self", "mark"] (defScope s_Beats_value_of) := ⟨rfl, rfl, rfl, by decide +kernel, rfl, by decide +kernel, by decide +kernel⟩
abbrev s_Beats_greatest : Stmt := inClass (top 40) 2
theorem sc_Beats_greatest : FnScope ["self"] ["self"] (defScope s_Beats_greatest) := ⟨rfl, rfl, rfl, by decide +kernel, rfl, by decide +kernel, by decide +kernel⟩
abbrev s_Contest___init__ : Stmt := inClass (top 42) 0
theorem sc_Contest___init__ : FnScope ["self", "names"] ["self", "names"] (defScope s_Contest___init__) := ⟨rfl, rfl, rfl, by decide +kernel, rfl, by decide +kernel, by decide +kernel⟩
abbrev s_Contest_named : Stmt := inClass (top 42) 1
theorem sc_Contest_named : FnScope ["self"] ["self"] (defScope s_Contest_named) := ⟨rfl, rfl, rfl, by decide +kernel, rfl, by decide +kernel, by decide +kernel⟩
abbrev s_Most___init__ : Stmt := inClass (top 43) 0
theorem sc_Most___init__ : FnScope ["self", "names", "seats"] ["self", "names", "seats"] (defScope s_Most___init__) := ⟨rfl, rfl, rfl, by decide +kernel, rfl, by decide +kernel, by decide +kernel⟩
abbrev s_Most_claims : Stmt := inClass (top 43) 2
theorem sc_Most_claims : FnScope ["self", "outcome", "found", "one", "other", "name"] ["self", "outcome"] (defScope s_Most_claims) := ⟨rfl, rfl, rfl, by decide +kernel, rfl, by decide +kernel, by decide +kernel⟩
abbrev s_Rule_stake : Stmt := inClass (top 46) 0
theorem sc_Rule_stake : FnScope ["self", "past", "price", "top"] ["self", "past", "price", "top"] (defScope s_Rule_stake) := ⟨rfl, rfl, rfl, by decide +kernel, rfl, by decide +kernel, by decide +kernel⟩
abbrev s_Fixed___init__ : Stmt := inClass (top 47) 0
theorem sc_Fixed___init__ : FnScope ["self", "part"] ["self", "part"] (defScope s_Fixed___init__) := ⟨rfl, rfl, rfl, by decide +kernel, rfl, by decide +kernel, by decide +kernel⟩
abbrev s_Fixed_stake : Stmt := inClass (top 47) 1
theorem sc_Fixed_stake : FnScope ["self", "past", "price", "top"] ["self", "past", "price", "top"] (defScope s_Fixed_stake) := ⟨rfl, rfl, rfl, by decide +kernel, rfl, by decide +kernel, by decide +kernel⟩
abbrev s__law_at : Stmt := top 50
theorem sc__law_at : FnScope ["_law_script", "_law_k"] ["_law_script", "_law_k"] (defScope s__law_at) := ⟨rfl, rfl, rfl, by decide +kernel, rfl, by decide +kernel, by decide +kernel⟩
abbrev s__law_mix : Stmt := top 51
theorem sc__law_mix : FnScope ["_law_cell", "_law_k", "_law_number", "_law_j"] ["_law_cell", "_law_k"] (defScope s__law_mix) := ⟨rfl, rfl, rfl, by decide +kernel, rfl, by decide +kernel, by decide +kernel⟩
abbrev s__law_names : Stmt := top 52
theorem sc__law_names : FnScope ["_law_cell", "_law_many", "_law_letters", "_law_size", "_law_base", "_law_spot", "_law_first", "_law_step", "_law_k"] ["_law_cell", "_law_many"] (defScope s__law_names) := ⟨rfl, rfl, rfl, by decide +kernel, rfl, by decide +kernel, by decide +kernel⟩
abbrev s__law_lowest : Stmt := top 53
theorem sc__law_lowest : FnScope ["_law_a", "_law_b", "_law_one", "_law_other"] ["_law_a", "_law_b"] (defScope s__law_lowest) := ⟨rfl, rfl, rfl, by decide +kernel, rfl, by decide +kernel, by decide +kernel⟩
abbrev s__law_plus : Stmt := top 54
theorem sc__law_plus : FnScope ["_law_x", "_law_y"] ["_law_x", "_law_y"] (defScope s__law_plus) := ⟨rfl, rfl, rfl, by decide +kernel, rfl, by decide +kernel, by decide +kernel⟩
abbrev s__law_times : Stmt := top 55
theorem sc__law_times : FnScope ["_law_x", "_law_y"] ["_law_x", "_law_y"] (defScope s__law_times) := ⟨rfl, rfl, rfl, by decide +kernel, rfl, by decide +kernel, by decide +kernel⟩
abbrev s__law_value : Stmt := top 57
theorem sc__law_value : FnScope ["_law_one", "_law_other", "_law_mark"] ["_law_one", "_law_other", "_law_mark"] (defScope s__law_value) := ⟨rfl, rfl, rfl, by decide +kernel, rfl, by decide +kernel, by decide +kernel⟩
abbrev s__law_contest : Stmt := top 58
theorem sc__law_contest : FnScope ["_law_cell", "_law_names_here"] ["_law_cell", "_law_names_here"] (defScope s__law_contest) := ⟨rfl, rfl, rfl, by decide +kernel, rfl, by decide +kernel, by decide +kernel⟩
abbrev s__law_guess : Stmt := top 59
theorem sc__law_guess : FnScope ["_law_contest_here", "_law_cell", "_law_names_here", "_law_part", "_law_first", "_law_some", "_law_k", "_law_name"] ["_law_contest_here", "_law_cell"] (defScope s__law_guess) := ⟨rfl, rfl, rfl, by decide +kernel, rfl, by decide +kernel, by decide +kernel⟩
abbrev s__law_ballot : Stmt := top 60
theorem sc__law_ballot : FnScope ["_law_cell", "_law_contests", "_law_marks", "_law_k", "_law_pool"] ["_law_cell", "_law_contests"] (defScope s__law_ballot) := ⟨rfl, rfl, rfl, by decide +kernel, rfl, by decide +kernel, by decide +kernel⟩
abbrev s__law_worths : Stmt := top 61
theorem sc__law_worths : FnScope ["_law_contests", "_law_outcomes", "_law_draws", "_law_part", "_law_found", "_law_k", "_law_some", "_law_one", "_law_other", "_law_worth", "_law_number", "_law_ballot_here", "_law_mark", "_law_value_here", "_law_won", "_law_name"] ["_law_contests", "_law_outcomes", "_law_draws", "_law_part"] (defScope s__law_worths) := ⟨rfl, rfl, rfl, by decide +kernel, rfl, by decide +kernel, by decide +kernel⟩
abbrev s__law_exchanged : Stmt := top 62
theorem sc__law_exchanged : FnScope ["_law_draws", "_law_cell", "_law_left", "_law_found", "_law_k"] ["_law_draws", "_law_cell"] (defScope s__law_exchanged) := ⟨rfl, rfl, rfl, by decide +kernel, rfl, by decide +kernel, by decide +kernel⟩
abbrev s_law : Stmt := top 63
theorem sc_law : FnScope ["_law_script", "_law_head", "_law_names_here", "_law_contests", "_law_k", "_law_outcomes", "_law_part", "_law_many", "_law_draws", "_law_cell", "_law_due", "_law_made", "_law_limits", "_law_orders", "_law_order", "_law_audits", "_law_audit", "_law_names_here_here", "_law_seats"] ["_law_script"] (defScope s_law) := ⟨rfl, rfl, rfl, by decide +kernel, rfl, by decide +kernel, by decide +kernel⟩
abbrev FnP (K : PySem.W.Frag) (x q : Str) (st : Stmt) (f : Addr) (fd : FuncData) : Prop := FunD K x q (defArgs st) (defBody st) (defScope st) [] [] f fd
structure Txt (K : PySem.W.Frag) (mg : Str → Option Value) : Prop where
  n_abs : mg "abs" = none
  n_all : mg "all" = none
  n_bool : mg "bool" = none
  n_enumerate : mg "enumerate" = none
  n_int : mg "int" = none
  n_isinstance : mg "isinstance" = none
  n_len : mg "len" = none
  n_list : mg "list" = none
  n_max : mg "max" = none
  n_min : mg "min" = none
  n_range : mg "range" = none
  n_sorted : mg "sorted" = none
  n_str : mg "str" = none
  n_tuple : mg "tuple" = none
  n_zip : mg "zip" = none
  c_Ended : ∃ u, mg "Ended" = some u ∧ RelV (.ref (He.ga K "Ended")) u
  c_HALF : ∃ u, mg "HALF" = some u ∧ RelV (.ref (He.ga K "HALF")) u
  t_HALF : ∀ H, SqT K H (He.ga K "HALF") [V.int 1, V.int 2]
  c_LACKS : ∃ u, mg "LACKS" = some u ∧ RelV (.str "?") u
  c_NOUGHT_claims : ∃ u, mg "NOUGHT_claims" = some u ∧ RelV (.ref (He.ga K "NOUGHT_claims")) u
  t_NOUGHT_claims : ∀ H, SqT K H (He.ga K "NOUGHT_claims") [V.int 0, V.int 1]
  c_NOUGHT_games : ∃ u, mg "NOUGHT_games" = some u ∧ RelV (.ref (He.ga K "NOUGHT_games")) u
  t_NOUGHT_games : ∀ H, SqT K H (He.ga K "NOUGHT_games") [V.int 0, V.int 1]
  c_NOUGHT_rules : ∃ u, mg "NOUGHT_rules" = some u ∧ RelV (.ref (He.ga K "NOUGHT_rules")) u
  t_NOUGHT_rules : ∀ H, SqT K H (He.ga K "NOUGHT_rules") [V.int 0, V.int 1]
  c_NOUGHT_ways : ∃ u, mg "NOUGHT_ways" = some u ∧ RelV (.ref (He.ga K "NOUGHT_ways")) u
  t_NOUGHT_ways : ∀ H, SqT K H (He.ga K "NOUGHT_ways") [V.int 0, V.int 1]
  c_NoBallot : ∃ u, mg "NoBallot" = some u ∧ RelV (.ref (He.ga K "NoBallot")) u
  c_NoFraction : ∃ u, mg "NoFraction" = some u ∧ RelV (.ref (He.ga K "NoFraction")) u
  c_NoMargin : ∃ u, mg "NoMargin" = some u ∧ RelV (.ref (He.ga K "NoMargin")) u
  c_NoNumber : ∃ u, mg "NoNumber" = some u ∧ RelV (.ref (He.ga K "NoNumber")) u
  c_NoOutcome : ∃ u, mg "NoOutcome" = some u ∧ RelV (.ref (He.ga K "NoOutcome")) u
  c_ONE_claims : ∃ u, mg "ONE_claims" = some u ∧ RelV (.ref (He.ga K "ONE_claims")) u
  t_ONE_claims : ∀ H, SqT K H (He.ga K "ONE_claims") [V.int 1, V.int 1]
  c_ONE_games : ∃ u, mg "ONE_games" = some u ∧ RelV (.ref (He.ga K "ONE_games")) u
  t_ONE_games : ∀ H, SqT K H (He.ga K "ONE_games") [V.int 1, V.int 1]
  c_ONE_ways : ∃ u, mg "ONE_ways" = some u ∧ RelV (.ref (He.ga K "ONE_ways")) u
  t_ONE_ways : ∀ H, SqT K H (He.ga K "ONE_ways") [V.int 1, V.int 1]
  c_TWO : ∃ u, mg "TWO" = some u ∧ RelV (.ref (He.ga K "TWO")) u
  t_TWO : ∀ H, SqT K H (He.ga K "TWO") [V.int 2, V.int 1]
  cl_Game : Cls K (He.ga K "Game")
  f_Game_many : NoAttr K (He.ga K "Game") "many"
  f_Game_again : NoAttr K (He.ga K "Game") "again"
  f_Game_highest : NoAttr K (He.ga K "Game") "highest"
  f_Game_rule : NoAttr K (He.ga K "Game") "rule"
  f_Game_drawn_values : NoAttr K (He.ga K "Game") "drawn_values"
  f_Game_sum_so_far : NoAttr K (He.ga K "Game") "sum_so_far"
  f_Game_now : NoAttr K (He.ga K "Game") "now"
  f_Game_most : NoAttr K (He.ga K "Game") "most"
  f_Game_certain : NoAttr K (He.ga K "Game") "certain"
  cl_Fixed : Cls K (He.ga K "Fixed")
  f_Fixed_part : NoAttr K (He.ga K "Fixed") "part"
  cl_Rule : Cls K (He.ga K "Rule")
  cl_Beats : Cls K (He.ga K "Beats")
  f_Beats_one : NoAttr K (He.ga K "Beats") "one"
  f_Beats_other : NoAttr K (He.ga K "Beats") "other"
  cl_Claim : Cls K (He.ga K "Claim")
  cl_Looking : Cls K (He.ga K "Looking")
  f_Looking_claim : NoAttr K (He.ga K "Looking") "claim"
  cl_Sheet : Cls K (He.ga K "Sheet")
  f_Sheet_names : NoAttr K (He.ga K "Sheet") "names"
  f_Sheet_limit : NoAttr K (He.ga K "Sheet") "limit"
  f_Sheet_ways : NoAttr K (He.ga K "Sheet") "ways"
  f_Sheet_games : NoAttr K (He.ga K "Sheet") "games"
  cl_Most : Cls K (He.ga K "Most")
  f_Most_seats : NoAttr K (He.ga K "Most") "seats"
  f_Most_names : NoAttr K (He.ga K "Most") "names"
  cl_Audit : Cls K (He.ga K "Audit")
  f_Audit_sheets : NoAttr K (He.ga K "Audit") "sheets"
  f_Audit_many : NoAttr K (He.ga K "Audit") "many"
  f_Audit_again : NoAttr K (He.ga K "Audit") "again"
  f_Audit_most : NoAttr K (He.ga K "Audit") "most"
  f_Audit_numbers : NoAttr K (He.ga K "Audit") "numbers"
  cl_Contest : Cls K (He.ga K "Contest")
  f_Contest_names : NoAttr K (He.ga K "Contest") "names"
  cl_Way : Cls K (He.ga K "Way")
  f_Way_claim : NoAttr K (He.ga K "Way") "claim"
  cl_Comparing : Cls K (He.ga K "Comparing")
  f_Comparing_told : NoAttr K (He.ga K "Comparing") "told"
  f_Comparing_scale : NoAttr K (He.ga K "Comparing") "scale"
  f_Comparing_claim : NoAttr K (He.ga K "Comparing") "claim"
  mk_Game : Mk K (He.ga K "Game") (He.ma K (He.ga K "Game") "__init__")
  gk_Game : mg "Game" = some (.ref (He.ga K "Game"))
  me_Game_ended : Meth K (He.ga K "Game") "ended" (He.ma K (He.ga K "Game") "ended")
  me_Fixed_stake : Meth K (He.ga K "Fixed") "stake" (He.ma K (He.ga K "Fixed") "stake")
  me_Rule_stake : Meth K (He.ga K "Rule") "stake" (He.ma K (He.ga K "Rule") "stake")
  me_Game_price : Meth K (He.ga K "Game") "price" (He.ma K (He.ga K "Game") "price")
  me_Game_worth_behind : Meth K (He.ga K "Game") "worth_behind" (He.ma K (He.ga K "Game") "worth_behind")
  me_Beats_value : Meth K (He.ga K "Beats") "value" (He.ma K (He.ga K "Claim") "value")
  me_Claim_value : Meth K (He.ga K "Claim") "value" (He.ma K (He.ga K "Claim") "value")
  me_Beats_greatest : Meth K (He.ga K "Beats") "greatest" (He.ma K (He.ga K "Beats") "greatest")
  me_Claim_greatest : Meth K (He.ga K "Claim") "greatest" (He.ma K (He.ga K "Claim") "greatest")
  mk_Looking : Mk K (He.ga K "Looking") (He.ma K (He.ga K "Way") "__init__")
  gk_Looking : mg "Looking" = some (.ref (He.ga K "Looking"))
  me_Game_reached : Meth K (He.ga K "Game") "reached" (He.ma K (He.ga K "Game") "reached")
  me_Game_play : Meth K (He.ga K "Game") "play" (He.ma K (He.ga K "Game") "play")
  me_Looking_value : Meth K (He.ga K "Looking") "value" (He.ma K (He.ga K "Looking") "value")
  me_Game_twin : Meth K (He.ga K "Game") "twin" (He.ma K (He.ga K "Game") "twin")
  me_Sheet_add : Meth K (He.ga K "Sheet") "add" (He.ma K (He.ga K "Sheet") "add")
  me_Looking_top : Meth K (He.ga K "Looking") "top" (He.ma K (He.ga K "Looking") "top")
  mk_Sheet : Mk K (He.ga K "Sheet") (He.ma K (He.ga K "Sheet") "__init__")
  gk_Sheet : mg "Sheet" = some (.ref (He.ga K "Sheet"))
  me_Most_named : Meth K (He.ga K "Most") "named" (He.ma K (He.ga K "Contest") "named")
  me_Most_claims : Meth K (He.ga K "Most") "claims" (He.ma K (He.ga K "Most") "claims")
  me_Sheet_is_sure : Meth K (He.ga K "Sheet") "is_sure" (He.ma K (He.ga K "Sheet") "is_sure")
  me_Game_worth : Meth K (He.ga K "Game") "worth" (He.ma K (He.ga K "Game") "worth")
  me_Audit_sure_of : Meth K (He.ga K "Audit") "sure_of" (He.ma K (He.ga K "Audit") "sure_of")
  me_Audit_verdict : Meth K (He.ga K "Audit") "verdict" (He.ma K (He.ga K "Audit") "verdict")
  me_Sheet_played : Meth K (He.ga K "Sheet") "played" (He.ma K (He.ga K "Sheet") "played")
  me_Audit_is_ballot : Meth K (He.ga K "Audit") "is_ballot" (He.ma K (He.ga K "Audit") "is_ballot")
  me_Audit_is_number : Meth K (He.ga K "Audit") "is_number" (He.ma K (He.ga K "Audit") "is_number")
  me_Beats_value_of : Meth K (He.ga K "Beats") "value_of" (He.ma K (He.ga K "Beats") "value_of")
  me_Claim_value_of : Meth K (He.ga K "Claim") "value_of" (He.ma K (He.ga K "Claim") "value_of")
  su_Contest___init__ : ClX.CRead K (He.ga K "Contest") (.type "type") ∧ PySem.W.findCls K (.ref (He.ga K "Contest")) (.type "type") "__init__" = some (.val (.ref (He.ma K (He.ga K "Contest") "__init__"))) ∧ PySem.W.keepIn K (.ref (He.ma K (He.ga K "Contest") "__init__")) = true
  gs_Contest___init__ : mg "Contest" = some (.ref (He.ga K "Contest"))
  mk_Beats : Mk K (He.ga K "Beats") (He.ma K (He.ga K "Beats") "__init__")
  gk_Beats : mg "Beats" = some (.ref (He.ga K "Beats"))
  me_Audit_worths : Meth K (He.ga K "Audit") "worths" (He.ma K (He.ga K "Audit") "worths")
  me_Audit_draw : Meth K (He.ga K "Audit") "draw" (He.ma K (He.ga K "Audit") "draw")
  mk_Audit : Mk K (He.ga K "Audit") (He.ma K (He.ga K "Audit") "__init__")
  gk_Audit : mg "Audit" = some (.ref (He.ga K "Audit"))
  mk_Fixed : Mk K (He.ga K "Fixed") (He.ma K (He.ga K "Fixed") "__init__")
  gk_Fixed : mg "Fixed" = some (.ref (He.ga K "Fixed"))
  mk_Most : Mk K (He.ga K "Most") (He.ma K (He.ga K "Most") "__init__")
  gk_Most : mg "Most" = some (.ref (He.ga K "Most"))
  g_Ended : mg "Ended" = some (.ref (He.ga K "Ended"))
  g_NoBallot : mg "NoBallot" = some (.ref (He.ga K "NoBallot"))
  g_NoFraction : mg "NoFraction" = some (.ref (He.ga K "NoFraction"))
  g_NoNumber : mg "NoNumber" = some (.ref (He.ga K "NoNumber"))
  g_NoOutcome : mg "NoOutcome" = some (.ref (He.ga K "NoOutcome"))
  x_Ended : PySem.W.excIn K (He.ga K "Ended") He.veBase "ValueError.__new__" = true ∧ PySem.W.keepIn K (.ref (He.ga K "Ended")) = true ∧ PySem.W.subIn K (.ref (He.ga K "Ended")) (.type "BaseException") = some true ∧ PySem.W.typeIn K (.ref (He.ga K "Ended")) = some (.type "type")
  x_NoBallot : PySem.W.excIn K (He.ga K "NoBallot") He.veBase "ValueError.__new__" = true ∧ PySem.W.keepIn K (.ref (He.ga K "NoBallot")) = true ∧ PySem.W.subIn K (.ref (He.ga K "NoBallot")) (.type "BaseException") = some true ∧ PySem.W.typeIn K (.ref (He.ga K "NoBallot")) = some (.type "type")
  x_NoFraction : PySem.W.excIn K (He.ga K "NoFraction") He.veBase "ValueError.__new__" = true ∧ PySem.W.keepIn K (.ref (He.ga K "NoFraction")) = true ∧ PySem.W.subIn K (.ref (He.ga K "NoFraction")) (.type "BaseException") = some true ∧ PySem.W.typeIn K (.ref (He.ga K "NoFraction")) = some (.type "type")
  x_NoNumber : PySem.W.excIn K (He.ga K "NoNumber") He.veBase "ValueError.__new__" = true ∧ PySem.W.keepIn K (.ref (He.ga K "NoNumber")) = true ∧ PySem.W.subIn K (.ref (He.ga K "NoNumber")) (.type "BaseException") = some true ∧ PySem.W.typeIn K (.ref (He.ga K "NoNumber")) = some (.type "type")
  x_NoOutcome : PySem.W.excIn K (He.ga K "NoOutcome") He.veBase "ValueError.__new__" = true ∧ PySem.W.keepIn K (.ref (He.ga K "NoOutcome")) = true ∧ PySem.W.subIn K (.ref (He.ga K "NoOutcome")) (.type "BaseException") = some true ∧ PySem.W.typeIn K (.ref (He.ga K "NoOutcome")) = some (.type "type")
end Lw
namespace Lw
open PySem PySem.Spec PyProof.Rows L2 Gx
def d_in_common : He.DefD := ⟨("in_common", none), "in_common", "in_common", defArgs s_in_common, defBody s_in_common, defScope s_in_common, [], []⟩
def d_lowest : He.DefD := ⟨("lowest", none), "lowest", "lowest", defArgs s_lowest, defBody s_lowest, defScope s_lowest, [], []⟩
def d_plus : He.DefD := ⟨("plus", none), "plus", "plus", defArgs s_plus, defBody s_plus, defScope s_plus, [], []⟩
def d_minus : He.DefD := ⟨("minus", none), "minus", "minus", defArgs s_minus, defBody s_minus, defScope s_minus, [], []⟩
def d_times : He.DefD := ⟨("times", none), "times", "times", defArgs s_times, defBody s_times, defScope s_times, [], []⟩
def d_over : He.DefD := ⟨("over", none), "over", "over", defArgs s_over, defBody s_over, defScope s_over, [], []⟩
def d_below : He.DefD := ⟨("below", none), "below", "below", defArgs s_below, defBody s_below, defScope s_below, [], []⟩
def d_Game___init__ : He.DefD := ⟨("Game", some "__init__"), "__init__", "Game.__init__", defArgs s_Game___init__, defBody s_Game___init__, defScope s_Game___init__, [], []⟩
def d_Game_twin : He.DefD := ⟨("Game", some "twin"), "twin", "Game.twin", defArgs s_Game_twin, defBody s_Game_twin, defScope s_Game_twin, [], []⟩
def d_Game_ended : He.DefD := ⟨("Game", some "ended"), "ended", "Game.ended", defArgs s_Game_ended, defBody s_Game_ended, defScope s_Game_ended, [], []⟩
def d_Game_price : He.DefD := ⟨("Game", some "price"), "price", "Game.price", defArgs s_Game_price, defBody s_Game_price, defScope s_Game_price, [], []⟩
def d_Game_worth_behind : He.DefD := ⟨("Game", some "worth_behind"), "worth_behind", "Game.worth_behind", defArgs s_Game_worth_behind, defBody s_Game_worth_behind, defScope s_Game_worth_behind, [], []⟩
def d_Game_play : He.DefD := ⟨("Game", some "play"), "play", "Game.play", defArgs s_Game_play, defBody s_Game_play, defScope s_Game_play, [], []⟩
def d_Game_worth : He.DefD := ⟨("Game", some "worth"), "worth", "Game.worth", defArgs s_Game_worth, defBody s_Game_worth, defScope s_Game_worth, [], []⟩
def d_Game_reached : He.DefD := ⟨("Game", some "reached"), "reached", "Game.reached", defArgs s_Game_reached, defBody s_Game_reached, defScope s_Game_reached, [], []⟩
def d_Way___init__ : He.DefD := ⟨("Way", some "__init__"), "__init__", "Way.__init__", defArgs s_Way___init__, defBody s_Way___init__, defScope s_Way___init__, [], []⟩
def d_Looking_value : He.DefD := ⟨("Looking", some "value"), "value", "Looking.value", defArgs s_Looking_value, defBody s_Looking_value, defScope s_Looking_value, [], []⟩
def d_Looking_top : He.DefD := ⟨("Looking", some "top"), "top", "Looking.top", defArgs s_Looking_top, defBody s_Looking_top, defScope s_Looking_top, [], []⟩
def d_way_of : He.DefD := ⟨("way_of", none), "way_of", "way_of", defArgs s_way_of, defBody s_way_of, defScope s_way_of, [], []⟩
def d_is_mark : He.DefD := ⟨("is_mark", none), "is_mark", "is_mark", defArgs s_is_mark, defBody s_is_mark, defScope s_is_mark, [], []⟩
def d_Sheet___init__ : He.DefD := ⟨("Sheet", some "__init__"), "__init__", "Sheet.__init__", defArgs s_Sheet___init__, defBody s_Sheet___init__, defScope s_Sheet___init__, [], []⟩
def d_Sheet_add : He.DefD := ⟨("Sheet", some "add"), "add", "Sheet.add", defArgs s_Sheet_add, defBody s_Sheet_add, defScope s_Sheet_add, [], []⟩
def d_Sheet_is_sure : He.DefD := ⟨("Sheet", some "is_sure"), "is_sure", "Sheet.is_sure", defArgs s_Sheet_is_sure, defBody s_Sheet_is_sure, defScope s_Sheet_is_sure, [], []⟩
def d_Sheet_played : He.DefD := ⟨("Sheet", some "played"), "played", "Sheet.played", defArgs s_Sheet_played, defBody s_Sheet_played, defScope s_Sheet_played, [], []⟩
def d_Audit___init__ : He.DefD := ⟨("Audit", some "__init__"), "__init__", "Audit.__init__", defArgs s_Audit___init__, defBody s_Audit___init__, defScope s_Audit___init__, [], []⟩
def d_Audit_sure_of : He.DefD := ⟨("Audit", some "sure_of"), "sure_of", "Audit.sure_of", defArgs s_Audit_sure_of, defBody s_Audit_sure_of, defScope s_Audit_sure_of, [], []⟩
def d_Audit_worths : He.DefD := ⟨("Audit", some "worths"), "worths", "Audit.worths", defArgs s_Audit_worths, defBody s_Audit_worths, defScope s_Audit_worths, [], []⟩
def d_Audit_verdict : He.DefD := ⟨("Audit", some "verdict"), "verdict", "Audit.verdict", defArgs s_Audit_verdict, defBody s_Audit_verdict, defScope s_Audit_verdict, [], []⟩
def d_Audit_is_number : He.DefD := ⟨("Audit", some "is_number"), "is_number", "Audit.is_number", defArgs s_Audit_is_number, defBody s_Audit_is_number, defScope s_Audit_is_number, [], []⟩
def d_Audit_is_ballot : He.DefD := ⟨("Audit", some "is_ballot"), "is_ballot", "Audit.is_ballot", defArgs s_Audit_is_ballot, defBody s_Audit_is_ballot, defScope s_Audit_is_ballot, [], []⟩
def d_Audit_draw : He.DefD := ⟨("Audit", some "draw"), "draw", "Audit.draw", defArgs s_Audit_draw, defBody s_Audit_draw, defScope s_Audit_draw, [], []⟩
def d_Claim_value : He.DefD := ⟨("Claim", some "value"), "value", "Claim.value", defArgs s_Claim_value, defBody s_Claim_value, defScope s_Claim_value, [], []⟩
def d_Claim_value_of : He.DefD := ⟨("Claim", some "value_of"), "value_of", "Claim.value_of", defArgs s_Claim_value_of, defBody s_Claim_value_of, defScope s_Claim_value_of, [], []⟩
def d_Claim_greatest : He.DefD := ⟨("Claim", some "greatest"), "greatest", "Claim.greatest", defArgs s_Claim_greatest, defBody s_Claim_greatest, defScope s_Claim_greatest, [], []⟩
def d_Beats___init__ : He.DefD := ⟨("Beats", some "__init__"), "__init__", "Beats.__init__", defArgs s_Beats___init__, defBody s_Beats___init__, defScope s_Beats___init__, [], []⟩
def d_Beats_value_of : He.DefD := ⟨("Beats", some "value_of"), "value_of", "Beats.value_of", defArgs s_Beats_value_of, defBody s_Beats_value_of, defScope s_Beats_value_of, [], []⟩
def d_Beats_greatest : He.DefD := ⟨("Beats", some "greatest"), "greatest", "Beats.greatest", defArgs s_Beats_greatest, defBody s_Beats_greatest, defScope s_Beats_greatest, [], []⟩
def d_Contest___init__ : He.DefD := ⟨("Contest", some "__init__"), "__init__", "Contest.__init__", defArgs s_Contest___init__, defBody s_Contest___init__, defScope s_Contest___init__, [], []⟩
def d_Contest_named : He.DefD := ⟨("Contest", some "named"), "named", "Contest.named", defArgs s_Contest_named, defBody s_Contest_named, defScope s_Contest_named, [], []⟩
def d_Most___init__ : He.DefD := ⟨("Most", some "__init__"), "__init__", "Most.__init__", defArgs s_Most___init__, defBody s_Most___init__, defScope s_Most___init__, [], []⟩
def d_Most_claims : He.DefD := ⟨("Most", some "claims"), "claims", "Most.claims", defArgs s_Most_claims, defBody s_Most_claims, defScope s_Most_claims, [], []⟩
def d_Rule_stake : He.DefD := ⟨("Rule", some "stake"), "stake", "Rule.stake", defArgs s_Rule_stake, defBody s_Rule_stake, defScope s_Rule_stake, [], []⟩
def d_Fixed___init__ : He.DefD := ⟨("Fixed", some "__init__"), "__init__", "Fixed.__init__", defArgs s_Fixed___init__, defBody s_Fixed___init__, defScope s_Fixed___init__, [], []⟩
def d_Fixed_stake : He.DefD := ⟨("Fixed", some "stake"), "stake", "Fixed.stake", defArgs s_Fixed_stake, defBody s_Fixed_stake, defScope s_Fixed_stake, [], []⟩
def d__law_at : He.DefD := ⟨("_law_at", none), "_law_at", "_law_at", defArgs s__law_at, defBody s__law_at, defScope s__law_at, [], []⟩
def d__law_mix : He.DefD := ⟨("_law_mix", none), "_law_mix", "_law_mix", defArgs s__law_mix, defBody s__law_mix, defScope s__law_mix, [], []⟩
def d__law_names : He.DefD := ⟨("_law_names", none), "_law_names", "_law_names", defArgs s__law_names, defBody s__law_names, defScope s__law_names, [], []⟩
def d__law_lowest : He.DefD := ⟨("_law_lowest", none), "_law_lowest", "_law_lowest", defArgs s__law_lowest, defBody s__law_lowest, defScope s__law_lowest, [], []⟩
def d__law_plus : He.DefD := ⟨("_law_plus", none), "_law_plus", "_law_plus", defArgs s__law_plus, defBody s__law_plus, defScope s__law_plus, [], []⟩
def d__law_times : He.DefD := ⟨("_law_times", none), "_law_times", "_law_times", defArgs s__law_times, defBody s__law_times, defScope s__law_times, [], []⟩
def d__law_value : He.DefD := ⟨("_law_value", none), "_law_value", "_law_value", defArgs s__law_value, defBody s__law_value, defScope s__law_value, [], []⟩
def d__law_contest : He.DefD := ⟨("_law_contest", none), "_law_contest", "_law_contest", defArgs s__law_contest, defBody s__law_contest, defScope s__law_contest, [], []⟩
def d__law_guess : He.DefD := ⟨("_law_guess", none), "_law_guess", "_law_guess", defArgs s__law_guess, defBody s__law_guess, defScope s__law_guess, [], []⟩
def d__law_ballot : He.DefD := ⟨("_law_ballot", none), "_law_ballot", "_law_ballot", defArgs s__law_ballot, defBody s__law_ballot, defScope s__law_ballot, [], []⟩
def d__law_worths : He.DefD := ⟨("_law_worths", none), "_law_worths", "_law_worths", defArgs s__law_worths, defBody s__law_worths, defScope s__law_worths, [], []⟩
def d__law_exchanged : He.DefD := ⟨("_law_exchanged", none), "_law_exchanged", "_law_exchanged", defArgs s__law_exchanged, defBody s__law_exchanged, defScope s__law_exchanged, [], []⟩
def d_law : He.DefD := ⟨("law", none), "law", "law", defArgs s_law, defBody s_law, defScope s_law, [], []⟩
def fn : List He.DefD := [d_in_common, d_lowest, d_plus, d_minus, d_times, d_over, d_below, d_Game___init__, d_Game_twin, d_Game_ended, d_Game_price, d_Game_worth_behind, d_Game_play, d_Game_worth, d_Game_reached, d_Way___init__, d_Looking_value, d_Looking_top, d_way_of, d_is_mark, d_Sheet___init__, d_Sheet_add, d_Sheet_is_sure, d_Sheet_played, d_Audit___init__, d_Audit_sure_of, d_Audit_worths, d_Audit_verdict, d_Audit_is_number, d_Audit_is_ballot, d_Audit_draw, d_Claim_value, d_Claim_value_of, d_Claim_greatest, d_Beats___init__, d_Beats_value_of, d_Beats_greatest, d_Contest___init__, d_Contest_named, d_Most___init__, d_Most_claims, d_Rule_stake, d_Fixed___init__, d_Fixed_stake, d__law_at, d__law_mix, d__law_names, d__law_lowest, d__law_plus, d__law_times, d__law_value, d__law_contest, d__law_guess, d__law_ballot, d__law_worths, d__law_exchanged, d_law]
def fa : List He.Fa := [.free "abs", .free "all", .free "bool", .free "enumerate", .free "int", .free "isinstance", .free "len", .free "list", .free "max", .free "min", .free "range", .free "sorted", .free "str", .free "tuple", .free "zip", .glo "Ended", .glo "HALF", .str "LACKS" "?", .glo "NOUGHT_claims", .glo "NOUGHT_games", .glo "NOUGHT_rules", .glo "NOUGHT_ways", .glo "NoBallot", .glo "NoFraction", .glo "NoMargin", .glo "NoNumber", .glo "NoOutcome", .glo "ONE_claims", .glo "ONE_games", .glo "ONE_ways", .glo "TWO", .cls "Game", .noat "Game" "many", .noat "Game" "again", .noat "Game" "highest", .noat "Game" "rule", .noat "Game" "drawn_values", .noat "Game" "sum_so_far", .noat "Game" "now", .noat "Game" "most", .noat "Game" "certain", .cls "Fixed", .noat "Fixed" "part", .cls "Rule", .cls "Beats", .noat "Beats" "one", .noat "Beats" "other", .cls "Claim", .cls "Looking", .noat "Looking" "claim", .cls "Sheet", .noat "Sheet" "names", .noat "Sheet" "limit", .noat "Sheet" "ways", .noat "Sheet" "games", .cls "Most", .noat "Most" "seats", .noat "Most" "names", .cls "Audit", .noat "Audit" "sheets", .noat "Audit" "many", .noat "Audit" "again", .noat "Audit" "most", .noat "Audit" "numbers", .cls "Contest", .noat "Contest" "names", .cls "Way", .noat "Way" "claim", .cls "Comparing", .noat "Comparing" "told", .noat "Comparing" "scale", .noat "Comparing" "claim", .mkr "Game", .glo "Game", .meth "Game" "ended", .meth "Fixed" "stake", .meth "Rule" "stake", .meth "Game" "price", .meth "Game" "worth_behind", .meth "Beats" "value", .meth "Claim" "value", .meth "Beats" "greatest", .meth "Claim" "greatest", .mkr "Looking", .glo "Looking", .meth "Game" "reached", .meth "Game" "play", .meth "Looking" "value", .meth "Game" "twin", .meth "Sheet" "add", .meth "Looking" "top", .mkr "Sheet", .glo "Sheet", .meth "Most" "named", .meth "Most" "claims", .meth "Sheet" "is_sure", .meth "Game" "worth", .meth "Audit" "sure_of", .meth "Audit" "verdict", .meth "Sheet" "played", .meth "Audit" "is_ballot", .meth "Audit" "is_number", .meth "Beats" "value_of", .meth "Claim" "value_of", .glo "Contest", .mkr "Beats", .glo "Beats", .meth "Audit" "worths", .meth "Audit" "draw", .mkr "Audit", .glo "Audit", .mkr "Fixed", .glo "Fixed", .mkr "Most", .glo "Most", .glo "Ended", .glo "NoBallot", .glo "NoFraction", .glo "NoNumber", .glo "NoOutcome", .exc "Ended", .exc "NoBallot", .exc "NoFraction", .exc "NoNumber", .exc "NoOutcome", .glo "in_common", .glo "lowest", .glo "plus", .glo "minus", .glo "times", .glo "over", .glo "below", .glo "way_of", .glo "is_mark", .glo "_law_at", .glo "_law_mix", .glo "_law_names", .glo "_law_lowest", .glo "_law_plus", .glo "_law_times", .glo "_law_value", .glo "_law_contest", .glo "_law_guess", .glo "_law_ballot", .glo "_law_worths", .glo "_law_exchanged", .glo "law"]
abbrev R : PySem.W.OpenRow := PySem.W.OpenLaw.row PySem.Challenge.rw_surecount_k49_draws_in_another_order
def exl : List (PySem.W.Frag → Bool) := [fun K => supmB K "Contest" "__init__", fun K => decide (He.ma K (He.ga K "Beats") "value" = He.ma K (He.ga K "Claim") "value"), fun K => decide (He.ma K (He.ga K "Looking") "__init__" = He.ma K (He.ga K "Way") "__init__"), fun K => decide (He.ma K (He.ga K "Most") "named" = He.ma K (He.ga K "Contest") "named"), fun K => He.tupB K "HALF" [.int 1, .int 2], fun K => He.tupB K "NOUGHT_claims" [.int 0, .int 1], fun K => He.tupB K "NOUGHT_games" [.int 0, .int 1], fun K => He.tupB K "NOUGHT_rules" [.int 0, .int 1], fun K => He.tupB K "NOUGHT_ways" [.int 0, .int 1], fun K => He.tupB K "ONE_claims" [.int 1, .int 1], fun K => He.tupB K "ONE_games" [.int 1, .int 1], fun K => He.tupB K "ONE_ways" [.int 1, .int 1], fun K => He.tupB K "TWO" [.int 2, .int 1]]
def exB (K : PySem.W.Frag) : Bool := exl.all fun f => f K
def reachA : List PySem.Addr := ([3, 6, 4, 21, 31, 44, 56, 68, 80, 92, 104, 113, 120, 127, 134, 141, 148, 155, 162, 163, 164, 244, 249, 250] : List PySem.Addr) ++ ([251, 282, 310, 341, 348, 355, 391, 444, 449, 450, 451, 494, 536, 581, 612, 615, 632, 660, 669, 676, 683, 688, 695, 702] : List PySem.Addr) ++ ([709, 716, 723, 730, 735, 742, 747, 754, 759, 0, 20, 30, 43, 55, 67, 79, 91, 103, 112, 119, 126, 133, 140, 147] : List PySem.Addr) ++ ([154, 161, 243, 281, 309, 340, 347, 354, 390, 443, 493, 535, 580, 611, 631, 659, 668, 675, 682, 687, 694, 701, 708, 715] : List PySem.Addr) ++ ([722, 729, 734, 741, 746, 753, 758, 15, 16, 17, 18, 19, 29, 32, 42, 54, 66, 78, 90, 102, 107, 108, 109, 110] : List PySem.Addr) ++ ([111, 114, 115, 116, 117, 118, 121, 122, 123, 124, 125, 128, 129, 130, 131, 132, 135, 136, 137, 138, 139, 142, 143, 144] : List PySem.Addr) ++ ([145, 146, 149, 150, 151, 152, 153, 156, 157, 158, 159, 160, 178, 185, 192, 199, 206, 213, 220, 227, 234, 241, 242, 245] : List PySem.Addr) ++ ([246, 265, 272, 279, 280, 283, 284, 300, 307, 308, 324, 331, 338, 339, 344, 345, 346, 349, 350, 351, 352, 353, 369, 376] : List PySem.Addr) ++ ([381, 388, 389, 392, 393, 407, 412, 417, 424, 431, 436, 441, 442, 445, 446, 465, 472, 479, 484, 491, 492, 495, 496, 512] : List PySem.Addr) ++ ([519, 526, 533, 534, 552, 559, 564, 571, 578, 579, 582, 583, 599, 604, 609, 610, 629, 630, 633, 634, 650, 657, 658, 663] : List PySem.Addr) ++ ([664, 665, 666, 667, 670, 671, 672, 673, 674, 677, 678, 679, 680, 681, 684, 685, 686, 689, 690, 691, 692, 693, 696, 697] : List PySem.Addr) ++ ([698, 699, 700, 703, 704, 705, 706, 707, 710, 711, 712, 713, 714, 717, 718, 719, 720, 721, 724, 725, 726, 727, 728, 731] : List PySem.Addr) ++ ([732, 733, 736, 737, 738, 739, 740, 743, 744, 745, 748, 749, 750, 751, 752, 755, 756, 757, 177, 184, 191, 198, 205, 212] : List PySem.Addr) ++ ([219, 226, 233, 240, 264, 271, 278, 299, 306, 323, 330, 337, 368, 375, 380, 387, 406, 411, 416, 423, 430, 435, 440, 464] : List PySem.Addr) ++ ([471, 478, 483, 490, 511, 518, 525, 532, 551, 558, 563, 570, 577, 598, 603, 608, 628, 649, 656, 172, 173, 174, 175, 176] : List PySem.Addr) ++ ([179, 180, 181, 182, 183, 186, 187, 188, 189, 190, 193, 194, 195, 196, 197, 200, 201, 202, 203, 204, 207, 208, 209, 210] : List PySem.Addr) ++ ([211, 214, 215, 216, 217, 218, 221, 222, 223, 224, 225, 228, 229, 230, 231, 232, 235, 236, 237, 238, 239, 259, 260, 261] : List PySem.Addr) ++ ([262, 263, 266, 267, 268, 269, 270, 273, 274, 275, 276, 277, 294, 295, 296, 297, 298, 301, 302, 303, 304, 305, 320, 321] : List PySem.Addr) ++ ([322, 325, 326, 327, 328, 329, 332, 333, 334, 335, 336, 363, 364, 365, 366, 367, 370, 371, 372, 373, 374, 377, 378, 379] : List PySem.Addr) ++ ([382, 383, 384, 385, 386, 403, 404, 405, 408, 409, 410, 413, 414, 415, 418, 419, 420, 421, 422, 425, 426, 427, 428, 429] : List PySem.Addr) ++ ([432, 433, 434, 437, 438, 439, 459, 460, 461, 462, 463, 466, 467, 468, 469, 470, 473, 474, 475, 476, 477, 480, 481, 482] : List PySem.Addr) ++ ([485, 486, 487, 488, 489, 506, 507, 508, 509, 510, 513, 514, 515, 516, 517, 520, 521, 522, 523, 524, 527, 528, 529, 530] : List PySem.Addr) ++ ([531, 546, 547, 548, 549, 550, 553, 554, 555, 556, 557, 560, 561, 562, 565, 566, 567, 568, 569, 572, 573, 574, 575, 576] : List PySem.Addr) ++ ([593, 594, 595, 596, 597, 600, 601, 602, 605, 606, 607, 623, 624, 625, 626, 627, 644, 645, 646, 647, 648, 651, 652, 653] : List PySem.Addr) ++ ([654, 655, 2] : List PySem.Addr)
abbrev hk : PySem.W.Hook := Gx.hookA reachA fa fn exB
def ob (s : PySem.W.SharedT) : He.AlD × Bool := Gx.obsA reachA fa fn exB (HandSHeadRun.getT s)
theorem ob_eq (s : PySem.W.SharedT) : ob s = hk.obs s.abs := Gx.obsA_eq (HandSHeadRun.getT_eq s)
def loose : List PySem.Str := (["_wall", "in_common", "lowest", "plus", "minus", "times", "over", "total", "below", "way_of", "is_mark", "_law_whole", "_law_at", "_law_mix", "_law_names", "_law_lowest"] : List PySem.Str) ++ (["_law_plus", "_law_times", "_law_over", "_law_value", "_law_contest", "_law_guess", "_law_ballot", "_law_worths", "_law_exchanged", "SureError", "NoFraction", "NoOutcome", "NoNumber", "Ended", "NoMargin", "NoBallot"] : List PySem.Str) ++ (["Game", "Way", "Looking", "Comparing", "Sheet", "Audit", "Claim", "Beats", "Contest", "Most", "Rule", "Fixed", "NOUGHT_games", "ONE_games", "NOUGHT_ways", "ONE_ways"] : List PySem.Str) ++ (["TWO", "LACKS", "NOUGHT_claims", "HALF", "ONE_claims", "NOUGHT_rules"] : List PySem.Str)
def kof (s : PySem.W.SharedT) : PySem.W.Frag := He.frT (HandSHeadRun.getT s) reachA
def exT (s : PySem.W.SharedT) : Bool := exB (kof s)
open PySem PySem.W HandSHeadRun PySem.Calls in
theorem runB (w : World) : ∀ os : OsState, (HandSHeadRun.endF (HandSHeadRun.stepQ (HandSHeadRun.denQ HandSHeadRun.tabQ) R.prog w) 12000 R.prog w os).map (fun s => looksF R.prog (boot_heap w.params) s.abs && (((fa.all fun f => f.ok (kof s)) && fn.all fun d => d.ok (kof s)) && exT s)) = some true := by
  intro os
  kernel_rfl
open PySem PySem.W HandSHeadRun PySem.Calls in
theorem runS (w : World) : ∀ os : OsState, (HandSHeadRun.endF (HandSHeadRun.stepQ (HandSHeadRun.denQ HandSHeadRun.tabQ) R.prog w) 12000 R.prog w os).map (fun s => seenQ (PySem.W.view R.prog [63]) loose (importedModules R.prog.main.body) (fun s => xlAt (PySem.W.view R.prog [63]) [] s && recOk R.toRowW.records s) s.abs) = some (openGood (PySem.W.view R.prog [63]) loose) := by
  intro os
  kernel_rfl
open PySem PySem.W HandSHeadRun PySem.Calls in
theorem runF (w : World) : ∀ os : OsState, (HandSHeadRun.endF (HandSHeadRun.stepQ (HandSHeadRun.denQ HandSHeadRun.tabQ) R.prog w) 12000 R.prog w os).map (fun s => fn.map fun d => He.fnW (kof s) d.at_) = some (fn.map He.DefD.val) := by
  intro os
  kernel_rfl
theorem map3 {α γ ε : Type} {x : Option α} {l : α → Bool} {a b e : α → Bool} {g : α → γ} {h : α → ε} {vg : γ} {vh : ε} (h1 : x.map (fun s => l s && ((a s && b s) && e s)) = some true) (h2 : x.map g = some vg) (h3 : x.map h = some vh) : x.map (fun s => (l s, g s, ((a s && b s, h s), e s))) = some (true, vg, ((true, vh), true)) := by
  cases x with
  | none => cases h1
  | some s =>
    rw [Option.map_some] at h1 h2 h3 ⊢
    have k := Bool.and_eq_true_iff.mp (Option.some.inj h1)
    have k2 := Bool.and_eq_true_iff.mp k.2
    rw [k.1, k2.1, k2.2, Option.some.inj h2, Option.some.inj h3]
theorem run (w : World) : HandSHeadRun.RunEq R (PySem.W.view R.prog [63]) hk ob 12000 loose w := fun os => map3 (runB w os) (runS w os) (runF w os)
end Lw
namespace Dk
open PySem PySem.Spec PyProof.Rows L2
theorem at_map {ns : List Int} {i : Int} (h0 : 0 ≤ i) (h1 : i < ns.length) : ∃ z : Int, atI (ns.map V.int) i = some (.int z) := by
  obtain ⟨n, rfl⟩ : ∃ n : Nat, i = (n : Int) := ⟨i.toNat, by omega⟩
  have hl : n < ns.length := by omega
  exact ⟨ns[n], atI_nat (by simp [hl])⟩
theorem dp_all {K : PySem.W.Frag} {H : Hp} : ∀ ns : List Int, DpAll K H (ns.map V.int) (ns.map PyData.int)
  | [] => .nil
  | n :: r => .cons (.int n) (dp_all r)
theorem dp_ints {K : PySem.W.Frag} {H : Hp} {a : Addr} {ns : List Int} (h : SqL K H a (ns.map V.int)) : Dp K H (.ref a) (.list (ns.map PyData.int)) := .lst h (dp_all ns)
theorem shaped_ints (ns : List Int) : SeqAt.shaped (.list (ns.map PyData.int)) = true := by
  have h : ∀ l : List Int, PyData.canLayAll0 (l.map PyData.int) = true ∧ PyData.depthAll (l.map PyData.int) = 0 := fun l => by
    induction l with
    | nil => exact ⟨by simp [PyData.canLayAll0], by simp [PyData.depthAll]⟩
    | cons n r ih => exact ⟨by simp [PyData.canLayAll0, PyData.canLay0, ih.1], by simp [PyData.depthAll, PyData.depth, ih.2]⟩
  obtain ⟨h1, h2⟩ := h ns
  simp [SeqAt.shaped, PyData.canLay0, PyData.depth, h1, h2]
theorem eqv_nil (ns : List Int) : (!PyData.eqv (.list (ns.map PyData.int)) (.list [])) = !ns.isEmpty := by
  cases ns <;> simp [PyData.eqv, PyData.eqvAll]
theorem last (ds : List Int) (h : 0 < ds.length) : ∃ es e, ds = es ++ [e] := ⟨ds.dropLast, ds.getLast (by intro z; rw [z] at h; exact absurd h (by decide)), (List.dropLast_concat_getLast _).symm⟩
theorem last2 (ds : List Int) (h : 1 < ds.length) : ∃ es e2 e1, ds = es ++ [e2, e1] := by
  obtain ⟨fs, e1, rfl⟩ := last ds (by omega)
  obtain ⟨es, e2, rfl⟩ := last fs (by simp at h; omega)
  exact ⟨es, e2, e1, by simp⟩
theorem last3 (ds : List Int) (h : 2 < ds.length) : ∃ es e3 e2 e1, ds = es ++ [e3, e2, e1] := by
  obtain ⟨fs, e1, rfl⟩ := last ds (by omega)
  obtain ⟨es, e3, e2, rfl⟩ := last2 fs (by simp at h; omega)
  exact ⟨es, e3, e2, e1, by simp⟩
theorem sub {P : Int → Prop} {es r : List Int} (h : ∀ d ∈ es ++ r, P d) : ∀ d ∈ es, P d := fun d hd => h d (List.mem_append_left _ hd)
theorem shaped_tints (ns : List Int) : SeqAt.shaped (.tuple (ns.map PyData.int)) = true := by
  have h : ∀ l : List Int, PyData.canLayAll0 (l.map PyData.int) = true ∧ PyData.depthAll (l.map PyData.int) = 0 := fun l => by
    induction l with
    | nil => exact ⟨by simp [PyData.canLayAll0], by simp [PyData.depthAll]⟩
    | cons n r ih => exact ⟨by simp [PyData.canLayAll0, PyData.canLay0, ih.1], by simp [PyData.depthAll, PyData.depth, ih.2]⟩
  obtain ⟨h1, h2⟩ := h ns
  simp [SeqAt.shaped, PyData.canLay0, PyData.depth, h1, h2]
theorem emod_le {a b : Int} (h : 0 ≤ a) (hb : 0 < b) : a % b ≤ a := by
  have e := Int.emod_add_mul_ediv a b
  have z := Int.mul_nonneg (Int.le_of_lt hb) (Int.ediv_nonneg h (Int.le_of_lt hb))
  omega
end Dk
namespace Lw
open PySem PySem.Spec PyProof.Rows L2 Gx
/-- a deck: a new list of so many numbers, each from 0 on, of at most 61 figures -/
def Deck (ds : List Int) : Prop := ∀ d ∈ ds, 0 ≤ d ∧ d < 10000000000000000000000000000000000000000000000000000000000000
theorem Deck.last {es : List Int} {e : Int} (h : Deck (es ++ [e])) : Deck es ∧ 0 ≤ e ∧ e < 10000000000000000000000000000000000000000000000000000000000000 := ⟨fun d hd => h d (List.mem_append_left _ hd), h e (by simp)⟩
end Lw
namespace Dw
open PySem PySem.Spec PyProof.Rows L2
/-- draws through those that are left -/
def dr (again : Bool) : List Int → List Int → List Int → Option (List Int)
  | _, [], found => some found
  | left, n :: r, found => if 0 ≤ n ∧ n < (left.length : Int) then dr again (if again then left else left.eraseIdx n.toNat) r (found ++ [left.getD n.toNat 0]) else none
/-- 0, 1, .. -/
def rg (m : Nat) : List Int := (List.range m).map fun (i : Nat) => (i : Int)
theorem rg_len (m : Nat) : (rg m).length = m := by simp [rg]
theorem rgV_eq (m : Nat) : rgV 0 (m : Int) = (rg m).map V.int := by
  unfold rgV rg
  rw [List.map_map, show ((m : Int) - 0).toNat = m by omega]
  congr 1
  funext i
  show V.int (0 + (i : Int)) = V.int (i : Int)
  rw [Int.zero_add]
theorem dr_app {again : Bool} : ∀ {ns ms left found : List Int}, dr again left (ns ++ ms) found = match dr again left ns found with
    | none => none
    | some f => dr again ((fun (z : List Int) => z) (ns.foldl (fun (l : List Int) n => if again then l else l.eraseIdx n.toNat) left)) ms f
  | [], ms, left, found => rfl
  | n :: r, ms, left, found => by
    show (if 0 ≤ n ∧ n < (left.length : Int) then dr again (if again then left else left.eraseIdx n.toNat) (r ++ ms) (found ++ [left.getD n.toNat 0]) else none) = match (if 0 ≤ n ∧ n < (left.length : Int) then dr again (if again then left else left.eraseIdx n.toNat) r (found ++ [left.getD n.toNat 0]) else none) with
      | none => none
      | some f => dr again ((n :: r).foldl (fun (l : List Int) n => if again then l else l.eraseIdx n.toNat) left) ms f
    by_cases c : 0 ≤ n ∧ n < (left.length : Int)
    · rw [if_pos c, if_pos c]
      exact dr_app
    · rw [if_neg c, if_neg c]
/-- how many are left -/
def lf (again : Bool) (m k : Nat) : Int := (m : Int) - (k : Int) * (if again then 0 else 1)
theorem fold_len {again : Bool} : ∀ {ns left : List Int}, (∀ (k : Nat) (n : Int), ns[k]? = some n → 0 ≤ n ∧ n < (left.length : Int) - (k : Int) * (if again then 0 else 1)) →
    ((ns.foldl (fun (l : List Int) n => if again then l else l.eraseIdx n.toNat) left).length : Int) = (left.length : Int) - (ns.length : Int) * (if again then 0 else 1)
  | [], left, _ => by simp
  | n :: r, left, h => by
    have h0 := h 0 n rfl
    have l1 : (((if again then left else left.eraseIdx n.toNat) : List Int).length : Int) = (left.length : Int) - (if again then 0 else 1) := by
      cases again
      · show ((left.eraseIdx n.toNat).length : Int) = _
        rw [List.length_eraseIdx]
        simp at h0
        rw [if_pos (by omega)]
        simp
        omega
      · simp
    have ih := fold_len (again := again) (ns := r) (left := if again then left else left.eraseIdx n.toNat) fun k x hx => by
      have := h (k + 1) x hx
      rw [l1]
      cases again <;> simp at this ⊢ <;> omega
    show ((r.foldl _ (if again then left else left.eraseIdx n.toNat)).length : Int) = _
    rw [ih, l1]
    cases again <;> simp
    omega
theorem dr_ok {again : Bool} : ∀ {ns left found : List Int}, (∀ (k : Nat) (n : Int), ns[k]? = some n → 0 ≤ n ∧ n < (left.length : Int) - (k : Int) * (if again then 0 else 1)) → ∃ out, dr again left ns found = some out
  | [], left, found, _ => ⟨found, rfl⟩
  | n :: r, left, found, h => by
    have h0 := h 0 n rfl
    have h0' : 0 ≤ n ∧ n < (left.length : Int) := by simpa using h0
    show ∃ out, (if 0 ≤ n ∧ n < (left.length : Int) then _ else none) = some out
    rw [if_pos h0']
    refine dr_ok fun k x hx => ?_
    have := h (k + 1) x hx
    cases again
    · show 0 ≤ x ∧ x < ((left.eraseIdx n.toNat).length : Int) - _
      rw [List.length_eraseIdx, if_pos (by omega)]
      simp at this ⊢
      omega
    · simpa using this
/-- a bad number behind good ones -/
theorem dr_bad {again : Bool} {ns ms left found : List Int} {x : Int} (h : ∀ (k : Nat) (n : Int), ns[k]? = some n → 0 ≤ n ∧ n < (left.length : Int) - (k : Int) * (if again then 0 else 1)) (hx : x < 0 ∨ (left.length : Int) - (ns.length : Int) * (if again then 0 else 1) ≤ x) :
    dr again left (ns ++ x :: ms) found = none := by
  rw [dr_app]
  obtain ⟨out, e⟩ := dr_ok (found := found) h
  rw [e]
  show (if 0 ≤ x ∧ x < ((ns.foldl (fun (l : List Int) n => if again then l else l.eraseIdx n.toNat) left).length : Int) then _ else none) = none
  rw [fold_len h, if_neg (by omega)]
theorem seqIx {n : Int} {k : Nat} (h0 : 0 ≤ n) (h1 : n < (k : Int)) : seqIndex? n k = some n.toNat := by
  unfold seqIndex?
  show (if (decide (0 ≤ (if n < 0 then n + (k : Int) else n)) && decide ((if n < 0 then n + (k : Int) else n) < (k : Int))) = true then some (if n < 0 then n + (k : Int) else n).toNat else none) = _
  rw [if_neg (show ¬ n < 0 by omega), decide_eq_true h0, decide_eq_true h1]
  rfl
theorem erase_map {α β : Type} (f : α → β) : ∀ (l : List α) (k : Nat), (l.map f).eraseIdx k = (l.eraseIdx k).map f
  | [], _ => rfl
  | _ :: _, 0 => rfl
  | a :: l, k + 1 => congrArg (fun z => f a :: z) (erase_map f l k)
end Dw
namespace D24
open PySem PySem.Spec PyProof.Rows L2 Dw
/-- those of a list that aren't gone -/
def ng (g l : List Int) : List Int := l.filter fun x => !g.contains x
theorem rg_succ (n : Nat) : rg (n + 1) = rg n ++ [(n : Int)] := by simp [rg, List.range_succ]
theorem mem_rg {n : Nat} {x : Int} : x ∈ rg n ↔ 0 ≤ x ∧ x < (n : Int) := by
  simp [rg]
  constructor
  · rintro ⟨k, h, rfl⟩; omega
  · rintro ⟨h0, h1⟩; exact ⟨x.toNat, by omega, by omega⟩
theorem cnt_in {g : List Int} {b : Nat} (h : (b : Int) ∈ g) : ng g (rg (b + 1)) = ng g (rg b) := by
  unfold ng
  rw [rg_succ, List.filter_append]
  simp [h]
theorem cnt_out {g : List Int} {b : Nat} (h : (b : Int) ∉ g) : ng g (rg (b + 1)) = ng g (rg b) ++ [(b : Int)] := by
  unfold ng
  rw [rg_succ, List.filter_append]
  simp [h]
/-- the numbers from b on -/
def up (b : Nat) : Nat → List Int
  | 0 => []
  | k + 1 => (b : Int) :: up (b + 1) k
theorem rg_up : ∀ (k b : Nat), rg (b + k) = rg b ++ up b k
  | 0, b => by simp [up]
  | k + 1, b => by
    rw [show b + (k + 1) = (b + 1) + k by omega, rg_up k (b + 1), rg_succ]
    simp [up]
theorem mem_up : ∀ {k b : Nat} {x : Int}, x ∈ up b k → (b : Int) ≤ x
  | k + 1, b, x, h => by
    rcases List.mem_cons.mp h with e | h
    · omega
    · have := mem_up h; omega
theorem rg_split {b m : Nat} (h : b < m) : rg m = rg b ++ (b : Int) :: up (b + 1) (m - b - 1) := by
  have e := rg_up (m - b) b
  rw [show b + (m - b) = m by omega] at e
  rw [e]
  congr 1
  rw [show m - b = (m - b - 1) + 1 by omega]
  rfl
theorem ng_split {g : List Int} {b m : Nat} (h : b < m) (hg : (b : Int) ∉ g) : ng g (rg m) = ng g (rg b) ++ (b : Int) :: ng g (up (b + 1) (m - b - 1)) := by
  unfold ng
  rw [rg_split h, List.filter_append, List.filter_cons]
  simp [hg]
theorem ng_le {g : List Int} {b m : Nat} (h : b ≤ m) : (ng g (rg b)).length ≤ (ng g (rg m)).length := by
  have e := rg_up (m - b) b
  rw [show b + (m - b) = m by omega] at e
  unfold ng
  rw [e, List.filter_append, List.length_append]
  omega
theorem at_ {g : List Int} {b m n : Nat} (h : b < m) (hg : (b : Int) ∉ g) (e : (ng g (rg b)).length = n) : (ng g (rg m)).getD n 0 = (b : Int) := by
  rw [ng_split h hg, ← e]
  simp
theorem erase_ {g : List Int} {b m n : Nat} (h : b < m) (hg : (b : Int) ∉ g) (e : (ng g (rg b)).length = n) : (ng g (rg m)).eraseIdx n = ng (g ++ [(b : Int)]) (rg m) := by
  have h1 : ng (g ++ [(b : Int)]) (rg b) = ng g (rg b) := by
    unfold ng
    refine List.filter_congr fun x hx => ?_
    have := mem_rg.mp hx
    have hne : ¬ x = (b : Int) := by omega
    simp [hne]
  have h2 : ng (g ++ [(b : Int)]) (up (b + 1) (m - b - 1)) = ng g (up (b + 1) (m - b - 1)) := by
    unfold ng
    refine List.filter_congr fun x hx => ?_
    have := mem_up hx
    have hne : ¬ x = (b : Int) := by omega
    simp [hne]
  have e2 : ng (g ++ [(b : Int)]) (rg m) = ng (g ++ [(b : Int)]) (rg b) ++ ng (g ++ [(b : Int)]) (up (b + 1) (m - b - 1)) := by
    unfold ng
    rw [rg_split h, List.filter_append, List.filter_cons]
    simp
  rw [e2, h1, h2, ng_split h hg, ← e, List.eraseIdx_append_of_length_le (Nat.le_refl _)]
  simp
theorem in_ints {x : Int} {g : List Int} : inV (.int x) (g.map V.int) = g.contains x := by
  unfold inV
  induction g with
  | nil => rfl
  | cons a r ih =>
    rw [List.map_cons, List.any_cons, ih, List.contains_cons]
    congr 1
    show (a == x) = (x == a)
    by_cases h : a = x
    · simp [h]
    · have h2 : ¬ x = a := fun z => h z.symm
      rw [beq_eq_false_iff_ne.mpr h, beq_eq_false_iff_ne.mpr h2]
theorem flat_ints (g : List Int) : (g.map V.int).all flatV = true := by
  induction g with
  | nil => rfl
  | cons a r ih => rw [List.map_cons, List.all_cons, ih]; rfl
end D24
namespace Ct
open PySem PySem.Spec PyProof.Rows L2
theorem to {xs : List V} {k : Nat} (h : k ≤ xs.length) : cutV xs none (some (k : Int)) = xs.take k := by
  unfold cutV
  rw [HT.sIx_none, HT.sIx_nat, Nat.min_eq_left h]
  simp
theorem from_ {xs : List V} {k : Nat} (h : k ≤ xs.length) : cutV xs (some (k : Int)) none = xs.drop k := by
  unfold cutV
  rw [HT.sIx_none, HT.sIx_nat, Nat.min_eq_left h]
  rw [List.take_of_length_le]
  simp
theorem but1 {xs : List V} : cutV xs none (some (-1)) = xs.dropLast := by
  unfold cutV
  rw [HT.sIx_none]
  have e : HT.sIx xs.length xs.length (some (-1)) = xs.length - 1 := by
    unfold HT.sIx
    simp
    omega
  rw [e, List.dropLast_eq_take]
  simp
theorem cutI {ns : List Int} {lo hi : Nat} : ∃ ms : List Int, cutV (ns.map V.int) (some (lo : Int)) (some (hi : Int)) = ms.map V.int ∧ ms.length ≤ hi - lo := by
  refine ⟨(ns.drop (min lo ns.length)).take (min hi ns.length - min lo ns.length), ?_, ?_⟩
  · unfold cutV
    rw [HT.sIx_nat, HT.sIx_nat, List.length_map, List.map_take, List.map_drop]
  · rw [List.length_take, List.length_drop]
    omega
end Ct
namespace Dt
open PySem PySem.Spec PyProof.Rows L2 Gx
/-! shape, with its depth -/
def Sh (k : Nat) (d : PyData) : Prop := d.canLay0 = true ∧ d.depth ≤ k
theorem sh_int {k : Nat} (i : Int) : Sh k (.int i) := ⟨by simp [PyData.canLay0], by simp [PyData.depth]⟩
theorem sh_bl {k : Nat} (b : Bool) : Sh k (.bool b) := ⟨by simp [PyData.canLay0], by simp [PyData.depth]⟩
theorem sh_non {k : Nat} : Sh k .none := ⟨by simp [PyData.canLay0], by simp [PyData.depth]⟩
theorem sh_str {k : Nat} {x : Str} (h : PyData.strOk x = true) : Sh k (.str x) := ⟨by simpa [PyData.canLay0] using h, by simp [PyData.depth]⟩
theorem shAll {k : Nat} : ∀ {ds : List PyData}, (∀ d ∈ ds, Sh k d) → PyData.canLayAll0 ds = true ∧ PyData.depthAll ds ≤ k
  | [], _ => ⟨by simp [PyData.canLayAll0], by simp [PyData.depthAll]⟩
  | d :: ds, h => by
    obtain ⟨h1, h2⟩ := shAll fun x hx => h x (List.mem_cons_of_mem d hx)
    obtain ⟨g1, g2⟩ := h d (List.mem_cons_self ..)
    exact ⟨by simp [PyData.canLayAll0, g1, h1], by simp [PyData.depthAll]; omega⟩
theorem sh_tup {k : Nat} {ds : List PyData} (h : ∀ d ∈ ds, Sh k d) : Sh (k + 1) (.tuple ds) := by
  obtain ⟨h1, h2⟩ := shAll h
  exact ⟨by simpa [PyData.canLay0] using h1, by simp [PyData.depth]; omega⟩
theorem sh_lst {k : Nat} {ds : List PyData} (h : ∀ d ∈ ds, Sh k d) : Sh (k + 1) (.list ds) := by
  obtain ⟨h1, h2⟩ := shAll h
  exact ⟨by simpa [PyData.canLay0] using h1, by simp [PyData.depth]; omega⟩
theorem Sh.mono {k n : Nat} {d : PyData} (h : Sh k d) (e : k ≤ n) : Sh n d := ⟨h.1, Nat.le_trans h.2 e⟩
theorem Sh.ok {k : Nat} {d : PyData} (h : Sh k d) (e : k ≤ 64 := by decide) : SeqAt.shaped d = true := by
  unfold SeqAt.shaped
  rw [h.1, decide_eq_true (Nat.le_trans h.2 e)]
  rfl
theorem refl {k : Nat} {d : PyData} (h : Sh k d) : PyData.eqv d d = true := SeqAt.eqv_refl _ h.1
/-! data taken apart -/
variable {K : PySem.W.Frag} {H : Hp}
theorem tup {v : V} {ds : List PyData} (h : Dp K H v (.tuple ds)) : ∃ p xs, v = .ref p ∧ SqT K H p xs ∧ DpAll K H xs ds := by
  cases h with
  | tup a b => exact ⟨_, _, rfl, a, b⟩
theorem lst {v : V} {ds : List PyData} (h : Dp K H v (.list ds)) : ∃ p xs, v = .ref p ∧ SqL K H p xs ∧ DpAll K H xs ds := by
  cases h with
  | lst a b => exact ⟨_, _, rfl, a, b⟩
theorem int {v : V} {i : Int} (h : Dp K H v (.int i)) : v = .int i := by cases h; rfl
theorem str {v : V} {x : Str} (h : Dp K H v (.str x)) : v = .str x := by cases h; rfl
theorem bl {v : V} {b : Bool} (h : Dp K H v (.bool b)) : v = .bl b := by cases h; rfl
theorem non {v : V} (h : Dp K H v .none) : v = .non := by cases h; rfl
theorem len : ∀ {xs : List V} {ds : List PyData}, DpAll K H xs ds → xs.length = ds.length
  | _, _, .nil => rfl
  | _, _, .cons _ r => congrArg (· + 1) (len r)
theorem at_ : ∀ {xs : List V} {ds : List PyData} {i : Nat} {x : V}, DpAll K H xs ds → xs[i]? = some x → ∃ d, ds[i]? = some d ∧ Dp K H x d
  | _, _, 0, x, .cons (d := d) a r, e => ⟨d, rfl, (Option.some.inj e) ▸ a⟩
  | _, _, i + 1, x, .cons a r, e => at_ (i := i) r e
theorem at2 : ∀ {xs : List V} {ds : List PyData} {i : Nat} {d : PyData}, DpAll K H xs ds → ds[i]? = some d → ∃ x, xs[i]? = some x ∧ Dp K H x d
  | _, _, 0, d, .cons (v := v) a r, e => ⟨v, rfl, (Option.some.inj e) ▸ a⟩
  | _, _, i + 1, d, .cons a r, e => at2 (i := i) r e
theorem cons {x : V} {xs : List V} {d : PyData} {ds : List PyData} (h : DpAll K H (x :: xs) (d :: ds)) : Dp K H x d ∧ DpAll K H xs ds := by
  cases h with
  | cons a b => exact ⟨a, b⟩
theorem pair {v : V} {a b : PyData} (h : Dp K H v (.tuple [a, b])) : ∃ p x y, v = .ref p ∧ SqT K H p [x, y] ∧ Dp K H x a ∧ Dp K H y b := by
  obtain ⟨p, xs, rfl, s, g⟩ := tup h
  cases g with
  | cons h1 g =>
    cases g with
    | cons h2 g =>
      cases g
      exact ⟨p, _, _, rfl, s, h1, h2⟩
theorem app : ∀ {xs : List V} {ds : List PyData} {ys : List V} {es : List PyData}, DpAll K H xs ds → DpAll K H ys es → DpAll K H (xs ++ ys) (ds ++ es)
  | _, _, _, _, .nil, g => g
  | _, _, _, _, .cons a r, g => .cons a (app r g)
theorem take : ∀ {xs : List V} {ds : List PyData} (n : Nat), DpAll K H xs ds → DpAll K H (xs.take n) (ds.take n)
  | _, _, 0, _ => .nil
  | _, _, n + 1, .nil => .nil
  | _, _, n + 1, .cons a r => .cons a (take n r)
theorem drop : ∀ {xs : List V} {ds : List PyData} (n : Nat), DpAll K H xs ds → DpAll K H (xs.drop n) (ds.drop n)
  | _, _, 0, h => h
  | _, _, n + 1, .nil => .nil
  | _, _, n + 1, .cons a r => drop n r
theorem set : ∀ {xs : List V} {ds : List PyData} (n : Nat) {x : V} {d : PyData}, DpAll K H xs ds → Dp K H x d → DpAll K H (xs.set n x) (ds.set n d)
  | _, _, _, _, _, .nil, _ => .nil
  | _, _, 0, _, _, .cons a r, h => .cons h r
  | _, _, n + 1, _, _, .cons a r, h => .cons a (set n r h)
theorem two {x y : V} {a b : PyData} (h1 : Dp K H x a) (h2 : Dp K H y b) : DpAll K H [x, y] [a, b] := .cons h1 (.cons h2 .nil)
theorem intz (ns : List Int) : DpAll K H (ns.map V.int) (ns.map PyData.int) := Dk.dp_all ns
theorem strz : ∀ ns : List Str, DpAll K H (ns.map V.str) (ns.map PyData.str)
  | [] => .nil
  | n :: r => .cons (.str n) (strz r)
theorem of_strs : ∀ {xs : List V} {ns : List Str}, DpAll K H xs (ns.map PyData.str) → xs = ns.map V.str
  | _, [], .nil => rfl
  | _, n :: r, .cons a g => by rw [str a, of_strs g]; rfl
theorem of_ints : ∀ {xs : List V} {ns : List Int}, DpAll K H xs (ns.map PyData.int) → xs = ns.map V.int
  | _, [], .nil => rfl
  | _, n :: r, .cons a g => by rw [int a, of_ints g]; rfl
/-- the list's own data, once more where others are appended -/
theorem snoc {xs : List V} {ds : List PyData} {x : V} {d : PyData} (h : DpAll K H xs ds) (g : Dp K H x d) : DpAll K H (xs ++ [x]) (ds ++ [d]) := app h (.cons g .nil)
theorem noLs_of : ∀ {ds : List PyData}, (∀ d ∈ ds, noL d = true) → noLs ds = true
  | [], _ => by simp [noLs]
  | d :: ds, h => by simp [noLs, h d (List.mem_cons_self ..), noLs_of fun x hx => h x (List.mem_cons_of_mem d hx)]
theorem noL_tup {ds : List PyData} (h : ∀ d ∈ ds, noL d = true) : noL (.tuple ds) = true := by simpa [noL] using noLs_of h
/-! == of data, told -/
theorem eqv_int (a b : Int) : PyData.eqv (.int a) (.int b) = decide (a = b) := by simp [PyData.eqv]; by_cases h : a = b <;> simp [h]
theorem eqv_bl (a b : Bool) : PyData.eqv (.bool a) (.bool b) = decide (a = b) := by cases a <;> cases b <;> simp [PyData.eqv]
end Dt
namespace Dt
open PySem PySem.Spec PyProof.Rows L2 Gx
theorem k_ne {K : PySem.W.Frag} {H : Hp} {Q : VK} {x y : V} {d : PyData} {k : Nat} (hx : Dp K H x d) (hy : Dp K H y d) (s : Sh k d) (q : Q (.bl false) H) (e : k ≤ 64 := by decide) : rNeU K x y H Q := k_neD hx hy (by rw [refl s]; exact q) (s.ok e) (s.ok e)
end Dt
namespace Cn
def fac (m : Int) (b : Bool) (i : Nat) : Int := if b then m else max 0 (m - (i : Int))
/-- so many draws -/
def cnt (m : Int) (b : Bool) : Nat → Int
  | 0 => 1
  | n + 1 => cnt m b n * fac m b n
theorem fac_small {m : Int} (h : m.natAbs < 2 ^ 20) (b : Bool) (i : Nat) : (fac m b i).natAbs < 2 ^ 20 := by
  unfold fac
  cases b
  · show (max 0 (m - (i : Int))).natAbs < 2 ^ 20
    omega
  · exact h
theorem cnt_small {m : Int} (h : m.natAbs < 2 ^ 20) (b : Bool) : ∀ i, (cnt m b i).natAbs < 2 ^ (20 * i + 1)
  | 0 => by show (1 : Int).natAbs < 2 ^ 1; decide
  | i + 1 => by
    show (cnt m b i * fac m b i).natAbs < _
    rw [Int.natAbs_mul, show 20 * (i + 1) + 1 = (20 * i + 1) + 20 by omega, Nat.pow_add]
    exact Nat.mul_lt_mul'' (cnt_small h b i) (fac_small h b i)
/-- the first factor taken out -/
theorem cnt_front (m : Int) (b : Bool) : ∀ n, cnt m b (n + 1) = fac m b 0 * cnt (m - (if b then 0 else 1)) b n
  | 0 => by
    show 1 * fac m b 0 = fac m b 0 * 1
    omega
  | n + 1 => by
    show cnt m b (n + 1) * fac m b (n + 1) = fac m b 0 * (cnt (m - (if b then 0 else 1)) b n * fac (m - (if b then 0 else 1)) b n)
    rw [cnt_front m b n, Int.mul_assoc]
    congr 2
    unfold fac
    cases b
    · show max 0 (m - ((n + 1 : Nat) : Int)) = max 0 (m - 1 - (n : Int))
      omega
    · show m = m - 0
      omega
theorem cnt_none {m : Int} (h0 : 0 ≤ m) : ∀ {n : Nat}, m < (n : Int) → cnt m false n = 0
  | 0, h => by omega
  | n + 1, h => by
    show cnt m false n * max 0 (m - (n : Int)) = 0
    by_cases c : m < (n : Int)
    · rw [cnt_none h0 c, Int.zero_mul]
    · rw [show max 0 (m - (n : Int)) = 0 by omega, Int.mul_zero]
end Cn
namespace Fr
open PySem PySem.Spec PyProof.Rows L2
/-- a fraction's two parts -/
abbrev fq (q : Rat) : List V := [.int q.num, .int (q.den : Int)]
def fqd (q : Rat) : PyData := .tuple [.int q.num, .int (q.den : Int)]
theorem dp_fq {K : PySem.W.Frag} {H : Hp} {p : Addr} {q : Rat} (h : SqT K H p (fq q)) : Dp K H (.ref p) (fqd q) := .tup h (.cons (.int _) (.cons (.int _) .nil))
theorem shaped_fq (q : Rat) : SeqAt.shaped (fqd q) = true := by simp [SeqAt.shaped, fqd, PyData.canLay0, PyData.canLayAll0, PyData.depth, PyData.depthAll]
theorem eqv_fq (x y : Rat) : PyData.eqv (fqd x) (fqd y) = decide (x = y) := by
  have e : PyData.eqv (fqd x) (fqd y) = (decide (x.num = y.num) && decide (x.den = y.den)) := by
    simp [fqd, PyData.eqv, PyData.eqvAll]
    by_cases h1 : x.num = y.num <;> by_cases h2 : x.den = y.den <;> simp [h1, h2] <;> omega
  rw [e]
  by_cases h : x = y
  · simp [h]
  · have : ¬ (x.num = y.num ∧ x.den = y.den) := fun z => h (Rat.ext z.1 z.2)
    simp [h]
    exact fun z w => this ⟨z, w⟩
/-! ### the greatest divisor -/
theorem gcd_fmod (a b : Int) : Int.gcd b (a.fmod b) = Int.gcd a b := by
  rw [Int.fmod_def, Int.gcd_sub_mul_left_right, Int.gcd_comm]
theorem fmod_nn (a : Int) {b : Int} (h : 0 < b) : 0 ≤ a.fmod b := by
  rw [Int.fmod_eq_emod_of_nonneg a (by omega)]
  exact Int.emod_nonneg _ (by omega)
theorem fmod_less {a b : Int} (h : b ≠ 0) : (a.fmod b).natAbs < b.natAbs := by
  rcases Int.lt_or_lt_of_ne h with c | c
  · have e : a.fmod b = -((-a).fmod (-b)) := by
      rw [Int.fmod_def, Int.fmod_def, Int.neg_fdiv_neg]
      have := Int.neg_mul b (a.fdiv b)
      omega
    have h1 := fmod_nn (-a) (show 0 < -b by omega)
    have h2 := Int.fmod_lt_of_pos (-a) (show 0 < -b by omega)
    omega
  · have h1 := fmod_nn a c
    have h2 := Int.fmod_lt_of_pos a c
    omega
/-- what lowest makes -/
theorem low_num {a b d : Int} (hb : b ≠ 0) (hd : d = if b < 0 then 0 - (Int.gcd a b : Int) else (Int.gcd a b : Int)) : a.fdiv d = (Rat.divInt a b).num := by
  have g0 : (0 : Int) < Int.gcd a b := by have := Int.gcd_pos_of_ne_zero_right a hb; omega
  obtain ⟨k, hk⟩ := Int.gcd_dvd_left a b
  rw [Rat.num_divInt, Int.gcd_comm b a]
  rcases Int.lt_or_lt_of_ne hb with c | c
  · rw [if_pos c] at hd
    rw [Int.sign_eq_neg_one_of_neg c]
    have e1 : a.fdiv d = -k := by
      have : a = d * (-k) := by rw [hd, Int.zero_sub, Int.neg_mul_neg]; exact hk
      rw [this]
      exact Int.mul_fdiv_cancel_left _ (by omega)
    have e2 : -1 * a / (Int.gcd a b : Int) = -k := by
      have : -1 * a = (Int.gcd a b : Int) * (-k) := by rw [Int.mul_neg, ← hk]; omega
      rw [this]
      exact Int.mul_ediv_cancel_left _ (by omega)
    rw [e1, e2]
  · rw [if_neg (by omega)] at hd
    rw [Int.sign_eq_one_of_pos c, Int.one_mul, hd, Int.fdiv_eq_ediv_of_nonneg a (by omega)]
theorem low_den {a b d : Int} (hb : b ≠ 0) (hd : d = if b < 0 then 0 - (Int.gcd a b : Int) else (Int.gcd a b : Int)) : b.fdiv d = ((Rat.divInt a b).den : Int) := by
  have g0 : (0 : Int) < Int.gcd a b := by have := Int.gcd_pos_of_ne_zero_right a hb; omega
  obtain ⟨k, hk⟩ := Int.gcd_dvd_right a b
  have e3 : ((Rat.divInt a b).den : Int) = (b.natAbs : Int) / (Int.gcd a b : Int) := by
    rw [Rat.den_divInt, if_neg hb, Int.gcd_comm b a]
    rfl
  rw [e3]
  rcases Int.lt_or_lt_of_ne hb with c | c
  · rw [if_pos c] at hd
    have e1 : b.fdiv d = -k := by
      have : b = d * (-k) := by rw [hd, Int.zero_sub, Int.neg_mul_neg]; exact hk
      rw [this]
      exact Int.mul_fdiv_cancel_left _ (by omega)
    have e2 : (b.natAbs : Int) / (Int.gcd a b : Int) = -k := by
      have : (b.natAbs : Int) = (Int.gcd a b : Int) * (-k) := by rw [Int.mul_neg, ← hk]; omega
      rw [this]
      exact Int.mul_ediv_cancel_left _ (by omega)
    rw [e1, e2]
  · rw [if_neg (by omega)] at hd
    rw [hd, Int.fdiv_eq_ediv_of_nonneg b (by omega)]
    congr 1
    omega
/-! ### sizes -/
def Sz (n : Nat) (q : Rat) : Prop := q.num.natAbs < 2 ^ n ∧ q.den < 2 ^ n
theorem pw {a b : Nat} (h : a ≤ b) : 2 ^ a ≤ 2 ^ b := Nat.pow_le_pow_right (by decide) h
theorem Sz.mono {m n : Nat} {q : Rat} (h : Sz m q) (l : m ≤ n) : Sz n q := ⟨Nat.lt_of_lt_of_le h.1 (pw l), Nat.lt_of_lt_of_le h.2 (pw l)⟩
theorem divInt_num_le {a b : Int} (hb : b ≠ 0) : (Rat.divInt a b).num.natAbs ≤ a.natAbs := by
  rw [Rat.num_divInt]
  have h : (b.sign * a / (Int.gcd b a : Int)).natAbs ≤ (b.sign * a).natAbs := Int.natAbs_ediv_le_natAbs _ _
  have e : (b.sign * a).natAbs = a.natAbs := by
    rw [Int.natAbs_mul, Int.natAbs_sign_of_ne_zero hb, Nat.one_mul]
  omega
theorem divInt_den_le {a b : Int} (hb : b ≠ 0) : (Rat.divInt a b).den ≤ b.natAbs := by
  rw [Rat.den_divInt, if_neg hb]
  exact Nat.div_le_self _ _
theorem sz_divInt {a b : Int} {n : Nat} (hb : b ≠ 0) (h1 : a.natAbs < 2 ^ n) (h2 : b.natAbs < 2 ^ n) : Sz n (Rat.divInt a b) := ⟨Nat.lt_of_le_of_lt (divInt_num_le hb) h1, Nat.lt_of_le_of_lt (divInt_den_le hb) h2⟩
theorem mul_lt {a b : Int} {m n : Nat} (ha : a.natAbs < 2 ^ m) (hb : b.natAbs < 2 ^ n) : (a * b).natAbs < 2 ^ (m + n) := by
  rw [Int.natAbs_mul, Nat.pow_add]
  exact Nat.mul_lt_mul'' ha hb
theorem add_lt {a b : Int} {m : Nat} (ha : a.natAbs < 2 ^ m) (hb : b.natAbs < 2 ^ m) : (a + b).natAbs < 2 ^ (m + 1) := by
  rw [Nat.pow_succ]
  omega
theorem sub_lt {a b : Int} {m : Nat} (ha : a.natAbs < 2 ^ m) (hb : b.natAbs < 2 ^ m) : (a - b).natAbs < 2 ^ (m + 1) := by
  rw [Nat.pow_succ]
  omega
theorem den_ne (q : Rat) : (q.den : Int) ≠ 0 := by have := q.den_nz; omega
theorem den_pos (q : Rat) : (0 : Int) < (q.den : Int) := by have := q.den_nz; omega
theorem add_eq (x y : Rat) : Rat.divInt (x.num * y.den + y.num * x.den) (x.den * y.den) = x + y := by
  rw [Rat.add_def']
  exact Rat.divInt_ofNat _ (x.den * y.den)
theorem sub_eq (x y : Rat) : Rat.divInt (x.num * y.den - y.num * x.den) (x.den * y.den) = x - y := by
  rw [Rat.sub_def']
  exact Rat.divInt_ofNat _ (x.den * y.den)
theorem mul_eq (x y : Rat) : Rat.divInt (x.num * y.num) (x.den * y.den) = x * y := by
  rw [Rat.mul_def']
  exact Rat.divInt_ofNat _ (x.den * y.den)
theorem div_eq (x y : Rat) : Rat.divInt (x.num * y.den) (x.den * y.num) = x / y := by
  rw [Rat.div_def, Rat.inv_def, ← Rat.divInt_mul_divInt, Rat.num_divInt_den]
theorem Sz.den {n : Nat} {q : Rat} (h : Sz n q) : ((q.den : Int)).natAbs < 2 ^ n := h.2
theorem dd_lt {x y : Rat} {m n : Nat} (hx : Sz m x) (hy : Sz n y) : ((x.den : Int) * (y.den : Int)).natAbs < 2 ^ (m + n) := mul_lt hx.den hy.den
theorem up1 {a : Int} {n : Nat} (h : a.natAbs < 2 ^ n) : a.natAbs < 2 ^ (n + 1) := Nat.lt_of_lt_of_le h (pw (by omega))
theorem nn_lt {x y : Rat} {m n : Nat} (hx : Sz m x) (hy : Sz n y) : (x.num * (y.den : Int) + y.num * (x.den : Int)).natAbs < 2 ^ (m + n + 1) := by
  have h1 := mul_lt hx.1 hy.den
  have h2 := mul_lt hy.1 hx.den
  rw [Nat.add_comm n m] at h2
  exact add_lt h1 h2
theorem ns_lt {x y : Rat} {m n : Nat} (hx : Sz m x) (hy : Sz n y) : (x.num * (y.den : Int) - y.num * (x.den : Int)).natAbs < 2 ^ (m + n + 1) := by
  have h1 := mul_lt hx.1 hy.den
  have h2 := mul_lt hy.1 hx.den
  rw [Nat.add_comm n m] at h2
  exact sub_lt h1 h2
theorem Sz.add {x y : Rat} {m n : Nat} (hx : Sz m x) (hy : Sz n y) : Sz (m + n + 1) (x + y) := by
  rw [← add_eq]
  exact sz_divInt (Int.mul_ne_zero (den_ne x) (den_ne y)) (nn_lt hx hy) (up1 (dd_lt hx hy))
theorem Sz.sub {x y : Rat} {m n : Nat} (hx : Sz m x) (hy : Sz n y) : Sz (m + n + 1) (x - y) := by
  rw [← sub_eq]
  exact sz_divInt (Int.mul_ne_zero (den_ne x) (den_ne y)) (ns_lt hx hy) (up1 (dd_lt hx hy))
theorem Sz.mul {x y : Rat} {m n : Nat} (hx : Sz m x) (hy : Sz n y) : Sz (m + n) (x * y) := by
  rw [← mul_eq]
  exact sz_divInt (Int.mul_ne_zero (den_ne x) (den_ne y)) (mul_lt hx.1 hy.1) (dd_lt hx hy)
theorem num_ne {y : Rat} (h : y ≠ 0) : y.num ≠ 0 := fun z => h (Rat.num_eq_zero.mp z)
theorem Sz.div {x y : Rat} {m n : Nat} (hx : Sz m x) (hy : Sz n y) : Sz (m + n) (x / y) := by
  by_cases h : y = 0
  · rw [h, Rat.div_def, Rat.inv_zero, Rat.mul_zero]
    have h3 : 1 < 2 ^ m := by have := hx.2; have := x.den_nz; omega
    exact ⟨Nat.lt_of_lt_of_le (by decide) (Nat.one_le_two_pow (n := m + n)), Nat.lt_of_lt_of_le h3 (pw (by omega))⟩
  · rw [← div_eq]
    exact sz_divInt (Int.mul_ne_zero (den_ne x) (num_ne h)) (mul_lt hx.1 hy.den) (mul_lt hx.den hy.1)
theorem gcd_small {a b : Int} {n : Nat} (hb : b ≠ 0) (h : b.natAbs < 2 ^ n) : Int.gcd a b < 2 ^ n := Nat.lt_of_le_of_lt (Int.gcd_le_natAbs_right a hb) h
end Fr
namespace Lw
open PySem PySem.Spec PyProof.Rows L2 Gx
/-- a divisor that the division may have -/
def Okd (a b : Int) : Prop := (a.natAbs < 2 ^ 13500 ∧ b.natAbs < 2 ^ 13500) ∨ Int.gcd a b < 2 ^ 9000
theorem Okd.div {a b d : Int} (h : Okd a b) (e : d.natAbs = Int.gcd a b) : Builtin.divisionGoesByPylong a d = false ∧ Builtin.divisionGoesByPylong b d = false := by
  rcases h with ⟨h1, h2⟩ | h
  · exact ⟨noPy_mid h1, noPy_mid h2⟩
  · exact ⟨noPy_low (by rw [e]; exact h), noPy_low (by rw [e]; exact h)⟩
theorem okd_den {a b : Int} {n : Nat} (hb : b ≠ 0) (h : b.natAbs < 2 ^ n) (hn : n ≤ 9000) : Okd a b := .inr (Nat.lt_of_lt_of_le (Fr.gcd_small hb h) (Fr.pw hn))
/-- a great fraction times a small one: what both parts have in common is small -/
theorem okd_mul {x y : Rat} {n : Nat} (hy : y ≠ 0) (sy : Fr.Sz n y) (h : 2 * n ≤ 9000) : Okd (x.num * y.num) ((x.den : Int) * (y.den : Int)) := by
  refine .inr (Nat.lt_of_lt_of_le ?_ (Fr.pw h))
  have e : Int.gcd (x.num * y.num) ((x.den : Int) * (y.den : Int)) = Nat.gcd (x.num.natAbs * y.num.natAbs) (x.den * y.den) := by
    unfold Int.gcd
    rw [Int.natAbs_mul, Int.natAbs_mul, Int.natAbs_natCast, Int.natAbs_natCast]
  rw [e]
  have d := Nat.gcd_mul_right_dvd_mul_gcd (x.num.natAbs * y.num.natAbs) x.den y.den
  have c0 : Nat.gcd (x.num.natAbs * y.num.natAbs) x.den ∣ y.num.natAbs := by
    have cp : Nat.Coprime x.den x.num.natAbs := x.reduced.symm
    have h2 : Nat.Coprime (Nat.gcd (x.num.natAbs * y.num.natAbs) x.den) x.num.natAbs := Nat.Coprime.coprime_dvd_left (Nat.gcd_dvd_right ..) cp
    exact h2.dvd_of_dvd_mul_left (Nat.gcd_dvd_left ..)
  have c1 := Nat.gcd_dvd_right (x.num.natAbs * y.num.natAbs) y.den
  have yn : y.num.natAbs ≠ 0 := fun z => hy (Rat.num_eq_zero.mp (Int.natAbs_eq_zero.mp z))
  have l0 := Nat.le_of_dvd (by omega) c0
  have l1 := Nat.le_of_dvd y.den_pos c1
  have pos : 0 < Nat.gcd (x.num.natAbs * y.num.natAbs) x.den * Nat.gcd (x.num.natAbs * y.num.natAbs) y.den := Nat.mul_pos (Nat.gcd_pos_of_pos_right _ x.den_pos) (Nat.gcd_pos_of_pos_right _ y.den_pos)
  have l2 := Nat.le_of_dvd pos d
  have l3 := Nat.mul_le_mul l0 l1
  have l4 : y.num.natAbs * y.den < 2 ^ n * 2 ^ n := Nat.mul_lt_mul'' sy.1 sy.2
  have e2 : 2 ^ (2 * n) = 2 ^ n * 2 ^ n := by rw [Nat.two_mul, Nat.pow_add]
  omega
end Lw
namespace Lw
open PySem PySem.Spec PyProof.Rows L2 Gx
/-- whether a value is a whole number, by its type -/
def Whole (K : PySem.W.Frag) (H : Hp) (x : V) (b : Bool) : Prop := ∃ (t : Value) (b1 b2 : Bool), TyX K H x t ∧ PySem.W.kitOne K t (.type "int") = some b1 ∧ PySem.W.kitOne K t (.type "bool") = some b2 ∧ b = (b1 && !b2)
theorem Whole.int {K : PySem.W.Frag} {H : Hp} (i : Int) : Whole K H (.int i) true := ⟨.type "int", true, false, .base (.int i), kit_ty (by decide +kernel), kit_ty (by decide +kernel), rfl⟩
theorem Whole.bl {K : PySem.W.Frag} {H : Hp} (b : Bool) : Whole K H (.bl b) false := ⟨.type "bool", true, true, .base (.bl b), kit_ty (by decide +kernel), kit_ty (by decide +kernel), rfl⟩
theorem Whole.str {K : PySem.W.Frag} {H : Hp} (x : Str) : Whole K H (.str x) false := ⟨.type "str", false, false, .base (.str x), kit_ty (by decide +kernel), kit_ty (by decide +kernel), rfl⟩
theorem Whole.non {K : PySem.W.Frag} {H : Hp} : Whole K H .non false := ⟨.type "NoneType", false, false, .base .non, kit_ty (by decide +kernel), kit_ty (by decide +kernel), rfl⟩
theorem Whole.same {K : PySem.W.Frag} {H H' : Hp} (e : Same H H') {x : V} {b : Bool} (h : Whole K H x b) : Whole K H' x b := by
  obtain ⟨t, b1, b2, ht, h⟩ := h
  exact ⟨t, b1, b2, tyx_same e ht, h⟩
theorem Whole.tup {K : PySem.W.Frag} {H : Hp} {p : Addr} {xs : List V} (h : SqT K H p xs) : Whole K H (.ref p) false := ⟨.type "tuple", false, false, ty_tup h, kit_ty (by decide +kernel), kit_ty (by decide +kernel), rfl⟩
theorem Whole.lst {K : PySem.W.Frag} {H : Hp} {p : Addr} {xs : List V} (h : SqL K H p xs) : Whole K H (.ref p) false := ⟨.type "list", false, false, ty_lst h, kit_ty (by decide +kernel), kit_ty (by decide +kernel), rfl⟩
theorem Whole.dict {K : PySem.W.Frag} {H : Hp} {p : Addr} {kvs : List (Key × V)} (h : H p = some (.dK kvs)) : Whole K H (.ref p) false := ⟨.type "dict", false, false, .base (.dK h), kit_ty (by decide +kernel), kit_ty (by decide +kernel), rfl⟩
/-- whether a thing is a fraction -/
inductive IsF (K : PySem.W.Frag) (H : Hp) : V → Bool → Prop
  | kind {x : V} {t : Value} (ht : TyX K H x t) (hk : PySem.W.kitOne K t (.type "tuple") = some false) : IsF K H x false
  | len {p : Addr} {xs : List V} (h : SqT K H p xs) (hl : xs.length ≠ 2) : IsF K H (.ref p) false
  | parts {p : Addr} {u v : V} {bu bv : Bool} (h : SqT K H p [u, v]) (hu : Whole K H u bu) (hv : Whole K H v bv) (hb : (bu && bv) = false) : IsF K H (.ref p) false
  | whole {p : Addr} {c d : Int} (h : SqT K H p [.int c, .int d]) : IsF K H (.ref p) (decide (0 < d) && decide (Int.gcd c d = 1))
theorem IsF.int {K : PySem.W.Frag} {H : Hp} (i : Int) : IsF K H (.int i) false := .kind (.base (.int i)) (kit_ty (by decide +kernel))
theorem IsF.bl {K : PySem.W.Frag} {H : Hp} (b : Bool) : IsF K H (.bl b) false := .kind (.base (.bl b)) (kit_ty (by decide +kernel))
theorem IsF.str {K : PySem.W.Frag} {H : Hp} (x : Str) : IsF K H (.str x) false := .kind (.base (.str x)) (kit_ty (by decide +kernel))
theorem IsF.non {K : PySem.W.Frag} {H : Hp} : IsF K H .non false := .kind (.base .non) (kit_ty (by decide +kernel))
theorem IsF.lst {K : PySem.W.Frag} {H : Hp} {p : Addr} {xs : List V} (h : SqL K H p xs) : IsF K H (.ref p) false := .kind (ty_lst h) (kit_ty (by decide +kernel))
theorem IsF.dict {K : PySem.W.Frag} {H : Hp} {p : Addr} {kvs : List (Key × V)} (h : H p = some (.dK kvs)) : IsF K H (.ref p) false := .kind (.base (.dK h)) (kit_ty (by decide +kernel))
theorem IsF.yes {K : PySem.W.Frag} {H : Hp} {p : Addr} {q : Rat} (h : SqT K H p (Fr.fq q)) : IsF K H (.ref p) true := by
  have e2 : Int.gcd q.num (q.den : Int) = 1 := q.reduced
  have z := IsF.whole h
  rw [decide_eq_true (Fr.den_pos q), decide_eq_true e2] at z
  exact z
theorem all_cons {α : Type} {P : α → Prop} {a : α} {l : List α} (h : P a) (r : ∀ x ∈ l, P x) : ∀ x ∈ a :: l, P x := fun x hx => by
  rcases List.mem_cons.mp hx with e | e
  · rw [e]; exact h
  · exact r x e
theorem at_mem {xs : List V} {i : Int} (h0 : 0 ≤ i) (h1 : i < xs.length) : ∃ v, v ∈ xs ∧ atI xs i = some v := by
  obtain ⟨n, rfl⟩ : ∃ n : Nat, i = (n : Int) := ⟨i.toNat, by omega⟩
  exact ⟨xs[n]'(by omega), List.getElem_mem _, atI_nat (by simp)⟩
end Lw
namespace Lw
open PySem PySem.Spec PyProof.Rows L2 Gx
/-- fractions at some addresses -/
def Fqs (K : PySem.W.Frag) (H : Hp) (vs : List V) (qs : List Rat) : Prop := Paired (fun v q => ∃ p, v = V.ref p ∧ SqT K H p (Fr.fq q)) vs qs
theorem Fqs.same {K : PySem.W.Frag} {H H' : Hp} (e : Same H H') : ∀ {vs : List V} {qs : List Rat}, Fqs K H vs qs → Fqs K H' vs qs
  | _, _, .nil => .nil
  | _, _, .cons ⟨p, h1, h2⟩ r => .cons ⟨p, h1, seqT_same e h2⟩ (Fqs.same e r)
theorem Fqs.get {K : PySem.W.Frag} {H : Hp} : ∀ {vs : List V} {qs : List Rat} {i : Nat} {v : V}, Fqs K H vs qs → vs[i]? = some v → ∃ p q, v = .ref p ∧ qs[i]? = some q ∧ SqT K H p (Fr.fq q)
  | _, _, 0, v, .cons (b := q) ⟨p, h1, h2⟩ r, e => ⟨p, q, (Option.some.inj e).symm.trans h1, rfl, h2⟩
  | _, _, i + 1, v, .cons ⟨p, h1, h2⟩ r, e => Fqs.get (i := i) r e
theorem Fqs.len {K : PySem.W.Frag} {H : Hp} {vs : List V} {qs : List Rat} (h : Fqs K H vs qs) : vs.length = qs.length := Paired.length h
def sum (qs : List Rat) : Rat := qs.foldl (· + ·) 0
def szs (ns : List Nat) : Nat := ns.foldl (fun a n => a + n + 1) 1
theorem szs_snoc (l : List Nat) (n : Nat) : szs (l ++ [n]) = szs l + n + 1 := by simp [szs]
theorem sum_snoc (l : List Rat) (q : Rat) : sum (l ++ [q]) = sum l + q := by simp [sum]
theorem szs_take (l : List Nat) (i : Nat) : szs (l.take i) ≤ szs l := by
  have h : ∀ (m : List Nat) (a b : Nat), a ≤ b → a ≤ m.foldl (fun a n => a + n + 1) b := fun m => by
    induction m with
    | nil => intro a b h; exact h
    | cons x r ih => intro a b h; exact ih a _ (show a ≤ b + x + 1 by omega)
  have e : szs l = (l.drop i).foldl (fun a n => a + n + 1) (szs (l.take i)) := by
    unfold szs
    rw [← List.foldl_append, List.take_append_drop]
  rw [e]
  exact h _ _ _ (Nat.le_refl _)
theorem take_snoc {α : Type} {l : List α} {i : Nat} {x : α} (h : l[i]? = some x) : l.take (i + 1) = l.take i ++ [x] := by
  rw [List.take_add_one, h]
  rfl
theorem Paired.get {α β : Type} {F : α → β → Prop} : ∀ {as : List α} {bs : List β} {i : Nat} {a : α}, Paired F as bs → as[i]? = some a → ∃ b, bs[i]? = some b ∧ F a b
  | _, _, 0, a, .cons (b := b) h r, e => ⟨b, rfl, (Option.some.inj e) ▸ h⟩
  | _, _, i + 1, a, .cons h r, e => Paired.get (i := i) r e
theorem Fqs.snoc {K : PySem.W.Frag} {H : Hp} {p : Addr} {q : Rat} (h : SqT K H p (Fr.fq q)) : ∀ {vs : List V} {qs : List Rat}, Fqs K H vs qs → Fqs K H (vs ++ [.ref p]) (qs ++ [q])
  | _, _, .nil => .cons ⟨p, rfl, h⟩ .nil
  | _, _, .cons a r => .cons a (Fqs.snoc h r)
theorem Fqs.put {K : PySem.W.Frag} {H : Hp} {p : Addr} {q : Rat} (h : SqT K H p (Fr.fq q)) : ∀ (k : Nat) {vs : List V} {qs : List Rat}, Fqs K H vs qs → Fqs K H (vs.take k ++ [.ref p] ++ vs.drop k) (qs.take k ++ [q] ++ qs.drop k)
  | 0, _, _, r => .cons ⟨p, rfl, h⟩ r
  | _ + 1, _, _, .nil => .cons ⟨p, rfl, h⟩ .nil
  | k + 1, _, _, .cons a r => .cons a (Fqs.put h k r)
theorem foldl_add (l : List Rat) (a : Rat) : l.foldl (· + ·) a = a + sum l := by
  induction l generalizing a with
  | nil => show a = a + 0; rw [Rat.add_zero]
  | cons x r ih =>
    show r.foldl (· + ·) (a + x) = a + r.foldl (· + ·) (0 + x)
    rw [ih, ih, Rat.zero_add, Rat.add_assoc]
theorem sum_app (l m : List Rat) : sum (l ++ m) = sum l + sum m := by
  show (l ++ m).foldl (· + ·) 0 = _
  rw [List.foldl_append]
  exact foldl_add m _
theorem sum_put (l : List Rat) (k : Nat) (q : Rat) : sum (l.take k ++ [q] ++ l.drop k) = sum l + q := by
  have e : sum l = sum (l.take k) + sum (l.drop k) := by rw [← sum_app, List.take_append_drop]
  rw [sum_app, sum_app, e, show sum [q] = q from Rat.zero_add q, Rat.add_assoc, Rat.add_assoc, Rat.add_comm q]
theorem Fqs.dp {K : PySem.W.Frag} {H : Hp} : ∀ {vs : List V} {qs : List Rat}, Fqs K H vs qs → DpAll K H vs (qs.map Fr.fqd)
  | _, _, .nil => .nil
  | _, _, .cons ⟨p, e, h⟩ r => by
    subst e
    exact .cons (Fr.dp_fq h) (Fqs.dp r)
theorem shaped_fqs (qs : List Rat) : SeqAt.shaped (.list (qs.map Fr.fqd)) = true := by
  have h : ∀ l : List Rat, PyData.canLayAll0 (l.map Fr.fqd) = true ∧ PyData.depthAll (l.map Fr.fqd) ≤ 1 := fun l => by
    induction l with
    | nil => exact ⟨by simp [PyData.canLayAll0], by simp [PyData.depthAll]⟩
    | cons n r ih => exact ⟨by simp [PyData.canLayAll0, PyData.canLay0, Fr.fqd, ih.1], by simp [PyData.depthAll, PyData.depth, Fr.fqd]; have := ih.2; omega⟩
  obtain ⟨h1, h2⟩ := h qs
  have h3 : PyData.depthAll (qs.map Fr.fqd) + 1 ≤ 64 := by omega
  simp [SeqAt.shaped, PyData.canLay0, PyData.depth, h1, h3]
theorem szs_rep (n : Nat) : szs (List.replicate n 200) = 1 + 201 * n := by
  induction n with
  | zero => rfl
  | succ n ih => rw [List.replicate_succ', szs_snoc, ih]; omega
def All200 (qs : List Rat) : Prop := ∀ q ∈ qs, Fr.Sz 200 q
theorem All200.paired : ∀ {qs : List Rat}, All200 qs → Paired (fun q n => Fr.Sz n q) qs (List.replicate qs.length 200)
  | [], _ => .nil
  | q :: r, h => .cons (h q (List.mem_cons_self ..)) (All200.paired fun x hx => h x (List.mem_cons_of_mem _ hx))
end Lw
namespace Lw
open PySem PySem.Spec PyProof.Rows L2 Gx
theorem Fqs.imm {K : PySem.W.Frag} {H H' : Hp} (e : Imm H H') : ∀ {vs : List V} {qs : List Rat}, Fqs K H vs qs → Fqs K H' vs qs
  | _, _, .nil => .nil
  | _, _, .cons ⟨p, h, g⟩ r => .cons ⟨p, h, seqT_imm e g⟩ (Fqs.imm e r)
end Lw
namespace Pl
open PySem PySem.Spec PyProof.Rows L2 Gx
abbrev P := List (Str × Int)
def pd (p : Str × Int) : PyData := .tuple [.str p.1, .int p.2]
def d (pl : P) : PyData := .tuple (pl.map pd)
def tot (pl : P) : Int := (pl.map (·.2)).sum
/-- a name: one to eight small letters -/
def Nm (s : Str) : Prop := 1 ≤ s.cps.size ∧ s.cps.size ≤ 8 ∧ ∀ c ∈ s.cps.toList, 97 ≤ c ∧ c ≤ 122
structure Good (pl : P) : Prop where
  nd : (pl.map (·.1)).Nodup
  nm : ∀ p ∈ pl, Nm p.1
  pos : ∀ p ∈ pl, 0 ≤ p.2
  t1 : 1 ≤ tot pl
  t2 : tot pl ≤ 60
  len : pl.length ≤ 9
def place : P → Int → Option (Str × Int)
  | [], _ => none
  | p :: r, k => if k < p.2 then some (p.1, k) else place r (k - p.2)
def numb : P → Str → Int → Int → Option Int
  | [], _, _, _ => none
  | p :: r, s, k, a => if p.1 = s ∧ 0 ≤ k ∧ k < p.2 then some (a + k) else numb r s k (a + p.2)
def row (p : Str × Int) : List (Str × Int) := (List.range p.2.toNat).map fun (k : Nat) => (p.1, (k : Int))
def places (pl : P) : List (Str × Int) := pl.flatMap row
theorem row_len (p : Str × Int) : (row p).length = p.2.toNat := by simp [row]
theorem tot_cons (p : Str × Int) (r : P) : tot (p :: r) = p.2 + tot r := by simp [tot]
theorem tot_nn : ∀ {pl : P}, (∀ p ∈ pl, 0 ≤ p.2) → 0 ≤ tot pl
  | [], _ => by simp [tot]
  | p :: r, h => by
    rw [tot_cons]
    have := tot_nn fun x hx => h x (List.mem_cons_of_mem p hx)
    have := h p (List.mem_cons_self ..)
    omega
theorem places_len : ∀ {pl : P}, (∀ p ∈ pl, 0 ≤ p.2) → ((places pl).length : Int) = tot pl
  | [], _ => rfl
  | p :: r, h => by
    have e : places (p :: r) = row p ++ places r := rfl
    rw [e, List.length_append, row_len, tot_cons]
    have := places_len fun x hx => h x (List.mem_cons_of_mem p hx)
    have := h p (List.mem_cons_self ..)
    omega
theorem row_at {p : Str × Int} {k : Nat} (h : (k : Int) < p.2) : (row p)[k]? = some (p.1, (k : Int)) := by
  unfold row
  rw [List.getElem?_map, List.getElem?_range (by omega)]
  rfl
theorem place_eq : ∀ {pl : P} {k : Nat}, (∀ p ∈ pl, 0 ≤ p.2) → place pl (k : Int) = (places pl)[k]?
  | [], k, _ => by simp [place, places]
  | p :: r, k, h => by
    have h0 := h p (List.mem_cons_self ..)
    have e : places (p :: r) = row p ++ places r := rfl
    rw [e]
    show (if (k : Int) < p.2 then _ else _) = _
    by_cases c : (k : Int) < p.2
    · rw [if_pos c, List.getElem?_append_left (by rw [row_len]; omega), row_at c]
    · rw [if_neg c, List.getElem?_append_right (by rw [row_len]; omega), row_len, show (k : Int) - p.2 = ((k - p.2.toNat : Nat) : Int) by omega]
      exact place_eq fun x hx => h x (List.mem_cons_of_mem p hx)
theorem mem_row {p q : Str × Int} (h : q ∈ row p) : q.1 = p.1 ∧ 0 ≤ q.2 ∧ q.2 < p.2 := by
  unfold row at h
  obtain ⟨k, hk, rfl⟩ := List.mem_map.mp h
  have := List.mem_range.mp hk
  exact ⟨rfl, by simp, by show (k : Int) < p.2; omega⟩
theorem mem_places : ∀ {pl : P} {q : Str × Int}, q ∈ places pl ↔ ∃ p ∈ pl, q.1 = p.1 ∧ 0 ≤ q.2 ∧ q.2 < p.2
  | pl, q => by
    unfold places
    rw [List.mem_flatMap]
    constructor
    · rintro ⟨p, hp, hq⟩
      exact ⟨p, hp, mem_row hq⟩
    · rintro ⟨p, hp, e, h0, h1⟩
      refine ⟨p, hp, ?_⟩
      unfold row
      rw [List.mem_map]
      refine ⟨q.2.toNat, List.mem_range.mpr (by omega), ?_⟩
      rw [← e, Int.toNat_of_nonneg h0]
theorem numb_none : ∀ {pl : P} {s : Str} {k a : Int}, numb pl s k a = none ↔ (s, k) ∉ places pl
  | [], s, k, a => by simp [numb, places]
  | p :: r, s, k, a => by
    have ih := numb_none (pl := r) (s := s) (k := k) (a := a + p.2)
    show (if _ then _ else _) = none ↔ _
    by_cases c : p.1 = s ∧ 0 ≤ k ∧ k < p.2
    · rw [if_pos c]
      refine ⟨fun z => (by cases z), fun z => (z ?_).elim⟩
      exact mem_places.mpr ⟨p, List.mem_cons_self .., c.1.symm, c.2.1, c.2.2⟩
    · rw [if_neg c, ih, mem_places, mem_places]
      constructor
      · rintro h ⟨x, hx, e⟩
        rcases List.mem_cons.mp hx with q | q
        · subst q; exact c ⟨e.1.symm, e.2.1, e.2.2⟩
        · exact h ⟨x, q, e⟩
      · rintro h ⟨x, hx, e⟩
        exact h ⟨x, List.mem_cons_of_mem _ hx, e⟩
theorem numb_at : ∀ {pl : P} {s : Str} {k a : Int} {i : Nat}, (pl.map (·.1)).Nodup → (∀ p ∈ pl, 0 ≤ p.2) → (places pl)[i]? = some (s, k) → numb pl s k a = some (a + (i : Int))
  | [], s, k, a, i, _, _, h => by simp [places] at h
  | p :: r, s, k, a, i, nd, h0, h => by
    have e : places (p :: r) = row p ++ places r := rfl
    have hp := h0 p (List.mem_cons_self ..)
    rw [List.map_cons, List.nodup_cons] at nd
    rw [e] at h
    show (if _ then _ else _) = _
    by_cases c : i < (row p).length
    · rw [List.getElem?_append_left c] at h
      rw [row_len] at c
      rw [row_at (by omega)] at h
      cases h
      rw [if_pos ⟨rfl, by omega, by omega⟩]
    · rw [List.getElem?_append_right (by omega)] at h
      rw [row_len] at h c
      have hm := mem_places.mp (List.mem_of_getElem? h)
      obtain ⟨x, hx, ex, _, _⟩ := hm
      rw [if_neg (fun z => nd.1 (by rw [z.1, show s = x.1 from ex]; exact List.mem_map_of_mem hx))]
      rw [numb_at nd.2 (fun x hx => h0 x (List.mem_cons_of_mem p hx)) h]
      congr 1
      omega
theorem sum_set : ∀ (cs : List Int) (j : Nat) (v : Int), j < cs.length → (cs.set j v).sum = cs.sum - cs.getD j 0 + v
  | [], j, v, h => by simp at h
  | c :: r, 0, v, h => by simp; omega
  | c :: r, j + 1, v, h => by
    have ih := sum_set r j v (by simpa using h)
    simp at ih ⊢
    omega
theorem sum_nn : ∀ {cs : List Int}, (∀ c ∈ cs, 0 ≤ c) → 0 ≤ cs.sum ∧ ∀ c ∈ cs, c ≤ cs.sum
  | [], _ => ⟨by simp, fun _ h => nomatch h⟩
  | c :: r, h => by
    obtain ⟨h1, h2⟩ := sum_nn fun x hx => h x (List.mem_cons_of_mem c hx)
    have h0 := h c (List.mem_cons_self ..)
    rw [List.sum_cons]
    refine ⟨by omega, fun x hx => ?_⟩
    rcases List.mem_cons.mp hx with e | e
    · rw [e]; omega
    · have := h2 x e; omega
theorem sum_set0 {cs : List Int} (h : ∀ c ∈ cs, 0 ≤ c) (h0 : cs.sum = 0) {j : Nat} (hj : j < cs.length) (v : Int) : (cs.set j v).sum = v := by
  obtain ⟨_, h2⟩ := sum_nn h
  have hm : cs.getD j 0 ∈ cs := by
    rw [show cs.getD j 0 = cs[j] by simp [hj]]
    exact List.getElem_mem hj
  have := h2 _ hm
  have := h _ hm
  rw [sum_set cs j v hj]
  omega
theorem zip_set : ∀ {ns : List Str} {cs : List Int} {j : Nat} {s : Str} (v : Int), ns[j]? = some s → ns.zip (cs.set j v) = (ns.zip cs).set j (s, v)
  | [], _, _, _, _, h => by simp at h
  | n :: r, [], j, s, v, h => by simp
  | n :: r, c :: t, 0, s, v, h => by simp at h; simp [h]
  | n :: r, c :: t, j + 1, s, v, h => by
    have ih := zip_set (cs := t) v (show r[j]? = some s by simpa using h)
    simp [ih]
/-! data -/
theorem noL_d (pl : P) : noL (d pl) = true := Dt.noL_tup fun x hx => by
  obtain ⟨p, _, rfl⟩ := List.mem_map.mp hx
  rfl
theorem Nm.ok {s : Str} (h : Nm s) : PyData.strOk s = true := by
  unfold PyData.strOk
  rw [← Array.all_toList, List.all_eq_true]
  intro c hc
  have := h.2.2 c hc
  simp
  omega
theorem sh_pd0 {k : Nat} {p : Str × Int} (h : PyData.strOk p.1 = true) : Dt.Sh (k + 1) (pd p) := Dt.sh_tup fun x hx => by
  rcases List.mem_cons.mp hx with e | e
  · rw [e]; exact Dt.sh_str h
  · rw [List.mem_singleton.mp e]; exact Dt.sh_int _
theorem ok_app {a b : Str} (h : PyData.strOk a = true) (g : PyData.strOk b = true) : PyData.strOk (a ++ b) = true := by
  unfold PyData.strOk at h g ⊢
  show (a.cps ++ b.cps).all _ = true
  rw [Array.all_append, h, g]
  rfl
theorem sh_pd {k : Nat} {p : Str × Int} (h : Nm p.1) : Dt.Sh (k + 1) (pd p) := Dt.sh_tup fun x hx => by
  rcases List.mem_cons.mp hx with e | e
  · rw [e]; exact Dt.sh_str h.ok
  · rw [List.mem_singleton.mp e]; exact Dt.sh_int _
theorem sh_places {pl : P} (h : ∀ p ∈ pl, Nm p.1) : ∀ q ∈ places pl, Nm q.1 := fun q hq => by
  obtain ⟨p, hp, e, _⟩ := mem_places.mp hq
  rw [e]
  exact h p hp
/-- a piles' tuple at a place -/
theorem at_pd {K : PySem.W.Frag} {H : Hp} {xs : List V} {pl : P} {i : Nat} {x : V} (h : DpAll K H xs (pl.map pd)) (e : xs[i]? = some x) : ∃ p s, pl[i]? = some p ∧ x = .ref s ∧ SqT K H s [.str p.1, .int p.2] := by
  obtain ⟨z, hz, hd⟩ := Dt.at_ h e
  rw [List.getElem?_map] at hz
  cases q : pl[i]? with
  | none => rw [q] at hz; cases hz
  | some p =>
    rw [q] at hz
    cases hz
    obtain ⟨s, u, v, rfl, hs, h1, h2⟩ := Dt.pair hd
    rw [Dt.str h1, Dt.int h2] at hs
    exact ⟨p, s, rfl, rfl, hs⟩
theorem dp_pd {K : PySem.W.Frag} {H : Hp} {s : Addr} {p : Str × Int} (h : SqT K H s [.str p.1, .int p.2]) : Dp K H (.ref s) (pd p) := .tup h (Dt.two (.str _) (.int _))
/-! what a place is -/
inductive IsPl (K : PySem.W.Frag) (H : Hp) : V → Option (Str × Int) → Prop
  | kind {x : V} {t : Value} (ht : TyX K H x t) (hk : PySem.W.kitOne K t (.type "tuple") = some false) : IsPl K H x none
  | len {p : Addr} {xs : List V} (h : SqT K H p xs) (hl : xs.length ≠ 2) : IsPl K H (.ref p) none
  | key {p : Addr} {u v : V} {t : Value} (h : SqT K H p [u, v]) (ht : TyX K H u t) (hk : PySem.W.kitOne K t (.type "str") = some false) : IsPl K H (.ref p) none
  | num {p : Addr} {s : Str} {v : V} (h : SqT K H p [.str s, v]) (hv : Lw.Whole K H v false) : IsPl K H (.ref p) none
  | yes {p : Addr} {s : Str} {k : Int} (h : SqT K H p [.str s, .int k]) : IsPl K H (.ref p) (some (s, k))
theorem IsPl.same {K : PySem.W.Frag} {H H' : Hp} (e : Same H H') {x : V} {o : Option (Str × Int)} (h : IsPl K H x o) : IsPl K H' x o := by
  cases h with
  | kind ht hk => exact .kind (tyx_same e ht) hk
  | len h hl => exact .len (seqT_same e h) hl
  | key h ht hk => exact .key (seqT_same e h) (tyx_same e ht) hk
  | num h hv => exact .num (seqT_same e h) (hv.same e)
  | yes h => exact .yes (seqT_same e h)
/-- a place, its name a text that can be laid -/
def Pq (K : PySem.W.Frag) (H : Hp) (x : V) : Prop := ∃ o, IsPl K H x o ∧ ∀ z, o = some z → PyData.strOk z.1 = true
theorem Pq.same {K : PySem.W.Frag} {H H' : Hp} (e : Same H H') {x : V} (h : Pq K H x) : Pq K H' x := by
  obtain ⟨o, h, g⟩ := h
  exact ⟨o, h.same e, g⟩
theorem Pq.no {K : PySem.W.Frag} {H : Hp} {x : V} (h : IsPl K H x none) : Pq K H x := ⟨none, h, fun _ z => nomatch z⟩
theorem Pq.yes {K : PySem.W.Frag} {H : Hp} {p : Addr} {s : Str} {k : Int} (h : SqT K H p [.str s, .int k]) (g : PyData.strOk s = true) : Pq K H (.ref p) := ⟨_, .yes h, fun z e => by cases e; exact g⟩
theorem eqv_pd (a b : Str × Int) : PyData.eqv (pd a) (pd b) = decide (a = b) := by
  obtain ⟨s, k⟩ := a
  obtain ⟨t, j⟩ := b
  by_cases h : s = t <;> by_cases g : k = j <;> simp [pd, PyData.eqv, PyData.eqvAll, h, g]
end Pl
namespace Pl
open PySem PySem.Spec PyProof.Rows L2 Gx
def abc : Str := "abcdefghijklmnopqrstuvwxyz"
theorem abc_at {i : Int} (h0 : 0 ≤ i) (h1 : i < 26) : atI abc.cps.toList i = some (97 + i.toNat) := by
  obtain ⟨k, rfl⟩ := Int.eq_ofNat_of_zero_le h0
  have h : ∀ k : Fin 26, atI abc.cps.toList ((k.1 : Nat) : Int) = some (97 + ((k.1 : Nat) : Int).toNat) := by decide +kernel
  exact h ⟨k, by omega⟩
def one (c : Nat) : Str := ⟨#[c]⟩
theorem join_ones : ∀ cs : List Nat, Txt.join Str.empty (cs.map one) = ⟨cs.toArray⟩ := fun cs => by
  show Builtin.Str.glued Str.empty (cs.map one) = _
  rw [PySem.StrLaws.glued_eq_join]
  induction cs with
  | nil => rfl
  | cons c r ih =>
    cases r with
    | nil => rfl
    | cons c2 r =>
      rw [List.map_cons, List.map_cons, join_cons_cons, ← List.map_cons, ih]
      show Str.append (Str.append (one c) Str.empty) ⟨_⟩ = _
      simp [Str.append, one, Str.empty]
theorem sum_ones (cs : List Nat) : ((cs.map one).map (·.length)).sum = cs.length := by
  induction cs with
  | nil => rfl
  | cons c r ih => rw [List.map_cons, List.map_cons, List.sum_cons, ih, List.length_cons]; show 1 + r.length = _; omega
/-- a text, one letter of it changed -/
def nm (cs : List Nat) (k : Nat) (c : Nat) : Str := ⟨(cs.set k c).toArray⟩
def Letters (cs : List Nat) : Prop := ∀ c ∈ cs, 97 ≤ c ∧ c ≤ 122
theorem Letters.set {cs : List Nat} (h : Letters cs) (k : Nat) {c : Nat} (hc : 97 ≤ c ∧ c ≤ 122) : Letters (cs.set k c) := fun x hx => by
  rcases List.mem_or_eq_of_mem_set hx with e | e
  · exact h x e
  · rw [e]; exact hc
theorem nm_of {cs : List Nat} (h : Letters cs) (h1 : 1 ≤ cs.length) (h8 : cs.length ≤ 8) : Nm ⟨cs.toArray⟩ := ⟨by simpa using h1, by simpa using h8, fun c hc => h c (by simpa using hc)⟩
theorem nm_inj {cs : List Nat} {k c d : Nat} (hk : k < cs.length) (h : nm cs k c = nm cs k d) : c = d := by
  unfold nm at h
  have h2 : cs.set k c = cs.set k d := by simpa using h
  have h3 := congrArg (fun l => l[k]?) h2
  simpa [hk] using h3
/-- so many names, one after another -/
def some_ (cs : List Nat) (k : Nat) (c0 : Int) (m : Nat) : List Str := (List.range m).map fun (j : Nat) => nm cs k (97 + ((c0 + (j : Int)) % 26).toNat)
theorem some_len (cs : List Nat) (k : Nat) (c0 : Int) (m : Nat) : (some_ cs k c0 m).length = m := by simp [some_]
theorem some_succ (cs : List Nat) (k : Nat) (c0 : Int) (m : Nat) : some_ cs k c0 (m + 1) = some_ cs k c0 m ++ [nm cs k (97 + ((c0 + (m : Int)) % 26).toNat)] := by simp [some_, List.range_succ]
theorem some_nd {cs : List Nat} {k : Nat} (hk : k < cs.length) (c0 : Int) {m : Nat} (hm : m ≤ 9) : (some_ cs k c0 m).Nodup := by
  unfold some_
  refine List.pairwise_map.mpr (List.Pairwise.imp_of_mem ?_ List.pairwise_lt_range)
  intro a b ha hb hab e
  have := nm_inj hk e
  have := List.mem_range.mp ha
  have := List.mem_range.mp hb
  omega
theorem some_nm {cs : List Nat} {k : Nat} (h : Letters cs) (h1 : 1 ≤ cs.length) (h8 : cs.length ≤ 8) (c0 : Int) (m : Nat) : ∀ s ∈ some_ cs k c0 m, Nm s := fun s hs => by
  obtain ⟨j, _, rfl⟩ := List.mem_map.mp hs
  exact nm_of (h.set k (by omega)) (by simpa using h1) (by simpa using h8)
theorem some_size {cs : List Nat} {k : Nat} {c0 : Int} {m : Nat} : ∀ s ∈ some_ cs k c0 m, s.cps.size = cs.length := fun s hs => by
  obtain ⟨j, _, rfl⟩ := List.mem_map.mp hs
  simp [nm]
/-- a text's front -/
theorem cut_front {s : Str} {k : Nat} (h : k ≤ s.cps.size) : cutS s none (some (k : Int)) = ⟨(s.cps.toList.take k).toArray⟩ := by
  unfold cutS
  rw [HT.sIx_none, HT.sIx_nat, Nat.min_eq_left (show k ≤ s.length from h)]
  rfl
def fr (s : Str) (k : Nat) : Str := ⟨(s.cps.toList.take (k + 1)).toArray⟩
theorem fr_size {s : Str} {k : Nat} (h : k < s.cps.size) : (fr s k).cps.size = k + 1 := by
  simp [fr]
  omega
theorem fr_nm {s : Str} {k : Nat} (h : Nm s) (hk : k < s.cps.size) : Nm (fr s k) := by
  refine ⟨by rw [fr_size hk]; omega, by rw [fr_size hk]; have := h.2.1; omega, fun c hc => h.2.2 c ?_⟩
  have : c ∈ s.cps.toList.take (k + 1) := by simpa [fr] using hc
  exact List.mem_of_mem_take this
theorem fr_all {s : Str} (h : s.cps.size = 8) : fr s 7 = s := by
  cases s with
  | mk a =>
    unfold fr
    congr 1
    have : a.toList.length = 8 := by simpa using h
    show (a.toList.take 8).toArray = a
    rw [List.take_of_length_le (by omega)]
/-- the fronts of the first, then the others -/
theorem fronts_nd {s : Str} {r : List Str} (h : s.cps.size = 8) (hr : ∀ x ∈ r, x.cps.size = 8) (nd : (s :: r).Nodup) : ((List.range 8).map (fr s) ++ r).Nodup := by
  have nd2 := List.nodup_cons.mp nd
  refine List.pairwise_append.mpr ⟨?_, nd2.2, ?_⟩
  · refine List.pairwise_map.mpr (List.Pairwise.imp_of_mem ?_ List.pairwise_lt_range)
    intro a b ha hb hab e
    have := List.mem_range.mp ha
    have := List.mem_range.mp hb
    have e2 : (fr s a).cps.size = (fr s b).cps.size := congrArg (fun x : Str => x.cps.size) e
    rw [fr_size (by omega), fr_size (by omega)] at e2
    omega
  · intro a ha b hb e
    obtain ⟨j, hj, rfl⟩ := List.mem_map.mp ha
    have := List.mem_range.mp hj
    have e2 : (fr s j).cps.size = b.cps.size := congrArg (fun x : Str => x.cps.size) e
    rw [fr_size (by omega), hr b hb] at e2
    obtain rfl : j = 7 := by omega
    rw [fr_all h] at e
    exact nd2.1 (e ▸ hb)
end Pl
namespace Pl
open PySem PySem.Spec PyProof.Rows L2 Gx
/-- a text with a letter put in -/
def nm2 (cs : List Nat) (k : Nat) (c : Nat) : Str := ⟨(cs.take k ++ c :: cs.drop k).toArray⟩
def some2 (cs : List Nat) (k : Nat) (c0 st : Int) (m : Nat) : List Str := (List.range m).map fun (j : Nat) => nm2 cs k (97 + ((c0 + (j : Int) * st) % 26).toNat)
theorem some2_succ (cs : List Nat) (k : Nat) (c0 st : Int) (m : Nat) : some2 cs k c0 st (m + 1) = some2 cs k c0 st m ++ [nm2 cs k (97 + ((c0 + (m : Int) * st) % 26).toNat)] := by simp [some2, List.range_succ]
theorem nm2_inj {cs : List Nat} {k c d : Nat} (h : nm2 cs k c = nm2 cs k d) : c = d := by
  unfold nm2 at h
  have h2 : cs.take k ++ c :: cs.drop k = cs.take k ++ d :: cs.drop k := by simpa using h
  have h3 := List.append_cancel_left h2
  exact (List.cons.inj h3).1
theorem some2_nd {cs : List Nat} {k : Nat} (hk : k ≤ cs.length) (c0 : Int) {st : Int} (hs : 1 ≤ st ∧ st ≤ 3) {m : Nat} (hm : m ≤ 8) : (some2 cs k c0 st m).Nodup := by
  unfold some2
  refine List.pairwise_map.mpr (List.Pairwise.imp_of_mem ?_ List.pairwise_lt_range)
  intro a b ha hb hab e
  have := nm2_inj e
  have := List.mem_range.mp ha
  have := List.mem_range.mp hb
  have h3 : st = 1 ∨ st = 2 ∨ st = 3 := by omega
  rcases h3 with rfl | rfl | rfl <;> omega
theorem some2_nm {cs : List Nat} {k : Nat} (h : Letters cs) (h8 : cs.length ≤ 7) (c0 st : Int) (m : Nat) : ∀ s ∈ some2 cs k c0 st m, Nm s := fun s hs => by
  obtain ⟨j, _, rfl⟩ := List.mem_map.mp hs
  unfold nm2
  refine nm_of (fun c hc => ?_) (by simp; omega) (by simp; omega)
  rcases List.mem_append.mp hc with e | e
  · exact h c (List.mem_of_mem_take e)
  · rcases List.mem_cons.mp e with e | e
    · rw [e]; omega
    · exact h c (List.mem_of_mem_drop e)
theorem cut_back {s : Str} {k : Nat} (h : k ≤ s.cps.size) : cutS s (some (k : Int)) none = ⟨(s.cps.toList.drop k).toArray⟩ := by
  unfold cutS
  rw [HT.sIx_none, HT.sIx_nat, Nat.min_eq_left (show k ≤ s.length from h)]
  show (⟨((s.cps.toList.drop k).take (s.length - k)).toArray⟩ : Str) = _
  rw [List.take_of_length_le (by show _ ≤ s.cps.size - k; simp)]
theorem nm2_eq {cs : List Nat} {k c : Nat} (h : k ≤ cs.length) : ((⟨((⟨cs.toArray⟩ : Str).cps.toList.take k).toArray⟩ : Str) ++ (⟨#[c]⟩ : Str)) ++ cutS ⟨cs.toArray⟩ (some (k : Int)) none = nm2 cs k c := by
  rw [cut_back (by simpa using h)]
  unfold nm2
  show (⟨(_ ++ _) ++ _⟩ : Str) = _
  simp
end Pl
namespace Cm
open PySem PySem.Spec PyProof.Rows L2 Gx
/-- a claim -/
inductive C
  | claim
  | beats (o t : Str)
  | over (n : Str) (s : Rat)
  | under (n : Str) (s : Rat)
def greatest : C → Rat
  | .claim => 1/2
  | .beats _ _ => 1
  | .over _ s => (1/2) / s
  | .under _ s => (1/2) / (1 - s)
def valueOf : C → Option Str → Rat
  | .claim, _ => 1/2
  | .beats o t, m => if m = some o then 1 else if m = some t then 0 else 1/2
  | .over n s, m => if m = none ∨ m = some (Str.ofString "") then 1/2 else if m = some n then greatest (.over n s) else 0
  | .under n s, m => if m = none ∨ m = some (Str.ofString "") then 1/2 else if m = some n then 0 else greatest (.under n s)
def value (c : C) (m : Option Str) : Rat := if m = some (Str.ofString "?") then 0 else valueOf c m
def Ok (n : Nat) : C → Prop
  | .over _ s => 0 < s ∧ s < 1 ∧ Fr.Sz n s
  | .under _ s => 0 < s ∧ s < 1 ∧ Fr.Sz n s
  | _ => True
def At (K : PySem.W.Frag) (H : Hp) (a : Addr) : C → Prop
  | .claim => ∃ dx, H a = some (.ins (He.ga K "Claim") dx [])
  | .beats o t => ∃ dx, H a = some (.ins (He.ga K "Beats") dx [("one", .str o), ("other", .str t)])
  | .over n s => ∃ dx q, H a = some (.ins (He.ga K "Over") dx [("name", .str n), ("share", .ref q)]) ∧ SqT K H q (Fr.fq s)
  | .under n s => ∃ dx q, H a = some (.ins (He.ga K "Under") dx [("name", .str n), ("share", .ref q)]) ∧ SqT K H q (Fr.fq s)
theorem At.same {K : PySem.W.Frag} {H H' : Hp} (e : Same H H') {a : Addr} : ∀ {c : C}, At K H a c → At K H' a c
  | .claim, ⟨dx, h⟩ => ⟨dx, e _ _ h⟩
  | .beats _ _, ⟨dx, h⟩ => ⟨dx, e _ _ h⟩
  | .over _ _, ⟨dx, q, h, g⟩ => ⟨dx, q, e _ _ h, seqT_same e g⟩
  | .under _ _, ⟨dx, q, h, g⟩ => ⟨dx, q, e _ _ h, seqT_same e g⟩
theorem ins_lst {C dx : Addr} {fs : List (Str × V)} {xs : List V} : HO.ins C dx fs ≠ HO.lst xs := fun z => by cases z
theorem At.but {K : PySem.W.Frag} {H H' : Hp} {l : Addr} {ys : List V} (b : But l H H') (hl : H l = some (.lst ys)) {a : Addr} : ∀ {c : C}, At K H a c → At K H' a c
  | .claim, ⟨dx, h⟩ => ⟨dx, b _ _ (ne_of h hl ins_lst) h⟩
  | .beats _ _, ⟨dx, h⟩ => ⟨dx, b _ _ (ne_of h hl ins_lst) h⟩
  | .over _ _, ⟨dx, q, h, g⟩ => ⟨dx, q, b _ _ (ne_of h hl ins_lst) h, seqT_but b hl g⟩
  | .under _ _, ⟨dx, q, h, g⟩ => ⟨dx, q, b _ _ (ne_of h hl ins_lst) h, seqT_but b hl g⟩
/-- a mark: a text, or None -/
def mv : Option Str → V
  | none => .non
  | some s => .str s
theorem k_eqM {K : PySem.W.Frag} {H : Hp} {Q : VK} {m : Option Str} {s : Str} (q : Q (.bl (decide (m = some s))) H) : rEqU K (mv m) (.str s) H Q := by
  cases m with
  | none => exact k_eqS rfl (by rw [show decide (mv none = .str s) = decide ((none : Option Str) = some s) by simp [mv]]; exact q)
  | some t => exact k_eqT (by rw [show decide (t = s) = decide (some t = some s) by by_cases h : t = s <;> simp [h]]; exact q)
theorem k_neM {K : PySem.W.Frag} {H : Hp} {Q : VK} {m : Option Str} {s : Str} (q : Q (.bl (!decide (m = some s))) H) : rNeU K (mv m) (.str s) H Q := by
  cases m with
  | none => exact k_neS rfl (by rw [show decide (mv none = .str s) = decide ((none : Option Str) = some s) by simp [mv]]; exact q)
  | some t => exact k_neT (by rw [show decide (t = s) = decide (some t = some s) by by_cases h : t = s <;> simp [h]]; exact q)
theorem dec_non (m : Option Str) : decide (mv m = V.non) = decide (m = none) := by
  cases m <;> simp [mv]
theorem fq0 : Fr.fq 0 = [.int 0, .int 1] := rfl
theorem fq1 : Fr.fq 1 = [.int 1, .int 1] := rfl
theorem fqh : Fr.fq (1/2) = [.int 1, .int 2] := by
  have e1 : (1/2 : Rat).num = 1 := by decide +kernel
  have e2 : (1/2 : Rat).den = 2 := by decide +kernel
  show [V.int (1/2 : Rat).num, V.int ((1/2 : Rat).den : Int)] = _
  rw [e1, e2]
  rfl
theorem sz0 {n : Nat} : Fr.Sz (n + 2) 0 := ⟨by show (0 : Int).natAbs < _; exact Nat.two_pow_pos _, by show 1 < 2 ^ (n + 2); have := Nat.two_pow_pos n; rw [Nat.pow_add]; omega⟩
theorem sz1 {n : Nat} : Fr.Sz (n + 2) 1 := ⟨by show 1 < 2 ^ (n + 2); have := Nat.two_pow_pos n; rw [Nat.pow_add]; omega, by show 1 < 2 ^ (n + 2); have := Nat.two_pow_pos n; rw [Nat.pow_add]; omega⟩
theorem szh {n : Nat} : Fr.Sz (n + 2) (1/2) := by
  have e1 : (1/2 : Rat).num = 1 := by decide +kernel
  have e2 : (1/2 : Rat).den = 2 := by decide +kernel
  have := Nat.two_pow_pos n
  refine ⟨?_, ?_⟩
  · rw [e1, Nat.pow_add]; show 1 < _; omega
  · rw [e2, Nat.pow_add]; omega
theorem ne1 {s : Rat} (h : s < 1) : 1 - s ≠ 0 := fun z => by
  have e : s = 1 := by grind
  rw [e] at h
  exact absurd h (by decide)
theorem ne0 {s : Rat} (h : 0 < s) : s ≠ 0 := fun z => by rw [z] at h; exact absurd h (by decide)
theorem sz_greatest {n : Nat} : ∀ {c : C}, Ok n c → Fr.Sz (n + 5) (greatest c)
  | .claim, _ => (szh (n := n)).mono (by omega)
  | .beats _ _, _ => (sz1 (n := n)).mono (by omega)
  | .over _ s, h => (Fr.Sz.div (m := 2) (szh (n := 0)) h.2.2).mono (by omega)
  | .under _ s, h => (Fr.Sz.div (m := 2) (szh (n := 0)) (Fr.Sz.sub (m := 2) (sz1 (n := 0)) h.2.2)).mono (by omega)
theorem sz_valueOf {n : Nat} (c : C) (h : Ok n c) (m : Option Str) : Fr.Sz (n + 5) (valueOf c m) := by
  have g := sz_greatest h
  have a0 : Fr.Sz (n + 5) 0 := (sz0 (n := n)).mono (by omega)
  have a1 : Fr.Sz (n + 5) 1 := (sz1 (n := n)).mono (by omega)
  have ah : Fr.Sz (n + 5) (1/2) := (szh (n := n)).mono (by omega)
  cases c with
  | claim => exact ah
  | beats o t =>
    show Fr.Sz (n + 5) (if m = some o then 1 else if m = some t then 0 else 1/2)
    split
    · exact a1
    · split
      · exact a0
      · exact ah
  | over k s =>
    show Fr.Sz (n + 5) (if m = none ∨ m = some (Str.ofString "") then 1/2 else if m = some k then greatest (.over k s) else 0)
    split
    · exact ah
    · split
      · exact g
      · exact a0
  | under k s =>
    show Fr.Sz (n + 5) (if m = none ∨ m = some (Str.ofString "") then 1/2 else if m = some k then 0 else greatest (.under k s))
    split
    · exact ah
    · split
      · exact a0
      · exact g
theorem sz_value {n : Nat} (c : C) (h : Ok n c) (m : Option Str) : Fr.Sz (n + 5) (value c m) := by
  unfold value
  split
  · exact (sz0 (n := n)).mono (by omega)
  · exact sz_valueOf c h m
/-! shares -/
theorem num_pos {s : Rat} (h : 0 < s) : 0 < s.num := by
  have := (Rat.lt_iff 0 s).mp h
  have e : (0 : Rat).num * (s.den : Int) = 0 := by rw [show (0 : Rat).num = 0 from rfl, Int.zero_mul]
  have e2 : s.num * ((0 : Rat).den : Int) = s.num := by rw [show (0 : Rat).den = 1 from rfl]; omega
  rw [e, e2] at this
  exact this
theorem num_lt {s : Rat} (h : s < 1) : s.num < (s.den : Int) := by
  have := (Rat.lt_iff s 1).mp h
  have e : s.num * ((1 : Rat).den : Int) = s.num := by rw [show (1 : Rat).den = 1 from rfl]; omega
  have e2 : (1 : Rat).num * (s.den : Int) = (s.den : Int) := by rw [show (1 : Rat).num = 1 from rfl]; omega
  rw [e, e2] at this
  exact this
theorem share_pos {a b : Int} (ha : 1 ≤ a) (hb : a < b) : 0 < Rat.divInt a b ∧ Rat.divInt a b < 1 := by
  constructor
  · have e : Rat.divInt a b = (a : Rat) / (b : Rat) := Rat.divInt_eq_div a b
    rw [e, Rat.lt_div_iff (by exact_mod_cast (show (0 : Int) < b by omega)), Rat.zero_mul]
    exact_mod_cast (show (0 : Int) < a by omega)
  · have e : Rat.divInt a b = (a : Rat) / (b : Rat) := Rat.divInt_eq_div a b
    rw [e, Rat.div_lt_iff (by exact_mod_cast (show (0 : Int) < b by omega)), Rat.one_mul]
    exact_mod_cast hb
theorem half_num : (1/2 : Rat).num = 1 := by decide +kernel
theorem half_den : (1/2 : Rat).den = 2 := by decide +kernel
theorem half_over (s : Rat) : Rat.divInt (s.den : Int) (2 * s.num) = (1/2) / s := by
  rw [← Fr.div_eq, half_num, half_den, Int.one_mul]
  rfl
theorem one_sub (s : Rat) : Rat.divInt ((s.den : Int) - s.num) (s.den : Int) = 1 - s := by
  rw [← Fr.sub_eq]
  show _ = Rat.divInt (1 * (s.den : Int) - s.num * 1) (1 * (s.den : Int))
  rw [Int.one_mul, Int.mul_one]
theorem half_under (s : Rat) : Rat.divInt (s.den : Int) (2 * ((s.den : Int) - s.num)) = (1/2) / (1 - s) := by
  rw [← one_sub s]
  have e : (1/2 : Rat) = Rat.divInt 1 2 := by decide +kernel
  rw [e, Rat.div_def, Rat.inv_divInt, Rat.divInt_mul_divInt, Int.one_mul]
/-! marks among names -/
theorem flat_mv (m : Option Str) : flatV (mv m) = true := by cases m <;> rfl
theorem flat_strs (ns : List Str) : (ns.map V.str).all flatV = true := by simp [flatV]
theorem in_mv (m : Option Str) : ∀ ns : List Str, inV (mv m) (ns.map V.str) = decide (∃ n ∈ ns, m = some n) := fun ns => by
  unfold inV
  induction ns with
  | nil => simp
  | cons a r ih =>
    rw [List.map_cons, List.any_cons, ih]
    cases m with
    | none => simp [mv, eqV]
    | some t =>
      have e : eqV (V.str a) (mv (some t)) = decide (a = t) := by
        show (a == t) = _
        by_cases h : a = t
        · simp [h]
        · rw [decide_eq_false h, beq_eq_false_iff_ne.mpr h]
      rw [e]
      by_cases h : a = t
      · simp [h]
      · have h2 : ¬ t = a := fun z => h z.symm
        simp [h, h2]
/-! a claim's method, whatever its class -/
def pick {α : Type} (c : C) (a b d e : α) : α := match c with
  | .claim => a
  | .beats _ _ => b
  | .over _ _ => d
  | .under _ _ => e
theorem pick_same {α : Type} (c : C) (a : α) : pick c a a a a = a := by cases c <;> rfl
theorem k_m4 {K : PySem.W.Frag} {σ : L2.St} {H : Hp} {Q : VK} {ta : TE} {t : TA} {m : Str} {sp1 sp2 sp3 sp4 : Sp} {E : L2.St → XK} {a : Addr} {c : C} (hev : ∀ Q : VK, Q (.ref a) H → ta σ H Q) (hc : At K H a c) (q : t σ H fun vs H2 => (pick c sp1 sp2 sp3 sp4) (.ref a :: vs) H2 Q (E σ))
    (h1 : (m == (Str.ofString "one")) = false := by decide +kernel) (h2 : (m == (Str.ofString "other")) = false := by decide +kernel) (h3 : (m == (Str.ofString "name")) = false := by decide +kernel) (h4 : (m == (Str.ofString "share")) = false := by decide +kernel) :
    tOr2 (tMethS (He.ga K "Claim") m sp1 E ta t) (tOr2 (tMethS (He.ga K "Beats") m sp2 E ta t) (tOr2 (tMethS (He.ga K "Over") m sp3 E ta t) (tMethS (He.ga K "Under") m sp4 E ta t))) σ H Q := by
  cases c with
  | claim =>
    obtain ⟨dx, hi⟩ := hc
    exact k_o1 (k_meth (hev _ (k_methx hi lk0 q)))
  | beats o u =>
    obtain ⟨dx, hi⟩ := hc
    exact k_o2 (k_o1 (k_meth (hev _ (k_methx hi (lkz h1 (lkz h2 lk0)) q))))
  | over n s =>
    obtain ⟨dx, p, hi, _⟩ := hc
    exact k_o2 (k_o2 (k_o1 (k_meth (hev _ (k_methx hi (lkz h3 (lkz h4 lk0)) q)))))
  | under n s =>
    obtain ⟨dx, p, hi, _⟩ := hc
    exact k_o2 (k_o2 (k_o2 (k_meth (hev _ (k_methx hi (lkz h3 (lkz h4 lk0)) q)))))
end Cm
namespace Cm
open PySem PySem.Spec PyProof.Rows L2 Gx
/-- a claim as the law tells it: a tuple -/
def Ct (K : PySem.W.Frag) (H : Hp) (p : Addr) : C → Prop
  | .claim => False
  | .beats o t => SqT K H p [.str (Str.ofString "beats"), .str o, .str t]
  | .over n s => ∃ q, SqT K H p [.str (Str.ofString "over"), .str n, .ref q] ∧ SqT K H q (Fr.fq s)
  | .under n s => ∃ q, SqT K H p [.str (Str.ofString "under"), .str n, .ref q] ∧ SqT K H q (Fr.fq s)
theorem Ct.same {K : PySem.W.Frag} {H H' : Hp} (e : Same H H') {p : Addr} : ∀ {c : C}, Ct K H p c → Ct K H' p c
  | .beats _ _, h => seqT_same e h
  | .over _ _, ⟨q, h, g⟩ => ⟨q, seqT_same e h, seqT_same e g⟩
  | .under _ _, ⟨q, h, g⟩ => ⟨q, seqT_same e h, seqT_same e g⟩
theorem Ct.but {K : PySem.W.Frag} {H H' : Hp} {l : Addr} {ys : List V} (b : But l H H') (hl : H l = some (.lst ys)) {p : Addr} : ∀ {c : C}, Ct K H p c → Ct K H' p c
  | .beats _ _, h => seqT_but b hl h
  | .over _ _, ⟨q, h, g⟩ => ⟨q, seqT_but b hl h, seqT_but b hl g⟩
  | .under _ _, ⟨q, h, g⟩ => ⟨q, seqT_but b hl h, seqT_but b hl g⟩
/-- of two names that are unlike -/
def Un : C → Prop
  | .beats o t => o ≠ t
  | _ => True
/-- of these names -/
def Of (ns : List Str) : C → Prop
  | .claim => True
  | .beats o t => o ∈ ns ∧ t ∈ ns
  | .over n _ => n ∈ ns
  | .under n _ => n ∈ ns
def kindOf : C → Str
  | .claim => Str.ofString ""
  | .beats _ _ => Str.ofString "beats"
  | .over _ _ => Str.ofString "over"
  | .under _ _ => Str.ofString "under"
/-- the kind stands ahead, a name behind it -/
theorem Ct.at0 {K : PySem.W.Frag} {H : Hp} {p : Addr} : ∀ {c : C}, Ct K H p c → ∃ xs, SqT K H p xs ∧ atI xs 0 = some (.str (kindOf c))
  | .beats _ _, h => ⟨_, h, rfl⟩
  | .over _ _, ⟨q, h, g⟩ => ⟨_, h, rfl⟩
  | .under _ _, ⟨q, h, g⟩ => ⟨_, h, rfl⟩
theorem d_bo : decide (Str.ofString "beats" = Str.ofString "over") = false := by decide +kernel
theorem d_ob : decide (Str.ofString "over" = Str.ofString "beats") = false := by decide +kernel
theorem d_ub : decide (Str.ofString "under" = Str.ofString "beats") = false := by decide +kernel
theorem d_uo : decide (Str.ofString "under" = Str.ofString "over") = false := by decide +kernel
theorem d_bb : decide (Str.ofString "beats" = Str.ofString "beats") = true := by decide +kernel
theorem d_oo : decide (Str.ofString "over" = Str.ofString "over") = true := by decide +kernel
theorem cval_over (n : Str) (s : Rat) (m : Option Str) (h : ¬ (m = none ∨ m = some (Str.ofString ""))) : valueOf (.over n s) m = if m = some n then (1/2) / s else 0 := if_neg h
theorem cval_under (n : Str) (s : Rat) (m : Option Str) (h : ¬ (m = none ∨ m = some (Str.ofString ""))) : valueOf (.under n s) m = if m = some n then 0 else (1/2) / (1 - s) := if_neg h
/-- another place, further on -/
theorem other_place {f r : Int} {n : Nat} (hf : 0 ≤ f ∧ f < n) (hr : 0 ≤ r ∧ r < (n : Int) - 1) : 0 ≤ (f + 1 + r) % (n : Int) ∧ (f + 1 + r) % (n : Int) < n ∧ (f + 1 + r) % (n : Int) ≠ f := by
  have h0 := Int.emod_nonneg (f + 1 + r) (show (n : Int) ≠ 0 by omega)
  have h1 := Int.emod_lt_of_pos (f + 1 + r) (show (0 : Int) < n by omega)
  refine ⟨h0, h1, fun e => ?_⟩
  by_cases c : f + 1 + r < n
  · rw [Int.emod_eq_of_lt (by omega) c] at e; omega
  · have e2 : (f + 1 + r) % (n : Int) = f + 1 + r - n := by
      rw [← Int.sub_emod_right, Int.emod_eq_of_lt (by omega) (by omega)]
    omega
theorem two_apart {ns : List Str} (nd : ns.Nodup) {i j : Int} {a b : Str} (h : i ≠ j) (h0 : 0 ≤ i) (h1 : 0 ≤ j) (ha : atI (ns.map V.str) i = some (.str a)) (hb : atI (ns.map V.str) j = some (.str b)) : a ≠ b := fun e => by
  obtain ⟨x, rfl⟩ := Int.eq_ofNat_of_zero_le h0
  obtain ⟨y, rfl⟩ := Int.eq_ofNat_of_zero_le h1
  subst e
  have g : ∀ {k : Nat}, atI (ns.map V.str) (k : Int) = some (.str a) → ns[k]? = some a := fun {k} hk => by
    by_cases c : k < ns.length
    · rw [atI_nat (by rw [List.getElem?_map, List.getElem?_eq_getElem c]; rfl)] at hk
      rw [List.getElem?_eq_getElem c]
      exact congrArg some (V.str.inj (Option.some.inj hk))
    · exfalso
      unfold atI ixN at hk
      simp at hk
      rw [if_neg (by omega)] at hk
      simp at hk
  have g1 := g ha
  have g2 := g hb
  have := (List.getElem?_inj (List.getElem?_eq_some_iff.mp g1).1 nd).mp (g1.trans g2.symm)
  omega
end Cm
namespace Sr
open PySem PySem.Spec PyProof.Rows L2 Gx
/-- a source of numbers: how many were drawn, then the cells -/
def Src (cs : List Int) : Prop := ∃ k r, cs = k :: r ∧ 0 ≤ k ∧ r ≠ [] ∧ r.length ≤ 62
theorem cut1 {xs : List V} : cutV xs (some 1) (some 63) = (xs.drop 1).take 62 := by
  unfold cutV
  rw [show (some (1 : Int)) = some ((1 : Nat) : Int) from rfl, show (some (63 : Int)) = some ((63 : Nat) : Int) from rfl, HT.sIx_nat, HT.sIx_nat]
  by_cases c : 63 ≤ xs.length
  · rw [show min 1 xs.length = 1 by omega, show min 63 xs.length = 63 by omega]
  · by_cases c1 : 1 ≤ xs.length
    · rw [show min 1 xs.length = 1 by omega, show min 63 xs.length = xs.length by omega, List.take_of_length_le (by simp), List.take_of_length_le (by simp; omega)]
    · rw [show xs = [] from List.length_eq_zero_iff.mp (by omega)]
      rfl
theorem cut63 {xs : List V} : cutV xs none (some 63) = xs.take 63 := by
  unfold cutV
  rw [show (some (63 : Int)) = some ((63 : Nat) : Int) from rfl, HT.sIx_nat, HT.sIx_none, List.drop_zero, Nat.sub_zero]
  by_cases c : 63 ≤ xs.length
  · rw [Nat.min_eq_left c]
  · rw [Nat.min_eq_right (by omega), List.take_of_length_le (by omega), List.take_of_length_le (by omega)]
end Sr
namespace Cm
open PySem PySem.Spec PyProof.Rows L2 Gx Lw
theorem Fqs.but {K : PySem.W.Frag} {H H' : Hp} {l : Addr} {ys : List V} (b : But l H H') (hl : H l = some (.lst ys)) : ∀ {vs : List V} {qs : List Rat}, Fqs K H vs qs → Fqs K H' vs qs
  | _, _, .nil => .nil
  | _, _, .cons ⟨p, h1, h2⟩ r => .cons ⟨p, h1, seqT_but b hl h2⟩ (Fqs.but b hl r)
/-- whether a claim holds of marks -/
def holds (c : C) (ms : List (Option Str)) : Prop := (ms.length : Rat) / 2 < Lw.sum (ms.map (value c))
instance (c : C) (ms : List (Option Str)) : Decidable (holds c ms) := inferInstanceAs (Decidable ((ms.length : Rat) / 2 < Lw.sum (ms.map (value c))))
theorem sizes {n : Nat} (c : C) (h : Ok n c) : ∀ ms : List (Option Str), Paired (fun q k => Fr.Sz k q) (ms.map (value c)) (ms.map fun _ => n + 5)
  | [] => .nil
  | m :: r => .cons (sz_value c h m) (sizes c h r)
theorem szs_rep {α : Type} (n : Nat) : ∀ ms : List α, Lw.szs (ms.map fun _ => n + 5) = ms.length * (n + 6) + 1 := fun ms => by
  have h : ∀ (l : List α) (b : Nat), (l.map fun _ => n + 5).foldl (fun a n => a + n + 1) b = b + l.length * (n + 6) := fun l => by
    induction l with
    | nil => intro b; simp
    | cons x r ih =>
      intro b
      rw [List.map_cons, List.foldl_cons, ih, List.length_cons, Nat.succ_mul]
      omega
  unfold Lw.szs
  rw [h]
  omega
theorem half_of (n : Nat) : Rat.divInt (n : Int) 2 = (n : Rat) / 2 := by
  rw [Rat.divInt_eq_div]
  rfl
end Cm
namespace Lw
open PySem PySem.Spec PyProof.Rows L2 Gx
theorem Fqs.but {K : PySem.W.Frag} {H H' : Hp} {l : Addr} {ys : List V} (b : But l H H') (hl : H l = some (.lst ys)) {vs : List V} {qs : List Rat} (a : Fqs K H vs qs) : Fqs K H' vs qs := Cm.Fqs.but b hl a
end Lw
namespace Cm
open PySem PySem.Spec PyProof.Rows L2 Gx
/-- what a dealt mark may be -/
def Mk (ns : List Str) (b : Bool) (m : Option Str) : Prop := (∃ n ∈ ns, m = some n) ∨ m = some (Str.ofString "") ∨ m = none ∨ (b = true ∧ m = some (Str.ofString "?"))
theorem strs_mv (ns : List Str) : ns.map V.str = (ns.map some).map mv := by rw [List.map_map]; rfl
theorem mk_names {ns : List Str} {b : Bool} : ∀ m ∈ ns.map some, Mk ns b m := fun m hm => by
  obtain ⟨n, hn, rfl⟩ := List.mem_map.mp hm
  exact .inl ⟨n, hn, rfl⟩
theorem all_app {α : Type} {P : α → Prop} {a b : List α} (h : ∀ x ∈ a, P x) (g : ∀ x ∈ b, P x) : ∀ x ∈ a ++ b, P x := fun x hx => (List.mem_append.mp hx).elim (h x) (g x)
theorem all_take {α : Type} {P : α → Prop} {a : List α} {n : Nat} (h : ∀ x ∈ a, P x) : ∀ x ∈ a.take n, P x := fun x hx => h x (List.mem_of_mem_take hx)
theorem all_drop {α : Type} {P : α → Prop} {a : List α} {n : Nat} (h : ∀ x ∈ a, P x) : ∀ x ∈ a.drop n, P x := fun x hx => h x (List.mem_of_mem_drop hx)
theorem get_map {α : Type} {f : α → V} {xs : List α} {j : Nat} {x : V} (h : (xs.map f)[j]? = some x) : ∃ a, xs[j]? = some a ∧ x = f a := by
  rw [List.getElem?_map] at h
  cases e : xs[j]? with
  | none => rw [e] at h; cases h
  | some m => rw [e] at h; exact ⟨m, rfl, (Option.some.inj h).symm⟩
theorem at_map {α : Type} {f : α → V} {xs : List α} {i : Int} (h0 : 0 ≤ i) (h1 : i < xs.length) : ∃ a, a ∈ xs ∧ atI (xs.map f) i = some (f a) := by
  obtain ⟨n, rfl⟩ := Int.eq_ofNat_of_zero_le h0
  exact ⟨xs[n]'(by omega), List.getElem_mem _, atI_nat (by rw [List.getElem?_map, List.getElem?_eq_getElem (by omega)]; rfl)⟩
end Cm
namespace Cm
open PySem PySem.Spec PyProof.Rows L2 Gx
/-! more about values -/
theorem half_nn : (0 : Rat) ≤ 1/2 := by decide +kernel
theorem one_nn : (0 : Rat) ≤ 1 := by decide +kernel
theorem half_le {s : Rat} (h0 : 0 < s) (h1 : s < 1) : (1/2 : Rat) ≤ (1/2) / s := by
  refine Rat.not_lt.mp fun z => ?_
  rw [Rat.div_lt_iff h0] at z
  have := Rat.mul_le_mul_of_nonneg_left (Rat.le_of_lt h1) half_nn
  rw [Rat.mul_one] at this
  exact absurd (Std.lt_of_lt_of_le z this) (Rat.lt_irrefl)
theorem sub_pos {s : Rat} (h1 : s < 1) : 0 < 1 - s ∧ (0 < s → 1 - s < 1) := by
  constructor
  · grind
  · intro h; grind
theorem val_nn {n : Nat} (c : C) (h : Ok n c) (m : Option Str) : 0 ≤ value c m ∧ value c m ≤ greatest c := by
  have g : 0 ≤ greatest c ∧ (1/2 : Rat) ≤ greatest c := by
    cases c with
    | claim => exact ⟨half_nn, Rat.le_refl⟩
    | beats o t => exact ⟨one_nn, show (1/2 : Rat) ≤ 1 by decide +kernel⟩
    | over k s => have := half_le h.1 h.2.1; exact ⟨Rat.le_trans half_nn this, this⟩
    | under k s =>
      obtain ⟨p1, p2⟩ := sub_pos h.2.1
      have := half_le p1 (p2 h.1)
      exact ⟨Rat.le_trans half_nn this, this⟩
  have z : (0 : Rat) ≤ 0 ∧ (0 : Rat) ≤ greatest c := ⟨Rat.le_refl, g.1⟩
  unfold value
  split
  · exact z
  · cases c with
    | claim => exact ⟨half_nn, g.2⟩
    | beats o t =>
      show 0 ≤ (if m = some o then 1 else if m = some t then 0 else 1/2) ∧ (if m = some o then 1 else if m = some t then 0 else 1/2) ≤ _
      split
      · exact ⟨one_nn, Rat.le_refl⟩
      · split
        · exact z
        · exact ⟨half_nn, g.2⟩
    | over k s =>
      show 0 ≤ (if m = none ∨ m = some (Str.ofString "") then 1/2 else if m = some k then greatest (.over k s) else 0) ∧ (if m = none ∨ m = some (Str.ofString "") then 1/2 else if m = some k then greatest (.over k s) else 0) ≤ _
      split
      · exact ⟨half_nn, g.2⟩
      · split
        · exact ⟨g.1, Rat.le_refl⟩
        · exact z
    | under k s =>
      show 0 ≤ (if m = none ∨ m = some (Str.ofString "") then 1/2 else if m = some k then 0 else greatest (.under k s)) ∧ (if m = none ∨ m = some (Str.ofString "") then 1/2 else if m = some k then 0 else greatest (.under k s)) ≤ _
      split
      · exact ⟨half_nn, g.2⟩
      · split
        · exact z
        · exact ⟨g.1, Rat.le_refl⟩
theorem value_q (c : C) : value c (some (Str.ofString "?")) = 0 := if_pos rfl
theorem sum_add : ∀ (qs : List Rat) (a : Rat), qs.foldl (· + ·) a = a + qs.foldl (· + ·) 0
  | [], a => by simp [Rat.add_zero]
  | q :: r, a => by
    rw [List.foldl_cons, List.foldl_cons, sum_add r (a + q), sum_add r (0 + q)]
    grind
theorem sum_cons (q : Rat) (r : List Rat) : Lw.sum (q :: r) = q + Lw.sum r := by
  unfold Lw.sum
  rw [List.foldl_cons, sum_add, Rat.zero_add]
/-- each mark either the same, or one said in place of one that lacks -/
def Said (m m' : Option Str) : Prop := m' = m ∨ m = some (Str.ofString "?")
theorem sum_said {n : Nat} (c : C) (h : Ok n c) : ∀ {ms ms' : List (Option Str)}, PySem.Paired Said ms ms' → Lw.sum (ms.map (value c)) ≤ Lw.sum (ms'.map (value c))
  | _, _, .nil => Rat.le_refl
  | _, _, .cons (a := a) (b := b) p r => by
    rw [List.map_cons, List.map_cons, sum_cons, sum_cons]
    have i := sum_said c h r
    have q : value c a ≤ value c b := by
      rcases p with e | e
      · rw [e]; exact Rat.le_refl
      · rw [e, value_q]; exact (val_nn c h b).1
    grind
theorem holds_said {n : Nat} (c : C) (h : Ok n c) {ms ms' : List (Option Str)} (p : PySem.Paired Said ms ms') (g : holds c ms) : holds c ms' := by
  have e := PySem.Paired.length p
  unfold holds at *
  rw [← e]
  exact Std.lt_of_lt_of_le g (sum_said c h p)
theorem holds_more {c : C} {ms : List (Option Str)} (g : holds c (ms ++ [some (Str.ofString "?")])) : holds c ms := by
  unfold holds at *
  rw [List.map_append, List.length_append] at g
  have e : Lw.sum (ms.map (value c) ++ [value c (some (Str.ofString "?"))]) = Lw.sum (ms.map (value c)) := by
    rw [Lw.sum_snoc, value_q, Rat.add_zero]
  rw [show [some (Str.ofString "?")].map (value c) = [value c (some (Str.ofString "?"))] from rfl, e] at g
  have l : ((ms.length : Rat)) / 2 ≤ ((ms.length + [some (Str.ofString "?")].length : Nat) : Rat) / 2 := by
    show ((ms.length : Rat)) / 2 ≤ ((ms.length + 1 : Nat) : Rat) / 2
    have : ((ms.length + 1 : Nat) : Rat) = (ms.length : Rat) + 1 := by exact_mod_cast rfl
    rw [this]
    grind
  exact Std.lt_of_le_of_lt l g
theorem paired_snoc {α β : Type} {F : α → β → Prop} : ∀ {as : List α} {bs : List β} {a : α} {b : β}, PySem.Paired F as bs → F a b → PySem.Paired F (as ++ [a]) (bs ++ [b])
  | _, _, _, _, .nil, h => .cons h .nil
  | _, _, _, _, .cons x r, h => .cons x (paired_snoc r h)
end Cm
namespace Wy
open PySem PySem.Spec PyProof.Rows L2 Gx
theorem fqn (n : Nat) : Fr.fq (n : Rat) = [.int (n : Int), .int 1] := rfl
theorem fq2 : Fr.fq 2 = [.int 2, .int 1] := rfl
theorem szn {n k : Nat} (h : n < 2 ^ k) (hk : 1 ≤ k) : Fr.Sz k (n : Rat) := ⟨by show ((n : Rat).num).natAbs < _; rw [show (n : Rat).num = (n : Int) from rfl]; omega, by show (1 : Nat) < 2 ^ k; exact Nat.one_lt_two_pow (by omega)⟩
theorem sz2 : Fr.Sz 3 2 := ⟨by decide, by decide⟩
theorem n_ne {n : Nat} (h : 1 ≤ n) : (n : Rat) ≠ 0 := fun e => by
  have : (n : Rat) = ((0 : Nat) : Rat) := e
  have := Rat.natCast_inj.mp this
  omega
/-- the mean of a record's values, and what a value is divided by -/
def mean (c : Cm.C) (ms : List (Option Str)) : Rat := Lw.sum (ms.map (Cm.value c)) / (ms.length : Rat)
def scale (c : Cm.C) (ms : List (Option Str)) : Rat := 2 - (2 * mean c ms - 1) / Cm.greatest c
theorem half_le_g {n : Nat} {c : Cm.C} (h : Cm.Ok n c) : (1/2 : Rat) ≤ Cm.greatest c := by
  cases c with
  | claim => exact Rat.le_refl
  | beats o t => exact show (1/2 : Rat) ≤ 1 by decide +kernel
  | over k s => exact Cm.half_le h.1 h.2.1
  | under k s =>
    obtain ⟨p1, p2⟩ := Cm.sub_pos h.2.1
    exact Cm.half_le p1 (p2 h.1)
theorem g_pos {n : Nat} {c : Cm.C} (h : Cm.Ok n c) : 0 < Cm.greatest c := Std.lt_of_lt_of_le (show (0 : Rat) < 1/2 by decide +kernel) (half_le_g h)
theorem g_ne {n : Nat} {c : Cm.C} (h : Cm.Ok n c) : Cm.greatest c ≠ 0 := fun e => by have := g_pos h; rw [e] at this; exact absurd this Rat.lt_irrefl
theorem fqs_butI {K : PySem.W.Frag} {H H' : Hp} {l C dx : Addr} {fs : List (Str × V)} (e : But l H H') (hl : H l = some (.ins C dx fs)) : ∀ {vs : List V} {qs : List Rat}, Lw.Fqs K H vs qs → Lw.Fqs K H' vs qs
  | _, _, .nil => .nil
  | _, _, .cons ⟨p, h1, h2⟩ r => .cons ⟨p, h1, seqT_butI e hl h2⟩ (fqs_butI e hl r)
end Wy
namespace Wy
open PySem PySem.Spec PyProof.Rows L2 Gx
theorem num_den (s : Rat) : s * (s.den : Rat) = (s.num : Rat) := by
  have e : s = (s.num : Rat) / (s.den : Rat) := by
    have h := Rat.num_divInt_den s
    rw [Rat.divInt_eq_div] at h
    exact h.symm
  have hd : (s.den : Rat) ≠ 0 := fun z => by
    have z2 : (s.den : Rat) = ((0 : Nat) : Rat) := z
    exact s.den_nz (by exact_mod_cast z2)
  calc s * (s.den : Rat) = (s.num : Rat) / (s.den : Rat) * (s.den : Rat) := by rw [← e]
    _ = (s.num : Rat) := Rat.div_mul_cancel hd
theorem den_pos (s : Rat) : (0 : Rat) < (s.den : Rat) := by exact_mod_cast Nat.pos_of_ne_zero s.den_nz
theorem int_lt {a b : Int} : ((a : Rat) < (b : Rat)) ↔ a < b := by exact_mod_cast Iff.rfl
theorem half_lt {n : Nat} {q : Rat} : (n : Rat) / 2 < q ↔ (n : Int) * (q.den : Int) < 2 * q.num := by
  have e1 : (n : Rat) * (q.den : Rat) = (((n : Int) * (q.den : Int) : Int) : Rat) := by rw [Rat.intCast_mul]; rfl
  have e2 : 2 * q * (q.den : Rat) = ((2 * q.num : Int) : Rat) := by rw [Rat.mul_assoc, num_den, Rat.intCast_mul]; rfl
  rw [← int_lt, ← e1, ← e2, Rat.mul_lt_mul_right (den_pos q)]
  constructor
  · intro h; grind
  · intro h; grind
theorem dp_bls {K : PySem.W.Frag} {H : Hp} : ∀ bs : List Bool, DpAll K H (bs.map V.bl) (bs.map PyData.bool)
  | [] => .nil
  | b :: r => .cons (.bl b) (dp_bls r)
theorem sum_snoc {c : Cm.C} {ms : List (Option Str)} {i : Nat} {m : Option Str} (h : ms[i]? = some m) : Lw.sum ((ms.take (i + 1)).map (Cm.value c)) = Lw.sum ((ms.take i).map (Cm.value c)) + Cm.value c m := by
  rw [Lw.take_snoc h, List.map_append]
  exact Lw.sum_snoc _ _
end Wy
namespace Wy
open PySem PySem.Spec PyProof.Rows L2 Gx
/-- a whole number less a fraction: lowest already -/
theorem sub_parts (k : Int) (x : Rat) : ((k : Rat) - x).num = k * (x.den : Int) - x.num ∧ (((k : Rat) - x).den : Int) = (x.den : Int) := by
  have e : (k : Rat) - x = Rat.divInt (k * (x.den : Int) - x.num) (x.den : Int) := by
    rw [← Fr.sub_eq (k : Rat) x]
    show Rat.divInt (k * (x.den : Int) - x.num * 1) (1 * (x.den : Int)) = _
    rw [Int.mul_one, Int.one_mul]
  have hd := Fr.den_pos x
  have g : Int.gcd (x.den : Int) (k * (x.den : Int) - x.num) = 1 := by
    have h1 : Int.gcd (x.den : Int) (x.num - (x.den : Int) * k) = Int.gcd (x.den : Int) x.num := by rw [Int.gcd_sub_mul_left_right]
    have h2 : k * (x.den : Int) - x.num = -(x.num - (x.den : Int) * k) := by rw [Int.mul_comm]; omega
    rw [h2, Int.gcd_neg, h1, Int.gcd_comm]
    exact x.reduced
  have ed : Rat.den (Rat.divInt (k * (x.den : Int) - x.num) (x.den : Int)) = x.den := by
    rw [Rat.den_divInt, if_neg (by omega), g]
    simp
  refine ⟨?_, by rw [e, ed]⟩
  rw [e, Rat.num_divInt, g, Int.sign_eq_one_of_pos hd]
  simp
theorem fq_sub (k : Int) (x : Rat) : Fr.fq ((k : Rat) - x) = [.int (k * (x.den : Int) - x.num), .int (x.den : Int)] := by
  obtain ⟨h1, h2⟩ := sub_parts k x
  show [V.int _, V.int _] = _
  rw [h1, h2]
theorem sum_le {n : Nat} {c : Cm.C} (h : Cm.Ok n c) : ∀ ms : List (Option Str), Lw.sum (ms.map (Cm.value c)) ≤ (ms.length : Rat) * Cm.greatest c
  | [] => by
    show (0 : Rat) ≤ ((0 : Nat) : Rat) * _
    rw [show ((0 : Nat) : Rat) = 0 from rfl, Rat.zero_mul]
    exact Rat.le_refl
  | m :: r => by
    have ih := sum_le h r
    have v := (Cm.val_nn c h m).2
    rw [List.map_cons, Cm.sum_cons, List.length_cons]
    have e : ((r.length + 1 : Nat) : Rat) = (r.length : Rat) + 1 := by exact_mod_cast rfl
    rw [e]
    grind
theorem n_pos {n : Nat} (h : 1 ≤ n) : (0 : Rat) < (n : Rat) := by exact_mod_cast h
theorem mean_le {n : Nat} {c : Cm.C} (h : Cm.Ok n c) {ms : List (Option Str)} (l : 1 ≤ ms.length) : mean c ms ≤ Cm.greatest c := by
  unfold mean
  refine Rat.not_lt.mp fun z => ?_
  rw [Rat.lt_div_iff (n_pos l)] at z
  have := sum_le h ms
  rw [Rat.mul_comm] at this
  exact absurd (Std.lt_of_lt_of_le z this) Rat.lt_irrefl
theorem scale_pos {n : Nat} {c : Cm.C} (h : Cm.Ok n c) {ms : List (Option Str)} (l : 1 ≤ ms.length) : 0 < scale c ms := by
  have g := g_pos h
  have m := mean_le h l
  have z : (2 * mean c ms - 1) / Cm.greatest c < 2 := by
    rw [Rat.div_lt_iff g]
    grind
  unfold scale
  grind
theorem scale_ne {n : Nat} {c : Cm.C} (h : Cm.Ok n c) {ms : List (Option Str)} (l : 1 ≤ ms.length) : scale c ms ≠ 0 := fun e => by
  have := scale_pos h l
  rw [e] at this
  exact absurd this Rat.lt_irrefl
/-- a ballot's value, compared with its record -/
def cmp (c : Cm.C) (ms : List (Option Str)) (t m : Option Str) : Rat := (1 - (Cm.value c t - Cm.value c m) / Cm.greatest c) / scale c ms
theorem two_cast : ((2 : Int) : Rat) = 2 := rfl
theorem one_cast : ((1 : Int) : Rat) = 1 := rfl
theorem same_cmp (c : Cm.C) (ms : List (Option Str)) (t : Option Str) : cmp c ms t t = 1 / scale c ms := by
  unfold cmp
  rw [show Cm.value c t - Cm.value c t = 0 by grind, Rat.div_def 0, Rat.zero_mul]
  rw [show (1 : Rat) - 0 = 1 by decide +kernel]
/-- twice the mean, less 1 -/
theorem margin_eq (c : Cm.C) {ms : List (Option Str)} (l : 1 ≤ ms.length) : Rat.divInt (2 * (Lw.sum (ms.map (Cm.value c))).num - (ms.length : Int) * ((Lw.sum (ms.map (Cm.value c))).den : Int)) ((ms.length : Int) * ((Lw.sum (ms.map (Cm.value c))).den : Int)) = 2 * mean c ms - 1 := by
  unfold mean
  generalize Lw.sum (ms.map (Cm.value c)) = q
  have hn := n_ne l
  have hd : (q.den : Rat) ≠ 0 := fun z => by have := den_pos q; rw [z] at this; exact absurd this Rat.lt_irrefl
  rw [Rat.divInt_eq_div]
  have e1 : ((2 * q.num - (ms.length : Int) * (q.den : Int) : Int) : Rat) = 2 * (q * (q.den : Rat)) - (ms.length : Rat) * (q.den : Rat) := by
    rw [num_den, Rat.intCast_sub, Rat.intCast_mul, Rat.intCast_mul]; rfl
  have e2 : (((ms.length : Int) * (q.den : Int) : Int) : Rat) = (ms.length : Rat) * (q.den : Rat) := by rw [Rat.intCast_mul]; rfl
  rw [e1, e2]
  have hnd : (ms.length : Rat) * (q.den : Rat) ≠ 0 := fun z => by
    rcases Rat.mul_eq_zero.mp z with h | h
    · exact hn h
    · exact hd h
  have e3 : q / (ms.length : Rat) * (ms.length : Rat) = q := Rat.div_mul_cancel hn
  have e4 : 2 * (q * (q.den : Rat)) - (ms.length : Rat) * (q.den : Rat) = (2 * (q / (ms.length : Rat)) - 1) * ((ms.length : Rat) * (q.den : Rat)) := by grind
  rw [e4, Rat.mul_div_cancel hnd]
end Wy
namespace Wy
open PySem PySem.Spec PyProof.Rows L2 Gx
theorem half_less {s : Rat} (h0 : 0 < s) (h1 : s < 1) : (1/2 : Rat) < (1/2) / s := by
  rw [Rat.lt_div_iff h0]
  grind
theorem sum_all {c : Cm.C} {g : Option Str} : ∀ {ms : List (Option Str)}, (∀ m ∈ ms, m = g) → Lw.sum (ms.map (Cm.value c)) = (ms.length : Rat) * Cm.value c g
  | [], _ => by
    show (0 : Rat) = ((0 : Nat) : Rat) * _
    rw [show ((0 : Nat) : Rat) = 0 from rfl, Rat.zero_mul]
  | m :: r, h => by
    rw [List.map_cons, Cm.sum_cons, sum_all fun x hx => h x (List.mem_cons_of_mem _ hx), h m (List.mem_cons_self ..), List.length_cons]
    have e : ((r.length + 1 : Nat) : Rat) = (r.length : Rat) + 1 := by exact_mod_cast rfl
    rw [e]
    grind
theorem holds_all {c : Cm.C} {g : Option Str} (h : 1/2 < Cm.value c g) {ms : List (Option Str)} (l : 1 ≤ ms.length) (a : ∀ m ∈ ms, m = g) : Cm.holds c ms := by
  unfold Cm.holds
  rw [sum_all a]
  have p := n_pos l
  have := Rat.mul_lt_mul_of_pos_left h p
  rw [Rat.div_def, show (2 : Rat)⁻¹ = 1/2 by decide +kernel]
  exact this
theorem nm_q {n : Str} (h : Pl.Nm n) : n ≠ Str.ofString "?" := fun e => by
  rw [e] at h
  have := h.2.2 63 (by decide +kernel)
  omega
theorem nm_e {n : Str} (h : Pl.Nm n) : n ≠ Str.ofString "" := fun e => by
  rw [e] at h
  have : (Str.ofString "").cps.size = 0 := by decide +kernel
  have := h.1
  omega
theorem val_name {c : Cm.C} {g : Str} (h : Pl.Nm g) : Cm.value c (some g) = Cm.valueOf c (some g) := if_neg fun e => nm_q h (Option.some.inj e)
theorem good_beats {o t : Str} (h : Pl.Nm o) : 1/2 < Cm.value (.beats o t) (some o) := by
  rw [val_name h, show Cm.valueOf (.beats o t) (some o) = 1 from if_pos rfl]
  decide +kernel
theorem good_over {k : Str} {s : Rat} (h : Pl.Nm k) (h0 : 0 < s) (h1 : s < 1) : 1/2 < Cm.value (.over k s) (some k) := by
  rw [val_name h, Cm.cval_over k s (some k) (fun z => z.elim (fun e => nomatch e) fun e => nm_e h (Option.some.inj e)), if_pos rfl]
  exact half_less h0 h1
theorem good_under {k g : Str} {s : Rat} (h : Pl.Nm g) (n : g ≠ k) (h0 : 0 < s) (h1 : s < 1) : 1/2 < Cm.value (.under k s) (some g) := by
  obtain ⟨p1, p2⟩ := Cm.sub_pos h1
  rw [val_name h, Cm.cval_under k s (some g) (fun z => z.elim (fun e => nomatch e) fun e => nm_e h (Option.some.inj e)), if_neg (fun e => n (Option.some.inj e))]
  exact half_less p1 (p2 h0)
theorem rep1 {α : Type} (x : α) : ∀ k : Nat, (List.replicate k [x]).flatten = List.replicate k x
  | 0 => rfl
  | k + 1 => by rw [List.replicate_succ, List.flatten_cons, rep1 x k, List.replicate_succ]; rfl
/-- a way that compares -/
def Wa (K : PySem.W.Frag) (H : Hp) (a : Addr) (c : Cm.C) (ms : List (Option Str)) : Prop := ∃ (dx w l r : Addr) (ys : List V), H a = some (.ins (He.ga K "Comparing") dx [("claim", .ref w), ("told", .ref l), ("scale", .ref r)]) ∧ Cm.At K H w c ∧ H l = some (.lst ys) ∧ Lw.Fqs K H ys (ms.map (Cm.value c)) ∧ SqT K H r (Fr.fq (scale c ms)) ∧ Fr.Sz 5000 (scale c ms)
theorem Wa.same {K : PySem.W.Frag} {H H' : Hp} (e : Same H H') {a : Addr} {c : Cm.C} {ms : List (Option Str)} : Wa K H a c ms → Wa K H' a c ms
  | ⟨dx, w, l, r, ys, h1, h2, h3, h4, h5, h6⟩ => ⟨dx, w, l, r, ys, e _ _ h1, h2.same e, e _ _ h3, h4.same e, seqT_same e h5, h6⟩
end Wy
namespace Wy
open PySem PySem.Spec PyProof.Rows L2 Gx
/-- a way of either sort -/
def Wx (K : PySem.W.Frag) (H : Hp) (a : Addr) (b : Bool) (c : Cm.C) (ts : List (Option Str)) : Prop :=
  (b = true ∧ ∃ dx w, H a = some (.ins (He.ga K "Looking") dx [("claim", .ref w)]) ∧ Cm.At K H w c) ∨ (b = false ∧ Wa K H a c ts)
theorem Wx.same {K : PySem.W.Frag} {H H' : Hp} (e : Same H H') {a : Addr} {b : Bool} {c : Cm.C} {ts : List (Option Str)} : Wx K H a b c ts → Wx K H' a b c ts
  | .inl ⟨h, dx, w, h1, h2⟩ => .inl ⟨h, dx, w, e _ _ h1, h2.same e⟩
  | .inr ⟨h, g⟩ => .inr ⟨h, g.same e⟩
theorem k_w2 {K : PySem.W.Frag} {σ : L2.St} {H : Hp} {Q : VK} {ta : TE} {t : TA} {m : Str} {sp1 sp2 : Sp} {E : L2.St → XK} {a : Addr} {b : Bool} {c : Cm.C} {ts : List (Option Str)} (hev : ∀ Q : VK, Q (.ref a) H → ta σ H Q) (hw : Wx K H a b c ts) (q : t σ H fun vs H2 => (if b = true then sp1 else sp2) (.ref a :: vs) H2 Q (E σ))
    (h1 : (m == (Str.ofString "claim")) = false := by decide +kernel) (h2 : (m == (Str.ofString "told")) = false := by decide +kernel) (h3 : (m == (Str.ofString "scale")) = false := by decide +kernel) :
    tOr2 (tMethS (He.ga K "Looking") m sp1 E ta t) (tMethS (He.ga K "Comparing") m sp2 E ta t) σ H Q := by
  rcases hw with ⟨rfl, dx, w, hi, _⟩ | ⟨rfl, dx, w, l, r, ys, hi, _⟩
  · exact k_o1 (k_meth (hev _ (k_methx hi (lkz h1 lk0) q)))
  · exact k_o2 (k_meth (hev _ (k_methx hi (lkz h1 (lkz h2 (lkz h3 lk0))) q)))
end Wy
namespace Ru
open PySem PySem.Spec PyProof.Rows L2 Gx
theorem cast_pos {a : Int} (h : 0 < a) : (0 : Rat) < (a : Rat) := by
  have : ((0 : Int) : Rat) < (a : Rat) := Rat.intCast_lt_intCast.mpr h
  exact this
theorem cast_nn {a : Int} (h : 0 ≤ a) : (0 : Rat) ≤ (a : Rat) := by
  have : ((0 : Int) : Rat) ≤ (a : Rat) := Rat.intCast_le_intCast.mpr h
  exact this
theorem pos {a b : Int} (ha : 0 < a) (hb : 0 < b) : 0 < Rat.divInt a b := by
  rw [Rat.divInt_eq_div, Rat.lt_div_iff (cast_pos hb), Rat.zero_mul]
  exact cast_pos ha
theorem unit {a b : Int} (h0 : 0 ≤ a) (h1 : a ≤ b) (hb : 0 < b) : 0 ≤ Rat.divInt a b ∧ Rat.divInt a b ≤ 1 := by
  have p := cast_pos hb
  rw [Rat.divInt_eq_div]
  constructor
  · refine Rat.not_lt.mp fun z => ?_
    rw [Rat.div_lt_iff p, Rat.zero_mul] at z
    exact absurd (Std.lt_of_lt_of_le z (cast_nn h0)) Rat.lt_irrefl
  · refine Rat.not_lt.mp fun z => ?_
    rw [Rat.lt_div_iff p, Rat.one_mul] at z
    have := Rat.intCast_lt_intCast.mp z
    omega
/-- from 0 to 1 -/
def clip (x : Rat) : Rat := if x < 0 then 0 else if 1 < x then 1 else x
/-- what a learning rule stakes -/
def learn (g w : Rat) (past : List Rat) (price top : Rat) : Rat := if price < top then clip (((w * g + Lw.sum past) / (w + (past.length : Rat)) - price) / (top - price)) else 0
theorem lt_parts {x y : Rat} : x < y ↔ x.num * (y.den : Int) < y.num * (x.den : Int) := Rat.lt_iff x y
theorem neg_fq (x : Rat) : Fr.fq (-x) = [.int (0 - x.num), .int (x.den : Int)] := by
  show [V.int (-x).num, V.int ((-x).den : Int)] = _
  rw [Rat.neg_num, Rat.neg_den, Int.zero_sub]
theorem num_le0 {x : Rat} : x.num ≤ 0 ↔ x ≤ 0 := by
  rw [← Rat.not_lt, Rat.lt_iff]
  simp
theorem one_lt {x : Rat} : (x.den : Int) < x.num ↔ 1 < x := by
  rw [Rat.lt_iff]
  simp
theorem fqn (n : Nat) : Fr.fq (n : Rat) = [.int (n : Int), .int 1] := rfl
theorem szn {n k : Nat} (h : n < 2 ^ k) (hk : 1 ≤ k) : Fr.Sz k (n : Rat) := ⟨by show ((n : Rat).num).natAbs < _; rw [show (n : Rat).num = (n : Int) from rfl]; omega, by show (1 : Nat) < 2 ^ k; exact Nat.one_lt_two_pow (by omega)⟩
theorem n_ne {n : Nat} (h : 1 ≤ n) : (n : Rat) ≠ 0 := fun e => by
  have : (n : Rat) = ((0 : Nat) : Rat) := e
  have := Rat.natCast_inj.mp this
  omega
theorem clip_le0 {a b : Rat} (hb : 0 < b) (h : a ≤ 0) : clip (a / b) = 0 := by
  have le : a / b ≤ 0 := Rat.not_lt.mp fun z => by
    rw [Rat.lt_div_iff hb, Rat.zero_mul] at z
    exact absurd (Std.lt_of_lt_of_le z h) Rat.lt_irrefl
  unfold clip
  by_cases c : a / b < 0
  · rw [if_pos c]
  · rw [if_neg c]
    have e : a / b = 0 := Rat.le_antisymm le (Rat.not_lt.mp c)
    rw [e, if_neg (by decide +kernel)]
theorem paired_drop {α β : Type} {R : α → β → Prop} {xs : List α} {ys : List β} (h : PySem.Paired R xs ys) : PySem.Paired R xs.dropLast ys.dropLast := by
  induction h with
  | nil => exact .nil
  | cons a r ih =>
    cases r with
    | nil => exact .nil
    | cons b r2 => exact .cons a ih
theorem fqs_drop {K : PySem.W.Frag} {H : Hp} {vs : List V} {qs : List Rat} (h : Lw.Fqs K H vs qs) : Lw.Fqs K H vs.dropLast qs.dropLast := paired_drop h
end Ru
namespace Cm
open PySem PySem.Spec PyProof.Rows L2 Gx
def isQ (m : Option Str) : Bool := decide (m = some (Str.ofString "?"))
def there (m : Option Str) : Bool := !decide (m = some (Str.ofString "?"))
def bare (m : Option Str) : Bool := decide (m = none) || decide (m = some (Str.ofString ""))
def isN (n : Str) (m : Option Str) : Bool := decide (m = some n)
theorem cast_succ (n : Nat) : ((n + 1 : Nat) : Rat) = (n : Rat) + 1 := by exact_mod_cast rfl
theorem sum_two {c : C} {h g : Option Str → Bool} {x : Rat} (hv : ∀ m, value c m = (if h m = true then 1/2 else 0) + (if g m = true then x else 0)) : ∀ ms : List (Option Str), Lw.sum (ms.map (value c)) = (ms.countP h : Rat) * (1/2) + (ms.countP g : Rat) * x
  | [] => by
    show (0 : Rat) = ((0 : Nat) : Rat) * (1/2) + ((0 : Nat) : Rat) * x
    have : ((0 : Nat) : Rat) = 0 := rfl
    rw [this, Rat.zero_mul, Rat.zero_mul, Rat.add_zero]
  | m :: r => by
    rw [List.map_cons, sum_cons, sum_two hv r, hv m, List.countP_cons, List.countP_cons]
    by_cases a : h m = true <;> by_cases b : g m = true <;> simp only [a, b, if_true, Bool.false_eq_true, if_false, Nat.add_zero] <;> (try rw [cast_succ]) <;> (try rw [cast_succ]) <;> grind
theorem ne_q {n : Str} (h : Pl.Nm n) : n ≠ Str.ofString "?" := fun e => by
  rw [e] at h
  have := h.2.2 63 (by decide +kernel)
  omega
theorem ne_e {n : Str} (h : Pl.Nm n) : n ≠ Str.ofString "" := fun e => by
  rw [e] at h
  exact absurd h.1 (by decide +kernel)
theorem q_ne_e : Str.ofString "?" ≠ Str.ofString "" := by decide +kernel
/-! what each claim's values are -/
theorem val_claim (m : Option Str) : value .claim m = (if there m = true then 1/2 else 0) + (if (false : Bool) = true then (0 : Rat) else 0) := by
  show (if m = some (Str.ofString "?") then 0 else 1/2) = _
  by_cases h : m = some (Str.ofString "?")
  · simp [there, h, Rat.add_zero]
  · simp [there, h, Rat.add_zero]
def half2 (a b : Str) (m : Option Str) : Bool := there m && (!isN a m && !isN b m)
theorem val_beats {a b : Str} (ha : a ≠ Str.ofString "?") (hb : b ≠ Str.ofString "?") (m : Option Str) : value (.beats a b) m = (if half2 a b m = true then 1/2 else 0) + (if isN a m = true then (1 : Rat) else 0) := by
  show (if m = some (Str.ofString "?") then 0 else if m = some a then 1 else if m = some b then 0 else 1/2) = _
  by_cases h : m = some (Str.ofString "?")
  · subst h
    have e1 : ¬ (some (Str.ofString "?") = some a) := fun e => ha (Option.some.inj e).symm
    simp [half2, there, isN, e1, Rat.add_zero]
  · by_cases h1 : m = some a
    · simp [half2, isN, h1, Rat.zero_add]
      intro e; exact absurd e ha
    · by_cases h2 : m = some b
      · have h3 : ¬ b = a := fun e => h1 (by rw [h2, e])
        simp [half2, isN, h2, h3, hb, Rat.zero_add]
      · simp [half2, there, isN, h, h1, h2, Rat.add_zero]
theorem val_over {n : Str} {s : Rat} (hn : n ≠ Str.ofString "?") (he : n ≠ Str.ofString "") (m : Option Str) : value (.over n s) m = (if bare m = true then 1/2 else 0) + (if isN n m = true then (1/2) / s else 0) := by
  show (if m = some (Str.ofString "?") then 0 else if m = none ∨ m = some (Str.ofString "") then 1/2 else if m = some n then (1/2)/s else 0) = _
  by_cases h : m = some (Str.ofString "?")
  · subst h
    have e1 : ¬ (Str.ofString "?" = n) := fun e => hn e.symm
    simp [bare, isN, e1, q_ne_e, Rat.add_zero]
  · by_cases h1 : m = none
    · simp [bare, isN, h1, Rat.add_zero]
    · by_cases h2 : m = some (Str.ofString "")
      · have e1 : ¬ (Str.ofString "" = n) := fun e => he e.symm
        simp [bare, isN, h2, e1, Rat.add_zero, Ne.symm q_ne_e]
      · by_cases h3 : m = some n
        · simp [bare, isN, h3, hn, he, Rat.zero_add]
        · simp [bare, isN, h, h1, h2, h3, Rat.zero_add]
def rest (n : Str) (m : Option Str) : Bool := there m && (!bare m && !isN n m)
theorem val_under {n : Str} {s : Rat} (hn : n ≠ Str.ofString "?") (he : n ≠ Str.ofString "") (m : Option Str) : value (.under n s) m = (if bare m = true then 1/2 else 0) + (if rest n m = true then (1/2) / (1 - s) else 0) := by
  show (if m = some (Str.ofString "?") then 0 else if m = none ∨ m = some (Str.ofString "") then 1/2 else if m = some n then 0 else (1/2)/(1 - s)) = _
  by_cases h : m = some (Str.ofString "?")
  · subst h
    simp [bare, rest, there, q_ne_e, Rat.add_zero]
  · by_cases h1 : m = none
    · simp [bare, rest, h1, Rat.add_zero]
    · by_cases h2 : m = some (Str.ofString "")
      · simp [bare, rest, h2, Rat.add_zero, Ne.symm q_ne_e]
      · by_cases h3 : m = some n
        · simp [bare, rest, isN, h3, hn, he, Rat.zero_add]
        · simp [bare, rest, there, isN, h, h1, h2, h3, Rat.zero_add]
/-! the counts, one by the others -/
theorem cnt_half2 {a b : Str} (ha : a ≠ Str.ofString "?") (hb : b ≠ Str.ofString "?") (hab : a ≠ b) : ∀ ms : List (Option Str), ms.countP there = ms.countP (half2 a b) + ms.countP (isN a) + ms.countP (isN b)
  | [] => rfl
  | m :: r => by
    have ih := cnt_half2 ha hb hab r
    rw [List.countP_cons, List.countP_cons, List.countP_cons, List.countP_cons, ih]
    by_cases h : m = some (Str.ofString "?")
    · subst h
      have e1 : ¬ (Str.ofString "?" = a) := fun e => ha e.symm
      have e2 : ¬ (Str.ofString "?" = b) := fun e => hb e.symm
      simp [half2, there, isN, e1, e2]
    · by_cases h1 : m = some a
      · simp [half2, there, isN, h1, ha, hab]; omega
      · by_cases h2 : m = some b
        · have h3 : ¬ b = a := fun e => hab e.symm
          simp [half2, there, isN, h2, h3, hb]; omega
        · simp [half2, there, isN, h, h1, h2]; omega
theorem cnt_rest {n : Str} (hn : n ≠ Str.ofString "?") (he : n ≠ Str.ofString "") : ∀ ms : List (Option Str), ms.countP there = ms.countP (rest n) + ms.countP bare + ms.countP (isN n)
  | [] => rfl
  | m :: r => by
    have ih := cnt_rest hn he r
    rw [List.countP_cons, List.countP_cons, List.countP_cons, List.countP_cons, ih]
    by_cases h : m = some (Str.ofString "?")
    · subst h
      have e1 : ¬ (Str.ofString "?" = n) := fun e => hn e.symm
      simp [rest, there, bare, isN, e1, q_ne_e]
    · by_cases h1 : m = none
      · simp [rest, there, bare, isN, h1]; omega
      · by_cases h2 : m = some (Str.ofString "")
        · have e1 : ¬ (Str.ofString "" = n) := fun e => he e.symm
          simp [rest, there, bare, isN, h2, e1, Ne.symm q_ne_e]; omega
        · by_cases h3 : m = some n
          · simp [rest, there, bare, isN, h3, hn, he]; omega
          · simp [rest, there, bare, isN, h, h1, h2, h3]; omega
/-! when a claim holds, by counts -/
theorem cast_lt {a b : Int} : ((a : Rat) < (b : Rat)) ↔ a < b := by exact_mod_cast Iff.rfl
theorem scaled {a b g x s : Rat} (h0 : 0 < s) (hx : x * s = 1/2) : a / 2 < b * (1/2) + g * x ↔ a * s < b * s + g := by
  rw [← Rat.mul_lt_mul_right h0]
  have e : (b * (1/2) + g * x) * s = (b * s + g) / 2 := by
    have : g * x * s = g * (1/2) := by rw [Rat.mul_assoc, hx]
    grind
  rw [e]
  constructor
  · intro h; grind
  · intro h; grind
theorem num_den (s : Rat) : s * (s.den : Rat) = (s.num : Rat) := by
  have e : s = (s.num : Rat) / (s.den : Rat) := by
    have := Rat.num_divInt_den s
    rw [Rat.divInt_eq_div] at this
    exact this.symm
  have hd : (s.den : Rat) ≠ 0 := by
    intro z
    have : (s.den : Rat) = ((0 : Nat) : Rat) := z
    have h2 : s.den = 0 := by exact_mod_cast this
    exact s.den_nz h2
  calc s * (s.den : Rat) = (s.num : Rat) / (s.den : Rat) * (s.den : Rat) := by rw [← e]
    _ = (s.num : Rat) := Rat.div_mul_cancel hd
theorem den_pos' (s : Rat) : (0 : Rat) < (s.den : Rat) := by exact_mod_cast Nat.pos_of_ne_zero s.den_nz
theorem inv2 {s : Rat} (h0 : 0 < s) : (1/2) / s * s = 1/2 := Rat.div_mul_cancel (ne0 h0)
theorem by_share {l b g : Nat} {s : Rat} {p w : Int} (h0 : 0 < s) (hw : 0 < w) (e : s * (w : Rat) = (p : Rat)) : ((l : Rat) / 2 < (b : Rat) * (1/2) + (g : Rat) * ((1/2) / s)) ↔ (l : Int) * p < (g : Int) * w + (b : Int) * p := by
  have hw2 : (0 : Rat) < (w : Rat) := by exact_mod_cast hw
  rw [scaled h0 (inv2 h0), ← Rat.mul_lt_mul_right hw2]
  have e1 : (l : Rat) * s * (w : Rat) = (((l : Int) * p : Int) : Rat) := by rw [Rat.mul_assoc, e, Rat.intCast_mul]; rfl
  have e2 : ((b : Rat) * s + (g : Rat)) * (w : Rat) = (((g : Int) * w + (b : Int) * p : Int) : Rat) := by
    rw [Rat.intCast_add, Rat.intCast_mul, Rat.intCast_mul, Rat.add_mul, Rat.mul_assoc, e, Rat.add_comm]
    rfl
  rw [e1, e2, cast_lt]
theorem holds_claim (ms : List (Option Str)) : holds .claim ms ↔ (ms.length : Int) < (ms.countP there : Int) := by
  unfold holds
  rw [sum_two val_claim]
  have e : ((ms.countP fun _ => false : Nat) : Rat) = 0 := by rw [List.countP_false]; rfl
  rw [Rat.mul_zero, Rat.add_zero]
  constructor
  · intro h
    have : (ms.length : Rat) < (ms.countP there : Rat) := by grind
    exact_mod_cast this
  · intro h
    have : (ms.length : Rat) < (ms.countP there : Rat) := by exact_mod_cast h
    grind
theorem holds_beats {a b : Str} (ha : a ≠ Str.ofString "?") (hb : b ≠ Str.ofString "?") (hab : a ≠ b) (ms : List (Option Str)) : holds (.beats a b) ms ↔ (ms.length : Int) < 2 * (ms.countP (isN a) : Int) + (ms.countP there : Int) - (ms.countP (isN a) : Int) - (ms.countP (isN b) : Int) := by
  unfold holds
  rw [sum_two (val_beats ha hb)]
  have c := cnt_half2 ha hb hab ms
  have e : (2 * (ms.countP (isN a) : Int) + (ms.countP there : Int) - (ms.countP (isN a) : Int) - (ms.countP (isN b) : Int)) = ((2 * ms.countP (isN a) + ms.countP (half2 a b) : Nat) : Int) := by omega
  rw [e]
  have e2 : ((2 * ms.countP (isN a) + ms.countP (half2 a b) : Nat) : Rat) = 2 * (ms.countP (isN a) : Rat) + (ms.countP (half2 a b) : Rat) := by exact_mod_cast rfl
  constructor
  · intro h
    have : (ms.length : Rat) < ((2 * ms.countP (isN a) + ms.countP (half2 a b) : Nat) : Rat) := by rw [e2]; grind
    exact_mod_cast this
  · intro h
    have : (ms.length : Rat) < ((2 * ms.countP (isN a) + ms.countP (half2 a b) : Nat) : Rat) := by exact_mod_cast h
    rw [e2] at this
    grind
theorem holds_over {n : Str} {s : Rat} (hn : n ≠ Str.ofString "?") (he : n ≠ Str.ofString "") (h0 : 0 < s) (ms : List (Option Str)) : holds (.over n s) ms ↔ (ms.length : Int) * s.num < (ms.countP (isN n) : Int) * (s.den : Int) + (ms.countP bare : Int) * s.num := by
  unfold holds
  rw [sum_two (val_over hn he), by_share (p := s.num) (w := (s.den : Int)) h0 (by have := s.den_nz; omega) (num_den s)]
theorem holds_under {n : Str} {s : Rat} (hn : n ≠ Str.ofString "?") (he : n ≠ Str.ofString "") (h1 : s < 1) (ms : List (Option Str)) : holds (.under n s) ms ↔ (ms.length : Int) * ((s.den : Int) - s.num) < ((ms.countP there : Int) - (ms.countP bare : Int) - (ms.countP (isN n) : Int)) * (s.den : Int) + (ms.countP bare : Int) * ((s.den : Int) - s.num) := by
  unfold holds
  have c := cnt_rest hn he ms
  have e : (ms.countP there : Int) - (ms.countP bare : Int) - (ms.countP (isN n) : Int) = (ms.countP (rest n) : Int) := by omega
  rw [e, sum_two (val_under hn he), by_share (p := (s.den : Int) - s.num) (w := (s.den : Int)) (sub_pos h1).1 (by have := s.den_nz; omega) ?_]
  have g := num_den s
  have : (1 - s) * (s.den : Rat) = (s.den : Rat) - (s.num : Rat) := by rw [← g]; grind
  rw [Rat.intCast_sub]
  exact this
/-! marks as data -/
def md : Option Str → PyData
  | none => .none
  | some s => .str s
theorem dp_mv {K : PySem.W.Frag} {H : Hp} (m : Option Str) : Dp K H (mv m) (md m) := by
  cases m with
  | none => exact .non
  | some s => exact .str s
theorem dpAll_mv {K : PySem.W.Frag} {H : Hp} : ∀ ms : List (Option Str), DpAll K H (ms.map mv) (ms.map md)
  | [] => .nil
  | m :: r => .cons (dp_mv m) (dpAll_mv r)
theorem plain_md : ∀ ms : List (Option Str), PyData.plainAll (ms.map md) = true ∧ PyData.depthAll (ms.map md) = 0
  | [] => ⟨by simp [PyData.plainAll], by simp [PyData.depthAll]⟩
  | m :: r => by
    obtain ⟨h1, h2⟩ := plain_md r
    cases m with
    | none => exact ⟨by simp [md, PyData.plainAll, PyData.plain] at *; exact h1, by simp [md, PyData.depthAll, PyData.depth] at *; exact h2⟩
    | some s => exact ⟨by simp [md, PyData.plainAll, PyData.plain] at *; exact h1, by simp [md, PyData.depthAll, PyData.depth] at *; exact h2⟩
theorem eqv_md (m : Option Str) (n : Str) : PyData.eqv (md m) (.str n) = isN n m := by
  cases m with
  | none => simp [md, PyData.eqv, isN]
  | some s => by_cases h : s = n <;> simp [md, PyData.eqv, isN, h]
theorem cnt_md (ms : List (Option Str)) (n : Str) : ((ms.map md).countP fun z => PyData.eqv z (.str n)) = ms.countP (isN n) := by
  rw [List.countP_map]
  congr 1
  funext m
  exact eqv_md m n
/-- count of a name among marks -/
theorem k_cntM {K : PySem.W.Frag} {H : Hp} {Q : VK} {p : Addr} {ms : List (Option Str)} {n : Str} (h : SqL K H p (ms.map mv)) (q : Q (.int (ms.countP (isN n) : Int)) H) : rCntL K (.ref p) [.str n] H Q := by
  obtain ⟨h1, h2⟩ := plain_md ms
  refine k_cntL (.lst h (dpAll_mv ms)) (.str n) h1 rfl (by omega) ?_
  rw [cnt_md]
  exact q
/-- how many of those walked are kept -/
theorem countP_take {P : Option Str → Bool} {ms : List (Option Str)} {i : Nat} {m : Option Str} (h : ms[i]? = some m) : ((ms.take (i + 1)).filter P) = (ms.take i).filter P ++ (if P m = true then [m] else []) := by
  rw [Lw.take_snoc h, List.filter_append]
  by_cases c : P m = true <;> simp [c]
theorem sum_rev : ∀ qs : List Rat, Lw.sum qs.reverse = Lw.sum qs
  | [] => rfl
  | q :: r => by rw [List.reverse_cons, Lw.sum_snoc, sum_rev r, sum_cons, Rat.add_comm]
theorem holds_rev (c : C) (ms : List (Option Str)) : holds c ms.reverse ↔ holds c ms := by
  unfold holds
  rw [List.map_reverse, sum_rev, List.length_reverse]
/-- the claim of a kind -/
def kd (k : Int) (a b : Str) (s : Rat) : C := if k = 0 then .beats a b else if k = 1 then .over a s else if k = 2 then .under a s else .claim
def inN (ns : List Str) (m : Option Str) : Bool := decide (∃ n ∈ ns, m = some n)
theorem cnt_all {P R : Option Str → Bool} : ∀ {ms : List (Option Str)}, (∀ m ∈ ms, (P m = true ↔ R m = false)) → ms.countP P + ms.countP R = ms.length
  | [], _ => rfl
  | m :: r, h => by
    have ih := cnt_all (ms := r) fun x hx => h x (List.mem_cons_of_mem m hx)
    have hm := h m (List.mem_cons_self ..)
    rw [List.countP_cons, List.countP_cons, List.length_cons]
    cases e : P m with
    | true =>
      rw [hm.mp e]
      simp
      omega
    | false =>
      cases e2 : R m with
      | true => simp; omega
      | false => rw [hm.mpr e2] at e; cases e
end Cm
namespace Cm
open PySem PySem.Spec PyProof.Rows L2 Gx
abbrev sh (d : PyData) : Prop := Dt.Sh 0 d
theorem sh_nm {g : Str} (h : Pl.Nm g) : sh (md (some g)) := Dt.sh_str h.ok
end Cm
namespace Cm
open PySem PySem.Spec PyProof.Rows L2 Gx
/-- a number as a text -/
def T (i : Int) : Str := Str.ofString (toString i)
theorem T_len {i : Int} (h : i.natAbs.log2 < 1920) : (T i).length ≤ 1921 := PyProof.Rows.int_text_len_1921 h
/-- a fraction as a text -/
def sf (s : Rat) : Str := if s.den = 1 then T s.num else T s.num ++ Str.ofString "/" ++ T (s.den : Int)
theorem log_lt {i : Int} {n : Nat} (h : i.natAbs < 2 ^ n) (hn : n ≤ 1900) : i.natAbs.log2 < 1920 := Nat.lt_of_lt_of_le (PySem.Flt.log2_lt_of (k := 1920) (by decide) (Nat.lt_of_lt_of_le h (Nat.pow_le_pow_right (by decide) (by omega)))) (Nat.le_refl _)
theorem sf_len {s : Rat} {n : Nat} (h : Fr.Sz n s) (hn : n ≤ 1900) : (sf s).length ≤ 4000 := by
  have h1 := T_len (log_lt h.1 hn)
  have h2 := T_len (log_lt (i := (s.den : Int)) h.2 hn)
  unfold sf
  split
  · omega
  · rw [Str.length_append, Str.length_append]
    have : (Str.ofString "/").length = 1 := by decide +kernel
    omega
end Cm
namespace Al
open PySem PySem.Spec PyProof.Rows L2 Gx
/-- every draw, in order -/
def nx (m : Nat) (b : Bool) (s : List Int) : List (List Int) := ((Dw.rg m).filter fun x => b || !s.contains x).map fun x => s ++ [x]
def al (m : Nat) (b : Bool) : Nat → List (List Int)
  | 0 => [[]]
  | n + 1 => (al m b n).flatMap (nx m b)
def Ok (m : Nat) (b : Bool) (s : List Int) : Prop := (∀ x ∈ s, 0 ≤ x ∧ x < (m : Int)) ∧ (b = false → s.Nodup)
theorem mem_nx {m : Nat} {b : Bool} {s t : List Int} (h : t ∈ nx m b s) : ∃ x, t = s ++ [x] ∧ 0 ≤ x ∧ x < (m : Int) ∧ (b = false → x ∉ s) := by
  unfold nx at h
  obtain ⟨x, hx, rfl⟩ := List.mem_map.mp h
  obtain ⟨h1, h2⟩ := List.mem_filter.mp hx
  obtain ⟨h3, h4⟩ := D24.mem_rg.mp h1
  refine ⟨x, rfl, h3, h4, fun hb => ?_⟩
  subst hb
  simpa using h2
theorem al_ok {m : Nat} {b : Bool} : ∀ {n : Nat} {s : List Int}, s ∈ al m b n → Ok m b s ∧ s.length = n
  | 0, s, h => by
    rw [List.mem_singleton.mp h]
    exact ⟨⟨fun _ h => (nomatch h), fun _ => List.nodup_nil⟩, rfl⟩
  | n + 1, s, h => by
    obtain ⟨t, ht, hs⟩ := List.mem_flatMap.mp h
    obtain ⟨⟨h1, h2⟩, h3⟩ := al_ok ht
    obtain ⟨x, rfl, x0, x1, hx⟩ := mem_nx hs
    refine ⟨⟨fun y hy => ?_, fun hb => ?_⟩, by simp [h3]⟩
    · rcases List.mem_append.mp hy with e | e
      · exact h1 y e
      · rw [List.mem_singleton.mp e]; exact ⟨x0, x1⟩
    · refine List.nodup_append.mpr ⟨h2 hb, by simp, fun a ha c hc e => ?_⟩
      rw [List.mem_singleton.mp hc] at e
      exact hx hb (e ▸ ha)
theorem fil_true {α : Type} (l : List α) : (l.filter fun _ => true) = l := List.filter_eq_self.mpr fun _ _ => rfl
theorem ng_len {m : Nat} : ∀ {k : Nat} {s : List Int}, s.length = k → (∀ x ∈ s, 0 ≤ x ∧ x < (m : Int)) → s.Nodup → (D24.ng s (Dw.rg m)).length + s.length = m
  | 0, s, hk, _, _ => by
    rw [List.length_eq_zero_iff.mp hk]
    simp [D24.ng, fil_true, Dw.rg_len]
  | k + 1, s, hk, h, nd => by
    obtain ⟨t, x, rfl⟩ := Dk.last s (by omega)
    have hx := h x (by simp)
    obtain ⟨b, rfl⟩ := Int.eq_ofNat_of_zero_le hx.1
    have nd2 := List.nodup_append.mp nd
    have hb : (b : Int) ∉ t := fun z => nd2.2.2 _ z _ (by simp) rfl
    have ih := ng_len (k := k) (s := t) (by simpa using hk) (fun y hy => h y (List.mem_append_left _ hy)) nd2.1
    have he := D24.erase_ (g := t) (b := b) (m := m) (n := (D24.ng t (Dw.rg b)).length) (by omega) hb rfl
    have hlt : (D24.ng t (Dw.rg b)).length < (D24.ng t (Dw.rg m)).length := by
      rw [D24.ng_split (show b < m by omega) hb]
      simp
    rw [← he, List.length_eraseIdx, if_pos hlt]
    simp
    omega
theorem nx_len {m : Nat} {b : Bool} {s : List Int} (h : Ok m b s) : ((nx m b s).length : Int) = Cn.fac (m : Int) b s.length := by
  unfold nx Cn.fac
  rw [List.length_map]
  cases b with
  | true => simp [fil_true, Dw.rg_len]
  | false =>
    have := ng_len rfl h.1 (h.2 rfl)
    have e : ((Dw.rg m).filter fun x => false || !s.contains x) = D24.ng s (Dw.rg m) := by simp [D24.ng]
    rw [e]
    simp
    omega
theorem flat_len {f : List Int → List (List Int)} {c : Int} : ∀ {l : List (List Int)}, (∀ s ∈ l, ((f s).length : Int) = c) → ((l.flatMap f).length : Int) = (l.length : Int) * c
  | [], _ => by simp
  | s :: r, h => by
    have ih := flat_len (l := r) fun x hx => h x (List.mem_cons_of_mem s hx)
    have h1 := h s (List.mem_cons_self ..)
    rw [List.flatMap_cons, List.length_append, List.length_cons]
    simp only [Int.natCast_add, ih, h1]
    rw [Int.add_mul]
    omega
theorem al_len {m : Nat} {b : Bool} : ∀ n : Nat, ((al m b n).length : Int) = Cn.cnt (m : Int) b n
  | 0 => rfl
  | n + 1 => by
    show (((al m b n).flatMap (nx m b)).length : Int) = Cn.cnt (m : Int) b n * Cn.fac (m : Int) b n
    rw [flat_len (c := Cn.fac (m : Int) b n) fun s hs => by
      obtain ⟨h1, h2⟩ := al_ok hs
      rw [nx_len h1, h2], al_len n]
def tu (s : List Int) : PyData := .tuple (s.map .int)
theorem fac_pos {m : Nat} {b : Bool} {n : Nat} : 0 ≤ Cn.fac (m : Int) b n := by
  unfold Cn.fac
  cases b
  · simp; omega
  · simp
theorem cnt_nn {m : Nat} {b : Bool} (n : Nat) : 0 ≤ Cn.cnt (m : Int) b n := by rw [← al_len]; omega
theorem cnt_step {m : Nat} {b : Bool} {n : Nat} (h : Cn.cnt (m : Int) b (n + 1) ≠ 0) : Cn.cnt (m : Int) b n ≠ 0 ∧ Cn.cnt (m : Int) b n ≤ Cn.cnt (m : Int) b (n + 1) := by
  have e : Cn.cnt (m : Int) b (n + 1) = Cn.cnt (m : Int) b n * Cn.fac (m : Int) b n := rfl
  have h1 : Cn.cnt (m : Int) b n ≠ 0 := fun z => h (by rw [e, z, Int.zero_mul])
  have h2 : Cn.fac (m : Int) b n ≠ 0 := fun z => h (by rw [e, z, Int.mul_zero])
  have f := fac_pos (m := m) (b := b) (n := n)
  refine ⟨h1, ?_⟩
  rw [e]
  have := Int.mul_le_mul_of_nonneg_left (show (1 : Int) ≤ Cn.fac (m : Int) b n by omega) (cnt_nn (m := m) (b := b) n)
  rw [Int.mul_one] at this
  exact this
theorem cnt_mono {m : Nat} {b : Bool} : ∀ {n i : Nat}, i ≤ n → Cn.cnt (m : Int) b n ≠ 0 → Cn.cnt (m : Int) b i ≤ Cn.cnt (m : Int) b n
  | 0, i, hi, _ => by rw [Nat.le_zero.mp hi]; exact Int.le_refl _
  | n + 1, i, hi, h => by
    by_cases e : i = n + 1
    · rw [e]; exact Int.le_refl _
    · obtain ⟨h1, h2⟩ := cnt_step h
      exact Int.le_trans (cnt_mono (by omega) h1) h2
/-! the numbers that give a draw -/
def numsOf (b : Bool) : List Int → List Int → List Int
  | _, [] => []
  | g, x :: r => (x - ((g.filter fun y => decide (y < x)).length : Int) * (if b then 0 else 1)) :: numsOf b (g ++ [x]) r
theorem nums_snoc {b : Bool} : ∀ {t g : List Int} {x : Int}, numsOf b g (t ++ [x]) = numsOf b g t ++ [x - (((g ++ t).filter fun y => decide (y < x)).length : Int) * (if b then 0 else 1)]
  | [], g, x => by simp [numsOf]
  | y :: r, g, x => by
    have ih := nums_snoc (t := r) (g := g ++ [y]) (x := x) (b := b)
    show _ :: numsOf b (g ++ [y]) (r ++ [x]) = _
    rw [ih]
    simp [numsOf]
theorem nums_len {b : Bool} : ∀ (t g : List Int), (numsOf b g t).length = t.length
  | [], _ => rfl
  | _ :: r, g => congrArg (· + 1) (nums_len r _)
theorem ng_low {g : List Int} {b : Nat} (h : ∀ x ∈ g, 0 ≤ x) (nd : g.Nodup) : (D24.ng g (Dw.rg b)).length + (g.filter fun y => decide (y < (b : Int))).length = b := by
  have e : D24.ng g (Dw.rg b) = D24.ng (g.filter fun y => decide (y < (b : Int))) (Dw.rg b) := by
    unfold D24.ng
    refine List.filter_congr fun x hx => ?_
    have := D24.mem_rg.mp hx
    congr 1
    rw [Bool.eq_iff_iff]
    simp only [List.contains_iff_mem, List.mem_filter, decide_eq_true_eq]
    exact ⟨fun z => ⟨z, this.2⟩, fun z => z.1⟩
  rw [e]
  refine ng_len rfl (fun x hx => ?_) (nd.filter _)
  obtain ⟨h1, h2⟩ := List.mem_filter.mp hx
  exact ⟨h x h1, by simpa using h2⟩
theorem dr_nums {m : Nat} {b : Bool} : ∀ {t g found : List Int}, Ok m b (g ++ t) → Dw.dr b (if b then Dw.rg m else D24.ng g (Dw.rg m)) (numsOf b g t) found = some (found ++ t)
  | [], g, found, _ => by simp [numsOf, Dw.dr]
  | x :: r, g, found, h => by
    have hx := h.1 x (by simp)
    obtain ⟨k, rfl⟩ := Int.eq_ofNat_of_zero_le hx.1
    have h2 : Ok m b ((g ++ [(k : Int)]) ++ r) := by simpa using h
    have ih := dr_nums (t := r) (g := g ++ [(k : Int)]) (found := found ++ [(k : Int)]) h2
    cases b with
    | true =>
      show (if 0 ≤ (k : Int) - _ * 0 ∧ (k : Int) - _ * 0 < ((Dw.rg m).length : Int) then Dw.dr true (Dw.rg m) (numsOf true (g ++ [(k : Int)]) r) (found ++ [(Dw.rg m).getD ((k : Int) - _ * 0).toNat 0]) else none) = _
      have hk : k < m := by omega
      have e : (Dw.rg m).getD k 0 = (k : Int) := by simp [Dw.rg, hk]
      simp only [Int.mul_zero, Int.sub_zero, Int.toNat_natCast]
      rw [if_pos ⟨by omega, by rw [Dw.rg_len]; omega⟩, e]
      have ih' : Dw.dr true (Dw.rg m) (numsOf true (g ++ [(k : Int)]) r) (found ++ [(k : Int)]) = some (found ++ [(k : Int)] ++ r) := ih
      rw [ih']
      simp
    | false =>
      have nd := h.2 rfl
      have nd2 := List.nodup_append.mp nd
      have hk : (k : Int) ∉ g := fun z => nd2.2.2 _ z _ (by simp) rfl
      have low := ng_low (b := k) (fun y hy => (h.1 y (List.mem_append_left _ hy)).1) nd2.1
      have hlt : (D24.ng g (Dw.rg k)).length < (D24.ng g (Dw.rg m)).length := by
        rw [D24.ng_split (show k < m by omega) hk]
        simp
      have en : (k : Int) - ((g.filter fun y => decide (y < (k : Int))).length : Int) * 1 = ((D24.ng g (Dw.rg k)).length : Int) := by omega
      have hat := D24.at_ (m := m) (by omega) hk rfl
      have her := D24.erase_ (m := m) (by omega) hk rfl
      show (if 0 ≤ (k : Int) - ((g.filter fun y => decide (y < (k : Int))).length : Int) * 1 ∧ (k : Int) - ((g.filter fun y => decide (y < (k : Int))).length : Int) * 1 < ((D24.ng g (Dw.rg m)).length : Int) then Dw.dr false ((D24.ng g (Dw.rg m)).eraseIdx ((k : Int) - ((g.filter fun y => decide (y < (k : Int))).length : Int) * 1).toNat) (numsOf false (g ++ [(k : Int)]) r) (found ++ [(D24.ng g (Dw.rg m)).getD ((k : Int) - ((g.filter fun y => decide (y < (k : Int))).length : Int) * 1).toNat 0]) else none) = _
      rw [en, if_pos ⟨by omega, by omega⟩, Int.toNat_natCast, hat, her]
      have ih' : Dw.dr false (D24.ng (g ++ [(k : Int)]) (Dw.rg m)) (numsOf false (g ++ [(k : Int)]) r) (found ++ [(k : Int)]) = some (found ++ [(k : Int)] ++ r) := ih
      rw [ih']
      simp
theorem dr_back {m : Nat} {b : Bool} {s : List Int} (h : Ok m b s) : Dw.dr b (Dw.rg m) (numsOf b [] s) [] = some s := by
  have := dr_nums (g := []) (t := s) (found := []) (m := m) (b := b) (by simpa using h)
  have e : (if b then Dw.rg m else D24.ng [] (Dw.rg m)) = Dw.rg m := by
    cases b
    · simp [D24.ng, fil_true]
    · rfl
  rw [e] at this
  simpa using this
/-! in order -/
theorem lex_app : ∀ {s t u v : List Int}, HT.lexLt s t = true → s.length = t.length → HT.lexLt (s ++ u) (t ++ v) = true
  | [], [], _, _, h, _ => by cases h
  | [], _ :: _, _, _, _, e => by simp at e
  | _ :: _, [], _, _, _, e => by simp at e
  | x :: s, y :: t, u, v, h, e => by
    rw [HT.lexLt_cons] at h
    show HT.lexLt (x :: (s ++ u)) (y :: (t ++ v)) = true
    rw [HT.lexLt_cons]
    by_cases c : x = y
    · rw [if_pos c] at h ⊢
      exact lex_app h (by simpa using e)
    · rw [if_neg c] at h ⊢
      exact h
theorem lex_same {x y : Int} (h : x < y) : ∀ s : List Int, HT.lexLt (s ++ [x]) (s ++ [y]) = true
  | [] => by
    show HT.lexLt [x] [y] = true
    rw [HT.lexLt_cons, if_neg (by omega), decide_eq_true h]
  | z :: s => by
    show HT.lexLt (z :: (s ++ [x])) (z :: (s ++ [y])) = true
    rw [HT.lexLt_cons, if_pos rfl]
    exact lex_same h s
theorem rg_sorted (m : Nat) : (Dw.rg m).Pairwise (· < ·) := by
  unfold Dw.rg
  exact List.pairwise_map.mpr (List.Pairwise.imp (fun h => by exact_mod_cast h) List.pairwise_lt_range)
theorem al_sorted {m : Nat} {b : Bool} : ∀ n : Nat, (al m b n).Pairwise fun s t => HT.lexLt s t = true
  | 0 => List.pairwise_singleton ..
  | n + 1 => by
    refine List.pairwise_flatMap.mpr ⟨fun s _ => ?_, ?_⟩
    · refine List.pairwise_map.mpr (((rg_sorted m).filter _).imp fun h => lex_same h s)
    · refine List.Pairwise.imp_of_mem (fun {s t} hs ht h x hx y hy => ?_) (al_sorted n)
      obtain ⟨u, rfl, _⟩ := mem_nx hx
      obtain ⟨v, rfl, _⟩ := mem_nx hy
      exact lex_app h (by rw [(al_ok hs).2, (al_ok ht).2])
theorem al_lt {m n : Nat} {b : Bool} {k : Nat} {s t : List Int} (hs : (al m b n)[k]? = some s) (ht : (al m b n)[k + 1]? = some t) : HT.lexLt s t = true := by
  obtain ⟨h1, e1⟩ := List.getElem?_eq_some_iff.mp hs
  obtain ⟨h2, e2⟩ := List.getElem?_eq_some_iff.mp ht
  rw [← e1, ← e2]
  exact List.pairwise_iff_getElem.mp (al_sorted n) k (k + 1) h1 h2 (Nat.lt_succ_self k)
theorem sh_tu (s : List Int) : Dt.Sh 1 (tu s) := Dt.sh_tup fun x hx => by
  obtain ⟨z, _, rfl⟩ := List.mem_map.mp hx
  exact Dt.sh_int _
end Al
namespace Co
open PySem PySem.Spec PyProof.Rows L2 Gx
/-- a contest -/
inductive C
  | bare (ns : List Str)
  | most (ns : List Str) (k : Nat)
  | part (ns : List Str) (s : Rat)
def names : C → List Str
  | .bare ns => ns
  | .most ns _ => ns
  | .part ns _ => ns
def At (K : PySem.W.Frag) (H : Hp) (a : Addr) : C → Prop
  | .bare ns => ∃ dx p, H a = some (.ins (He.ga K "Contest") dx [("names", .ref p)]) ∧ SqT K H p (ns.map V.str)
  | .most ns k => ∃ dx p, H a = some (.ins (He.ga K "Most") dx [("names", .ref p), ("seats", .int (k : Int))]) ∧ SqT K H p (ns.map V.str)
  | .part ns s => ∃ dx p q, H a = some (.ins (He.ga K "Portion") dx [("names", .ref p), ("share", .ref q)]) ∧ SqT K H p (ns.map V.str) ∧ SqT K H q (Fr.fq s)
theorem At.same {K : PySem.W.Frag} {H H' : Hp} (e : Same H H') {a : Addr} : ∀ {c : C}, At K H a c → At K H' a c
  | .bare _, ⟨dx, p, h, g⟩ => ⟨dx, p, e _ _ h, seqT_same e g⟩
  | .most _ _, ⟨dx, p, h, g⟩ => ⟨dx, p, e _ _ h, seqT_same e g⟩
  | .part _ _, ⟨dx, p, q, h, g, g2⟩ => ⟨dx, p, q, e _ _ h, seqT_same e g, seqT_same e g2⟩
theorem At.but {K : PySem.W.Frag} {H H' : Hp} {l : Addr} {ys : List V} (b : But l H H') (hl : H l = some (.lst ys)) {a : Addr} : ∀ {c : C}, At K H a c → At K H' a c
  | .bare _, ⟨dx, p, h, g⟩ => ⟨dx, p, b _ _ (ne_of h hl Cm.ins_lst) h, seqT_but b hl g⟩
  | .most _ _, ⟨dx, p, h, g⟩ => ⟨dx, p, b _ _ (ne_of h hl Cm.ins_lst) h, seqT_but b hl g⟩
  | .part _ _, ⟨dx, p, q, h, g, g2⟩ => ⟨dx, p, q, b _ _ (ne_of h hl Cm.ins_lst) h, seqT_but b hl g, seqT_but b hl g2⟩
/-- how many marks name a name -/
def ct (ms : List (Option Str)) (n : Str) : Int := (ms.countP (Cm.isN n) : Int)
def cts (ns : List Str) (ms : List (Option Str)) : List Int := ns.map (ct ms)
/-- an outcome as it is told -/
def Out (K : PySem.W.Frag) (H : Hp) (v : V) : Option (List Str) → Prop
  | none => v = .non
  | some l => ∃ p, v = .ref p ∧ SqT K H p (l.map V.str)
theorem Out.same {K : PySem.W.Frag} {H H' : Hp} (e : Same H H') {v : V} : ∀ {o : Option (List Str)}, Out K H v o → Out K H' v o
  | none, h => h
  | some _, ⟨p, h, g⟩ => ⟨p, h, seqT_same e g⟩
theorem Out.but {K : PySem.W.Frag} {H H' : Hp} {l : Addr} {ys : List V} (b : But l H H') (hl : H l = some (.lst ys)) {v : V} : ∀ {o : Option (List Str)}, Out K H v o → Out K H' v o
  | none, h => h
  | some _, ⟨p, h, g⟩ => ⟨p, h, seqT_but b hl g⟩
def oD : Option (List Str) → PyData
  | none => .none
  | some l => .tuple (l.map .str)
theorem Out.dp {K : PySem.W.Frag} {H : Hp} {v : V} : ∀ {o : Option (List Str)}, Out K H v o → Dp K H v (oD o)
  | none, h => by rw [show v = .non from h]; exact .non
  | some l, ⟨p, h, g⟩ => by rw [h]; exact .tup g (Dt.strz l)
/-- those with fewer others ahead of them than seats -/
def aheadOf (ns : List Str) (ms : List (Option Str)) (n : Str) : List Str := ns.filter fun o => decide (o ≠ n) && decide (ct ms n ≤ ct ms o)
def inside (ns : List Str) (k : Nat) (ms : List (Option Str)) : List Str := ns.filter fun n => decide ((aheadOf ns ms n).length < k)
def due (ns : List Str) (k : Nat) (ms : List (Option Str)) : Option (List Str) := if (inside ns k ms).length < k then none else some (inside ns k ms)
/-! how many are as great, in a rising list -/
theorem low_cnt {rs : List Int} (h : rs.Pairwise (· ≤ ·)) {i : Nat} {x v : Int} (hx : rs[i]? = some x) (hv : v ≤ x) : rs.length ≤ rs.countP (fun y => decide (v ≤ y)) + i := by
  obtain ⟨hi, e⟩ := List.getElem?_eq_some_iff.mp hx
  have e2 : rs.countP (fun y => decide (v ≤ y)) = (rs.take i).countP (fun y => decide (v ≤ y)) + (rs.drop i).countP (fun y => decide (v ≤ y)) := by rw [← List.countP_append, List.take_append_drop]
  have e3 : (rs.drop i).countP (fun y => decide (v ≤ y)) = (rs.drop i).length := List.countP_eq_length.mpr fun y hy => by
    obtain ⟨j, hj, ej⟩ := List.mem_iff_getElem.mp hy
    rw [List.getElem_drop] at ej
    have hj2 : i + j < rs.length := by rw [List.length_drop] at hj; omega
    have : x ≤ y := by
      rw [← e, ← ej]
      rcases Nat.eq_zero_or_pos j with z | z
      · subst z; exact Int.le_refl _
      · exact List.pairwise_iff_getElem.mp h i (i + j) hi hj2 (by omega)
    exact decide_eq_true (by omega)
  rw [e2, e3, List.length_drop]
  omega
theorem high_cnt {rs : List Int} (h : rs.Pairwise (· ≤ ·)) {i : Nat} {x v : Int} (hx : rs[i]? = some x) (hv : x < v) : rs.countP (fun y => decide (v ≤ y)) + i + 1 ≤ rs.length := by
  obtain ⟨hi, e⟩ := List.getElem?_eq_some_iff.mp hx
  have e2 : rs.countP (fun y => decide (v ≤ y)) = (rs.take (i + 1)).countP (fun y => decide (v ≤ y)) + (rs.drop (i + 1)).countP (fun y => decide (v ≤ y)) := by rw [← List.countP_append, List.take_append_drop]
  have e3 : (rs.take (i + 1)).countP (fun y => decide (v ≤ y)) = 0 := List.countP_eq_zero.mpr fun y hy => by
    obtain ⟨j, hj, ej⟩ := List.mem_iff_getElem.mp hy
    rw [List.getElem_take] at ej
    have hj2 : j < i + 1 := by rw [List.length_take] at hj; omega
    have : y ≤ x := by
      rw [← e, ← ej]
      rcases Nat.lt_or_ge j i with z | z
      · exact List.pairwise_iff_getElem.mp h j i (by omega) hi z
      · have : j = i := by omega
        subst this; exact Int.le_refl _
    simp
    omega
  have e4 := List.countP_le_length (p := fun y => decide (v ≤ y)) (l := rs.drop (i + 1))
  rw [List.length_drop] at e4
  rw [e2, e3]
  omega
theorem cnt_split {α : Type} {p q : α → Bool} : ∀ l : List α, l.countP p = l.countP (fun a => q a && p a) + l.countP (fun a => !q a && p a)
  | [] => rfl
  | a :: r => by
    rw [List.countP_cons, List.countP_cons, List.countP_cons, cnt_split r (q := q)]
    cases p a <;> cases q a <;> simp <;> omega
/-- with one's self, in a list of unlike ones -/
theorem ahead_len {ns : List Str} (nd : ns.Nodup) {ms : List (Option Str)} {n : Str} (hn : n ∈ ns) : (aheadOf ns ms n).length + 1 = (cts ns ms).countP fun y => decide (ct ms n ≤ y) := by
  unfold aheadOf cts
  rw [← List.countP_eq_length_filter, List.countP_map, cnt_split (q := fun o => decide (o ≠ n)) (p := (fun y => decide (ct ms n ≤ y)) ∘ ct ms) ns]
  have e1 : ns.countP (fun a => !decide (a ≠ n) && ((fun y => decide (ct ms n ≤ y)) ∘ ct ms) a) = ns.countP (fun a => a == n) := by
    congr 1
    funext a
    by_cases h : a = n
    · subst h; simp
    · simp [h]
  have e2 : ns.countP (fun a => a == n) = 1 := by
    have h1 : ns.count n = 1 := by rw [List.Nodup.count nd, if_pos hn]
    exact h1
  rw [e1, e2]
  rfl
/-- the outcome, by the rising counts -/
theorem due_none {ns : List Str} (nd : ns.Nodup) {k : Nat} {ms : List (Option Str)} {rs : List Int} {x : Int} (pm : rs.Perm (cts ns ms)) (pw : rs.Pairwise (· ≤ ·)) (k1 : 1 ≤ k) (kn : k < ns.length) (h1 : rs[ns.length - k]? = some x) (h0 : rs[ns.length - k - 1]? = some x) : due ns k ms = none := by
  have hl : rs.length = ns.length := by rw [pm.length_eq]; unfold cts; simp
  have up := high_cnt pw h1 (show x < x + 1 by omega)
  have sub : (inside ns k ms).length ≤ rs.countP (fun y => decide (x + 1 ≤ y)) := by
    have e : rs.countP (fun y => decide (x + 1 ≤ y)) = ns.countP fun n => decide (x + 1 ≤ ct ms n) := by
      rw [pm.countP_eq]
      unfold cts
      rw [List.countP_map]
      rfl
    rw [e]
    unfold inside
    rw [← List.countP_eq_length_filter]
    refine List.countP_mono_left fun n hn h => ?_
    have h := of_decide_eq_true h
    have al := ahead_len nd (ms := ms) hn
    refine decide_eq_true ?_
    rcases (show x < ct ms n ∨ ct ms n ≤ x by omega) with c | c
    · omega
    · have := low_cnt pw h0 c
      rw [pm.countP_eq] at this
      omega
  unfold due
  rw [if_pos (by omega)]
theorem due_some {ns : List Str} (nd : ns.Nodup) {k : Nat} {ms : List (Option Str)} {rs : List Int} {x y : Int} (pm : rs.Perm (cts ns ms)) (pw : rs.Pairwise (· ≤ ·)) (k1 : 1 ≤ k) (kn : k < ns.length) (h1 : rs[ns.length - k]? = some x) (h0 : rs[ns.length - k - 1]? = some y) (ne : y ≠ x) :
    due ns k ms = some (ns.filter fun n => decide (x ≤ ct ms n)) := by
  have hl : rs.length = ns.length := by rw [pm.length_eq]; unfold cts; simp
  have yx : y < x := by
    obtain ⟨i0, e0⟩ := List.getElem?_eq_some_iff.mp h0
    obtain ⟨i1, e1⟩ := List.getElem?_eq_some_iff.mp h1
    have := List.pairwise_iff_getElem.mp pw (ns.length - k - 1) (ns.length - k) i0 i1 (by omega)
    omega
  have lo := low_cnt pw h1 (Int.le_refl x)
  have hi := high_cnt pw h0 yx
  have e : rs.countP (fun z => decide (x ≤ z)) = ns.countP fun n => decide (x ≤ ct ms n) := by
    rw [pm.countP_eq]
    unfold cts
    rw [List.countP_map]
    rfl
  have ei : inside ns k ms = ns.filter fun n => decide (x ≤ ct ms n) := by
    unfold inside
    refine List.filter_congr fun n hn => ?_
    have al := ahead_len nd (ms := ms) hn
    rw [← pm.countP_eq] at al
    rw [decide_eq_decide]
    constructor
    · intro h
      rcases (show ct ms n < x ∨ x ≤ ct ms n by omega) with c | c
      · have c2 : ct ms n ≤ y ∨ y < ct ms n := by omega
        rcases c2 with c2 | c2
        · have := low_cnt pw h0 c2
          omega
        · -- between y and x: as many as from x on
          have e3 : rs.countP (fun z => decide (ct ms n ≤ z)) ≥ rs.countP (fun z => decide (x ≤ z)) + 1 := by
            have hm : ct ms n ∈ rs := pm.symm.mem_iff.mp (List.mem_map_of_mem hn)
            obtain ⟨j, hj, ej⟩ := List.mem_iff_getElem.mp hm
            have gj : rs[j]? = some (ct ms n) := by rw [List.getElem?_eq_getElem hj, ej]
            rcases Nat.lt_or_ge j (ns.length - k) with z | z
            · have := low_cnt pw gj (Int.le_refl _)
              have := high_cnt pw h0 yx
              omega
            · have : x ≤ ct ms n := by
                obtain ⟨i1, e1⟩ := List.getElem?_eq_some_iff.mp h1
                rcases Nat.eq_or_lt_of_le z with w | w
                · have : x = ct ms n := Option.some.inj (h1.symm.trans (by rw [w]; exact gj))
                  omega
                · have := List.pairwise_iff_getElem.mp pw (ns.length - k) j i1 hj w
                  omega
              omega
          omega
      · exact c
    · intro h
      have e4 : rs.countP (fun z => decide (ct ms n ≤ z)) ≤ rs.countP (fun z => decide (x ≤ z)) := List.countP_mono_left fun z _ hz => decide_eq_true (by have := of_decide_eq_true hz; omega)
      omega
  unfold due
  rw [ei, if_neg]
  rw [← List.countP_eq_length_filter]
  omega
/-- the count's own reading -/
theorem k_cnt {K : PySem.W.Frag} {H : Hp} {Q : VK} {p : Addr} {ms : List (Option Str)} {n : Str} (h : SqT K H p (ms.map Cm.mv)) (q : Q (.int (ct ms n)) H) : rCntT K (.ref p) (.str n) H Q := by
  obtain ⟨h1, h2⟩ := Cm.plain_md ms
  refine k_cntTx h (Cm.dpAll_mv ms) (.str n) h1 rfl (by omega) ?_
  rw [Cm.cnt_md]
  exact q
theorem k_cntL {K : PySem.W.Frag} {H : Hp} {Q : VK} {p : Addr} {ms : List (Option Str)} {n : Str} (h : SqL K H p (ms.map Cm.mv)) (q : Q (.int (ct ms n)) H) : rCntL K (.ref p) [.str n] H Q := Cm.k_cntM h q
theorem ct_le {ms : List (Option Str)} {n : Str} : 0 ≤ ct ms n ∧ ct ms n ≤ ms.length := by
  unfold ct
  have := List.countP_le_length (p := Cm.isN n) (l := ms)
  omega
theorem ct_rev (ms : List (Option Str)) (n : Str) : ct ms.reverse n = ct ms n := by
  unfold ct
  rw [List.countP_reverse]
theorem due_rev (ns : List Str) (k : Nat) (ms : List (Option Str)) : due ns k ms.reverse = due ns k ms := by
  have : ct ms.reverse = ct ms := funext (ct_rev ms)
  unfold due inside aheadOf
  rw [this]
theorem mk_names {ns : List Str} {H : Hp} {K : PySem.W.Frag} {p : Addr} (h : H p = some (.tup (ns.map V.str))) : SqT K H p (ns.map V.str) := SqT.of h
end Co
namespace Co
open PySem PySem.Spec PyProof.Rows L2 Gx
theorem sh_names {ns : List Str} (h : ∀ s ∈ ns, Pl.Nm s) : SeqAt.shaped (.tuple (ns.map .str)) = true := Dt.Sh.ok (k := 1) (Dt.sh_tup fun x hx => by
  obtain ⟨s, hs, rfl⟩ := List.mem_map.mp hx
  exact Dt.sh_str (h s hs).ok)
theorem due_sub {ns : List Str} {k : Nat} {ms : List (Option Str)} {o : List Str} (h : due ns k ms = some o) : ∀ s ∈ o, s ∈ ns := fun s hs => by
  unfold due at h
  split at h
  · cases h
  · rw [← Option.some.inj h] at hs
    exact (List.mem_filter.mp hs).1
/-! more than a share -/
def shareOut (ns : List Str) (s : Rat) (ms : List (Option Str)) : List Str := ns.filter fun n => decide (s.num * (cts ns ms).sum < ct ms n * (s.den : Int))
theorem sum_le {ms : List (Option Str)} : ∀ {ns : List Str}, 0 ≤ (cts ns ms).sum ∧ (cts ns ms).sum ≤ ((ns.length * ms.length : Nat) : Int)
  | [] => by simp [cts]
  | n :: r => by
    have ih := sum_le (ms := ms) (ns := r)
    have h := ct_le (ms := ms) (n := n)
    have e : (cts (n :: r) ms).sum = ct ms n + (cts r ms).sum := by simp [cts]
    rw [e, List.length_cons, Nat.succ_mul]
    omega
theorem cnt_or {P Q R : Option Str → Bool} : ∀ {ms : List (Option Str)}, (∀ m, P m = (Q m || R m)) → (∀ m, Q m = true → R m = false) → ms.countP P = ms.countP Q + ms.countP R
  | [], _, _ => rfl
  | m :: r, h, g => by
    have ih := cnt_or (ms := r) h g
    have gm := g m
    rw [List.countP_cons, List.countP_cons, List.countP_cons, ih, h m]
    cases e : Q m <;> cases e2 : R m <;> simp
    · omega
    · omega
    · rw [gm e] at e2; cases e2
theorem sum_cts {ms : List (Option Str)} : ∀ {ns : List Str}, ns.Nodup → (cts ns ms).sum = (ms.countP (Cm.inN ns) : Int)
  | [], _ => by
    have : ms.countP (Cm.inN []) = 0 := List.countP_eq_zero.mpr fun m _ => by simp [Cm.inN]
    rw [this]
    rfl
  | n :: r, nd => by
    have nd2 := List.nodup_cons.mp nd
    have ih := sum_cts (ms := ms) nd2.2
    have e : (cts (n :: r) ms).sum = ct ms n + (cts r ms).sum := by simp [cts]
    have k : ms.countP (Cm.inN (n :: r)) = ms.countP (Cm.isN n) + ms.countP (Cm.inN r) := cnt_or (fun m => by
      rw [Bool.eq_iff_iff]
      simp only [Cm.inN, Cm.isN, Bool.or_eq_true, decide_eq_true_eq, List.mem_cons]
      constructor
      · rintro ⟨k, e | h, z⟩
        · exact .inl (by rw [z, e])
        · exact .inr ⟨k, h, z⟩
      · rintro (z | ⟨k, h, z⟩)
        · exact ⟨n, .inl rfl, z⟩
        · exact ⟨k, .inr h, z⟩) (fun m h => by
      have h : m = some n := of_decide_eq_true h
      refine decide_eq_false ?_
      rintro ⟨k, hk, z⟩
      rw [h] at z
      exact nd2.1 (Option.some.inj z ▸ hk))
    rw [e, ih, k]
    unfold ct
    omega
theorem ct_more {ns : List Str} (hnm : ∀ s ∈ ns, Pl.Nm s) {xs ms : List (Option Str)} (hx : ∀ m ∈ xs, m = none ∨ m = some (Str.ofString "")) : cts ns (xs ++ ms) = cts ns ms := by
  unfold cts
  refine List.map_congr_left fun n hn => ?_
  unfold ct
  rw [List.countP_append]
  have : xs.countP (Cm.isN n) = 0 := List.countP_eq_zero.mpr fun m hm => by
    rcases hx m hm with e | e
    · rw [e]; simp [Cm.isN]
    · rw [e]
      have := Cm.ne_e (hnm n hn)
      simp [Cm.isN]
      exact fun z => this z.symm
  rw [this]
  omega
theorem shareOut_congr {ns : List Str} {s : Rat} {us ms : List (Option Str)} (h : cts ns us = cts ns ms) : shareOut ns s us = shareOut ns s ms := by
  unfold shareOut
  rw [h]
  refine List.filter_congr fun n hn => ?_
  have e : ct us n = ct ms n := by
    obtain ⟨i, hi, e⟩ := List.mem_iff_getElem.mp hn
    have h2 := congrArg (fun l => l[i]?) h
    simp only [cts, List.getElem?_map, List.getElem?_eq_getElem hi, Option.map_some, e] at h2
    exact Option.some.inj h2
  rw [e]
theorem cts_rev (ns : List Str) (ms : List (Option Str)) : cts ns ms.reverse = cts ns ms := by
  unfold cts
  exact List.map_congr_left fun n _ => ct_rev ms n
end Co
namespace Co
open PySem PySem.Spec PyProof.Rows L2 Gx
/-! claims of outcomes -/
def has (os : List Str) (n : Str) : Bool := Cm.inN os (some n)
theorem has_iff {os : List Str} {n : Str} : has os n = true ↔ n ∈ os := by
  unfold has Cm.inN
  rw [decide_eq_true_eq]
  constructor
  · rintro ⟨k, h, e⟩
    rw [Option.some.inj e]; exact h
  · intro h
    exact ⟨n, h, rfl⟩
theorem k_has {K : PySem.W.Frag} {H : Hp} {Q : VK} {p : Addr} {os : List Str} {n : Str} (h : SqL K H p (os.map V.str) ∨ SqT K H p (os.map V.str)) (q : Q (.bl (has os n)) H) : rInU K (.str n) (.ref p) H Q := k_in h rfl (Cm.flat_strs os) (Cm.in_mv (some n) os) q
theorem k_nothas {K : PySem.W.Frag} {H : Hp} {Q : VK} {p : Addr} {os : List Str} {n : Str} (h : SqL K H p (os.map V.str) ∨ SqT K H p (os.map V.str)) (q : Q (.bl (!has os n)) H) : rNiU K (.str n) (.ref p) H Q := k_ni h rfl (Cm.flat_strs os) (Cm.in_mv (some n) os) q
def fit (ns : List Str) (k : Nat) (os : List Str) : Prop := os.length = k ∧ os = ns.filter (has os)
theorem eqv_strs : ∀ xs ys : List Str, PyData.eqvAll (xs.map .str) (ys.map .str) = decide (xs = ys)
  | [], [] => by simp [PyData.eqvAll]
  | [], y :: ys => by simp [PyData.eqvAll]
  | x :: xs, [] => by simp [PyData.eqvAll]
  | x :: xs, y :: ys => by
    rw [List.map_cons, List.map_cons]
    simp only [PyData.eqvAll, eqv_strs xs ys]
    by_cases h : x = y <;> by_cases g : xs = ys <;> simp [PyData.eqv, h, g]
theorem eqv_tup (xs ys : List Str) : PyData.eqv (.tuple (xs.map .str)) (.tuple (ys.map .str)) = decide (xs = ys) := by
  rw [← eqv_strs]
  simp [PyData.eqv]
theorem eqv_lst (xs ys : List Str) : PyData.eqv (.list (xs.map .str)) (.list (ys.map .str)) = decide (xs = ys) := by
  rw [← eqv_strs]
  simp [PyData.eqv]
/-- the claims of an outcome -/
def mostA (ns os xs : List Str) : List Cm.C := xs.flatMap fun o => (ns.filter fun t => !has os t).map fun t => .beats o t
def mostC (ns os : List Str) : List Cm.C := mostA ns os os
def partC (ns : List Str) (s : Rat) (os : List Str) : List Cm.C := if os = [] then ns.map (.under · s) else os.map (.over · s)
/-- claims at some addresses -/
def Cls (K : PySem.W.Frag) (H : Hp) (vs : List V) (cs : List Cm.C) : Prop := PySem.Paired (fun v c => ∃ a, v = V.ref a ∧ Cm.At K H a c) vs cs
theorem Cls.same {K : PySem.W.Frag} {H H' : Hp} (e : Same H H') : ∀ {vs : List V} {cs : List Cm.C}, Cls K H vs cs → Cls K H' vs cs
  | _, _, .nil => .nil
  | _, _, .cons ⟨a, h, g⟩ r => .cons ⟨a, h, g.same e⟩ (Cls.same e r)
theorem Cls.but {K : PySem.W.Frag} {H H' : Hp} {l : Addr} {ys : List V} (b : But l H H') (hl : H l = some (.lst ys)) : ∀ {vs : List V} {cs : List Cm.C}, Cls K H vs cs → Cls K H' vs cs
  | _, _, .nil => .nil
  | _, _, .cons ⟨a, h, g⟩ r => .cons ⟨a, h, g.but b hl⟩ (Cls.but b hl r)
theorem Cls.snoc {K : PySem.W.Frag} {H : Hp} {a : Addr} {c : Cm.C} (h : Cm.At K H a c) : ∀ {vs : List V} {cs : List Cm.C}, Cls K H vs cs → Cls K H (vs ++ [.ref a]) (cs ++ [c])
  | _, _, .nil => .cons ⟨a, rfl, h⟩ .nil
  | _, _, .cons x r => .cons x (Cls.snoc h r)
theorem Cls.len {K : PySem.W.Frag} {H : Hp} {vs : List V} {cs : List Cm.C} (h : Cls K H vs cs) : vs.length = cs.length := PySem.Paired.length h
theorem Cls.get {K : PySem.W.Frag} {H : Hp} : ∀ {vs : List V} {cs : List Cm.C} {i : Nat} {v : V}, Cls K H vs cs → vs[i]? = some v → ∃ a c, v = .ref a ∧ cs[i]? = some c ∧ Cm.At K H a c
  | _, _, 0, v, .cons (b := c) ⟨a, h1, h2⟩ r, e => ⟨a, c, (Option.some.inj e).symm.trans h1, rfl, h2⟩
  | _, _, i + 1, v, .cons ⟨a, h1, h2⟩ r, e => Cls.get (i := i) r e
theorem most_len {ns os xs : List Str} : (mostA ns os xs).length ≤ xs.length * ns.length := by
  unfold mostA
  rw [List.length_flatMap]
  have h : ∀ l : List Str, (l.map fun o => ((ns.filter fun t => !has os t).map fun t => Cm.C.beats o t).length).sum ≤ l.length * ns.length := fun l => by
    induction l with
    | nil => simp
    | cons o r ih =>
      rw [List.map_cons, List.sum_cons, List.length_cons, Nat.succ_mul]
      have : ((ns.filter fun t => !has os t).map fun t => Cm.C.beats o t).length ≤ ns.length := by rw [List.length_map]; exact List.length_filter_le ..
      omega
  exact h xs
/-- some of the names, in their order -/
theorem sub_filter : ∀ {ns os : List Str}, os.Sublist ns → ns.Nodup → os = ns.filter (has os)
  | [], os, h, _ => by rw [List.sublist_nil.mp h]; rfl
  | n :: r, os, h, nd => by
    have nd2 := List.nodup_cons.mp nd
    cases h with
    | cons _ h2 =>
      have ih := sub_filter h2 nd2.2
      have : has os n = false := by
        cases e : has os n with
        | false => rfl
        | true => exact absurd (h2.subset (has_iff.mp e)) nd2.1
      rw [List.filter_cons, this]
      exact ih
    | cons_cons _ h2 =>
      rename_i t
      have ih := sub_filter h2 nd2.2
      have : has (n :: t) n = true := has_iff.mpr (List.mem_cons_self ..)
      rw [List.filter_cons, if_pos this]
      have e : r.filter (has (n :: t)) = r.filter (has t) := List.filter_congr fun x hx => by
        rw [Bool.eq_iff_iff, has_iff, has_iff, List.mem_cons]
        constructor
        · rintro (z | z)
          · exact absurd (z ▸ hx) nd2.1
          · exact z
        · exact .inr
      rw [e, ← ih]
end Co
namespace Co
open PySem PySem.Spec PyProof.Rows L2 Gx
/-! claims as texts -/
def word : Cm.C → Str
  | .claim => "none"
  | .beats _ _ => "beats"
  | .over _ _ => "over"
  | .under _ _ => "under"
def shown : Cm.C → Str
  | .claim => "nothing"
  | .beats o t => o ++ Str.ofString " beats " ++ t
  | .over n s => n ++ Str.ofString " over " ++ Cm.sf s
  | .under n s => n ++ Str.ofString " under " ++ Cm.sf s
def Short : Cm.C → Prop
  | .claim => True
  | .beats o t => o.length ≤ 1000 ∧ t.length ≤ 1000
  | .over n s => n.length ≤ 1000 ∧ Fr.Sz 20 s
  | .under n s => n.length ≤ 1000 ∧ Fr.Sz 20 s
end Co
namespace Co
open PySem PySem.Spec PyProof.Rows L2 Gx
/-! outcomes and claims, in plain words -/
theorem least {α : Type} (f : α → Int) : ∀ l : List α, l ≠ [] → ∃ m ∈ l, ∀ y ∈ l, f m ≤ f y
  | [], h => absurd rfl h
  | [a], _ => ⟨a, List.mem_cons_self .., fun y hy => by rw [List.mem_singleton.mp hy]; exact Int.le_refl _⟩
  | a :: b :: r, _ => by
    obtain ⟨m, hm, h⟩ := least f (b :: r) (by simp)
    by_cases c : f a ≤ f m
    · refine ⟨a, List.mem_cons_self .., fun y hy => ?_⟩
      rcases List.mem_cons.mp hy with e | e
      · rw [e]; exact Int.le_refl _
      · have := h y e; omega
    · refine ⟨m, List.mem_cons_of_mem _ hm, fun y hy => ?_⟩
      rcases List.mem_cons.mp hy with e | e
      · rw [e]; omega
      · exact h y e
theorem nodup_le {α : Type} [BEq α] [LawfulBEq α] : ∀ {a b : List α}, a.Nodup → (∀ x ∈ a, x ∈ b) → a.length ≤ b.length
  | [], _, _, _ => Nat.zero_le _
  | x :: r, b, nd, h => by
    have nd2 := List.nodup_cons.mp nd
    have hx := h x (List.mem_cons_self ..)
    have ih := nodup_le (a := r) (b := b.erase x) nd2.2 fun y hy => by
      have ne : y ≠ x := fun e => nd2.1 (e ▸ hy)
      exact (List.mem_erase_of_ne ne).mpr (h y (List.mem_cons_of_mem _ hy))
    rw [List.length_erase_of_mem hx] at ih
    have : 0 < b.length := List.length_pos_of_mem hx
    simp only [List.length_cons]
    omega
theorem mem_ahead {ns : List Str} {ms : List (Option Str)} {n o : Str} : o ∈ aheadOf ns ms n ↔ o ∈ ns ∧ o ≠ n ∧ ct ms n ≤ ct ms o := by
  unfold aheadOf
  rw [List.mem_filter]
  simp
theorem mem_inside {ns : List Str} {k : Nat} {ms : List (Option Str)} {n : Str} : n ∈ inside ns k ms ↔ n ∈ ns ∧ (aheadOf ns ms n).length < k := by
  unfold inside
  rw [List.mem_filter]
  simp
theorem nodup_filter {ns : List Str} (nd : ns.Nodup) (p : Str → Bool) : (ns.filter p).Nodup := nd.filter p
theorem inside_len {ns : List Str} (nd : ns.Nodup) {k : Nat} (k1 : 1 ≤ k) (ms : List (Option Str)) : (inside ns k ms).length ≤ k := by
  by_cases e : inside ns k ms = []
  · rw [e]; exact Nat.zero_le _
  obtain ⟨m, hm, hl⟩ := least (ct ms) _ e
  have h1 := mem_inside.mp hm
  have nd1 : (inside ns k ms).Nodup := nd.filter _
  have h2 := nodup_le (a := (inside ns k ms).erase m) (b := aheadOf ns ms m) (nd1.erase m) fun y hy => by
    have hy2 := List.mem_of_mem_erase hy
    have ne : y ≠ m := fun e => by
      rw [e] at hy
      exact (List.Nodup.not_mem_erase nd1) hy
    exact mem_ahead.mpr ⟨(mem_inside.mp hy2).1, ne, hl y hy2⟩
  rw [List.length_erase_of_mem hm] at h2
  omega
theorem due_fit {ns : List Str} (nd : ns.Nodup) {k : Nat} (k1 : 1 ≤ k) {ms : List (Option Str)} {o : List Str} (h : due ns k ms = some o) : fit ns k o := by
  unfold due at h
  split at h
  · cases h
  · rw [← Option.some.inj h]
    have := inside_len nd k1 ms
    exact ⟨by omega, sub_filter List.filter_sublist nd⟩
/-- the claims of an outcome that fits: all hold just where it is the outcome -/
theorem all_due {ns : List Str} (nd : ns.Nodup) {k : Nat} (k1 : 1 ≤ k) {ms : List (Option Str)} {os : List Str} (ft : fit ns k os) : (∀ o ∈ os, ∀ t ∈ ns, t ∉ os → ct ms t < ct ms o) ↔ due ns k ms = some os := by
  have hin : ∀ n, n ∈ os ↔ n ∈ ns ∧ has os n = true := fun n => by
    constructor
    · intro h
      rw [ft.2] at h
      exact List.mem_filter.mp h
    · intro h
      exact has_iff.mp h.2
  have ndo : os.Nodup := by rw [ft.2]; exact nd.filter _
  constructor
  · intro h
    have e : inside ns k ms = os := by
      have e2 : inside ns k ms = ns.filter (has os) := by
        unfold inside
        refine List.filter_congr fun n hn => ?_
        rw [Bool.eq_iff_iff, decide_eq_true_eq, has_iff]
        constructor
        · intro c
          rcases Classical.em (n ∈ os) with z | z
          · exact z
          · have h2 := nodup_le (a := os) (b := aheadOf ns ms n) ndo fun y hy => mem_ahead.mpr ⟨((hin y).mp hy).1, fun e => z (e ▸ hy), by have := h y hy n hn z; omega⟩
            rw [ft.1] at h2
            omega
        · intro z
          have ndA : (aheadOf ns ms n).Nodup := nd.filter _
          have h2 := nodup_le (a := aheadOf ns ms n) (b := os.erase n) ndA fun y hy => by
            obtain ⟨y1, y2, y3⟩ := mem_ahead.mp hy
            refine (List.mem_erase_of_ne y2).mpr ?_
            rcases Classical.em (y ∈ os) with w | w
            · exact w
            · have := h n z y y1 w; omega
          rw [List.length_erase_of_mem z, ft.1] at h2
          omega
      rw [e2]
      exact ft.2.symm
    unfold due
    rw [e, if_neg (by have := ft.1; omega)]
  · intro h o ho t ht hto
    have e : inside ns k ms = os := by
      unfold due at h
      split at h
      · cases h
      · exact Option.some.inj h
    rcases Int.lt_or_le (ct ms t) (ct ms o) with c | c
    · exact c
    · exfalso
      obtain ⟨m, hm, hl⟩ := least (ct ms) os (fun z => by rw [z] at ho; cases ho)
      have hmi : m ∈ inside ns k ms := by rw [e]; exact hm
      obtain ⟨m1, m2⟩ := mem_inside.mp hmi
      have h2 := nodup_le (a := t :: os.erase m) (b := aheadOf ns ms m) (List.nodup_cons.mpr ⟨fun z => hto (List.mem_of_mem_erase z), ndo.erase m⟩) fun y hy => by
        rcases List.mem_cons.mp hy with z | z
        · subst z
          have := hl o ho
          exact mem_ahead.mpr ⟨ht, fun e => hto (e ▸ hm), by omega⟩
        · have hy2 := List.mem_of_mem_erase z
          refine mem_ahead.mpr ⟨((hin y).mp hy2).1, fun e => ?_, hl y hy2⟩
          rw [e] at z
          exact (List.Nodup.not_mem_erase ndo) z
      rw [List.length_cons, List.length_erase_of_mem hm, ft.1] at h2
      omega
/-! none lacking -/
def Bare (ns : List Str) (ms : List (Option Str)) : Prop := ∀ m ∈ ms, Cm.Mk ns false m
theorem bare_there {ns : List Str} (hnm : ∀ s ∈ ns, Pl.Nm s) {ms : List (Option Str)} (h : Bare ns ms) : ms.countP Cm.there = ms.length := List.countP_eq_length.mpr fun m hm => by
  rcases h m hm with ⟨n, hn, e⟩ | e | e | ⟨z, _⟩
  · subst e
    unfold Cm.there
    rw [decide_eq_false (fun e => Cm.ne_q (hnm n hn) (Option.some.inj e))]
    rfl
  · subst e; decide +kernel
  · subst e; decide +kernel
  · cases z
theorem bare_named {ns : List Str} (hnm : ∀ s ∈ ns, Pl.Nm s) {ms : List (Option Str)} (h : Bare ns ms) : ms.countP (Cm.inN ns) + ms.countP Cm.bare = ms.length := Cm.cnt_all fun m hm => by
  rcases h m hm with ⟨n, hn, e⟩ | e | e | ⟨z, _⟩
  · subst e
    have e1 : Cm.inN ns (some n) = true := decide_eq_true ⟨n, hn, rfl⟩
    have e2 : Cm.bare (some n) = false := by unfold Cm.bare; rw [decide_eq_false (fun e => Cm.ne_e (hnm n hn) (Option.some.inj e))]; rfl
    rw [e1, e2]
    exact Iff.intro (fun _ => rfl) (fun _ => rfl)
  · subst e
    have e1 : Cm.inN ns (some (Str.ofString "")) = false := decide_eq_false (fun ⟨n, hn, e⟩ => Cm.ne_e (hnm n hn) (Option.some.inj e).symm)
    rw [e1]
    exact Iff.intro (fun z => nomatch z) (fun z => absurd z (by decide +kernel))
  · subst e
    have e1 : Cm.inN ns none = false := decide_eq_false (fun ⟨n, hn, e⟩ => nomatch e)
    rw [e1]
    exact Iff.intro (fun z => nomatch z) (fun z => absurd z (by decide +kernel))
  · cases z
theorem beats_iff {ns : List Str} (hnm : ∀ s ∈ ns, Pl.Nm s) {ms : List (Option Str)} (h : Bare ns ms) {o t : Str} (ho : o ∈ ns) (ht : t ∈ ns) (ne : o ≠ t) : Cm.holds (.beats o t) ms ↔ ct ms t < ct ms o := by
  rw [Cm.holds_beats (Cm.ne_q (hnm o ho)) (Cm.ne_q (hnm t ht)) ne, bare_there hnm h]
  unfold ct
  omega
/-- all claims hold -/
def All (cs : List Cm.C) (ms : List (Option Str)) : Prop := ∀ c ∈ cs, Cm.holds c ms
instance (cs : List Cm.C) (ms : List (Option Str)) : Decidable (All cs ms) := inferInstanceAs (Decidable (∀ c ∈ cs, Cm.holds c ms))
theorem most_all {ns : List Str} (nd : ns.Nodup) (hnm : ∀ s ∈ ns, Pl.Nm s) {k : Nat} (k1 : 1 ≤ k) {ms : List (Option Str)} (h : Bare ns ms) {os : List Str} (ft : fit ns k os) : All (mostC ns os) ms ↔ due ns k ms = some os := by
  have sub : ∀ o ∈ os, o ∈ ns := fun o ho => by rw [ft.2] at ho; exact (List.mem_filter.mp ho).1
  rw [← all_due nd k1 ft]
  constructor
  · intro a o ho t ht hto
    have ne : o ≠ t := fun e => hto (e ▸ ho)
    refine (beats_iff hnm h (sub o ho) ht ne).mp (a _ ?_)
    unfold mostC mostA
    refine List.mem_flatMap.mpr ⟨o, ho, List.mem_map.mpr ⟨t, List.mem_filter.mpr ⟨ht, ?_⟩, rfl⟩⟩
    cases e : has os t with
    | false => rfl
    | true => exact absurd (has_iff.mp e) hto
  · intro a c hc
    unfold mostC mostA at hc
    obtain ⟨o, ho, hc⟩ := List.mem_flatMap.mp hc
    obtain ⟨t, ht, rfl⟩ := List.mem_map.mp hc
    obtain ⟨ht, hn⟩ := List.mem_filter.mp ht
    have hto : t ∉ os := fun z => by rw [has_iff.mpr z] at hn; cases hn
    exact (beats_iff hnm h (sub o ho) ht (fun e => hto (e ▸ ho))).mpr (a o ho t ht hto)
/-! shares -/
theorem two_le {ns : List Str} (nd : ns.Nodup) {ms : List (Option Str)} {a b : Str} (ha : a ∈ ns) (hb : b ∈ ns) (ne : a ≠ b) : ct ms a + ct ms b ≤ (cts ns ms).sum := by
  induction ns with
  | nil => cases ha
  | cons n r ih =>
    have nd2 := List.nodup_cons.mp nd
    have e : (cts (n :: r) ms).sum = ct ms n + (cts r ms).sum := by simp [cts]
    have one : ∀ {l : List Str} {x : Str}, x ∈ l → ct ms x ≤ (cts l ms).sum := fun {l x} hx => by
      induction l with
      | nil => cases hx
      | cons y l ih2 =>
        have e : (cts (y :: l) ms).sum = ct ms y + (cts l ms).sum := by simp [cts]
        have p := ct_le (ms := ms) (n := y)
        have q := (sum_le (ms := ms) (ns := l)).1
        rcases List.mem_cons.mp hx with z | z
        · subst z; omega
        · have := ih2 z; omega
    have p := ct_le (ms := ms) (n := n)
    rcases List.mem_cons.mp ha with z | z
    · subst z
      rcases List.mem_cons.mp hb with w | w
      · exact absurd w.symm ne
      · have := one w; omega
    · rcases List.mem_cons.mp hb with w | w
      · subst w; have := one z; omega
      · have := ih nd2.2 z w; omega
theorem share_one {ns : List Str} (nd : ns.Nodup) {s : Rat} (h2 : (s.den : Int) ≤ 2 * s.num) {ms : List (Option Str)} {a b : Str} (ha : a ∈ shareOut ns s ms) (hb : b ∈ shareOut ns s ms) : a = b := by
  rcases Classical.em (a = b) with e | ne
  · exact e
  · exfalso
    unfold shareOut at ha hb
    obtain ⟨a1, a2⟩ := List.mem_filter.mp ha
    obtain ⟨b1, b2⟩ := List.mem_filter.mp hb
    have a2 := of_decide_eq_true a2
    have b2 := of_decide_eq_true b2
    have hs := two_le nd (ms := ms) a1 b1 ne
    have d1 : (0 : Int) < s.den := by have := s.den_nz; omega
    have e1 : (ct ms a + ct ms b) * (s.den : Int) ≤ (cts ns ms).sum * (s.den : Int) := Int.mul_le_mul_of_nonneg_right hs (by omega)
    have q := (sum_le (ms := ms) (ns := ns)).1
    have e2 : (cts ns ms).sum * (s.den : Int) ≤ (cts ns ms).sum * (2 * s.num) := Int.mul_le_mul_of_nonneg_left h2 q
    rw [Int.add_mul] at e1
    have e3 : (cts ns ms).sum * (2 * s.num) = s.num * (cts ns ms).sum + s.num * (cts ns ms).sum := by
      rw [Int.mul_comm _ (2 * s.num), Int.mul_assoc, Int.two_mul]
    omega
theorem share_fit {ns : List Str} (nd : ns.Nodup) {s : Rat} (h2 : (s.den : Int) ≤ 2 * s.num) (ms : List (Option Str)) : shareOut ns s ms = [] ∨ ∃ o ∈ ns, shareOut ns s ms = [o] := by
  cases e : shareOut ns s ms with
  | nil => exact .inl rfl
  | cons a r =>
    have ha : a ∈ shareOut ns s ms := by rw [e]; exact List.mem_cons_self ..
    refine .inr ⟨a, (List.mem_filter.mp ha).1, ?_⟩
    cases r with
    | nil => rfl
    | cons b r =>
      have hb : b ∈ shareOut ns s ms := by rw [e]; simp
      have ab := share_one nd h2 ha hb
      have ndS : (shareOut ns s ms).Nodup := nd.filter _
      rw [e, ab] at ndS
      exact absurd (List.mem_cons_self ..) (List.nodup_cons.mp ndS).1
theorem over_iff {ns : List Str} (nd : ns.Nodup) (hnm : ∀ s ∈ ns, Pl.Nm s) {ms : List (Option Str)} (h : Bare ns ms) {s : Rat} (s0 : 0 < s) {n : Str} (hn : n ∈ ns) : Cm.holds (.over n s) ms ↔ n ∈ shareOut ns s ms := by
  rw [Cm.holds_over (Cm.ne_q (hnm n hn)) (Cm.ne_e (hnm n hn)) s0]
  unfold shareOut
  rw [List.mem_filter, decide_eq_true_eq, sum_cts nd]
  have e := bare_named hnm h
  have e2 : (ms.length : Int) = (ms.countP (Cm.inN ns) : Int) + (ms.countP Cm.bare : Int) := by omega
  rw [e2, Int.add_mul, Int.mul_comm s.num]
  show _ ↔ n ∈ ns ∧ _ < (ms.countP (Cm.isN n) : Int) * (s.den : Int)
  constructor
  · intro z; exact ⟨hn, by omega⟩
  · intro z; have := z.2; omega
theorem under_not {ns : List Str} (nd : ns.Nodup) (hnm : ∀ s ∈ ns, Pl.Nm s) {ms : List (Option Str)} (h : Bare ns ms) {s : Rat} (s1 : s < 1) {n : Str} (hn : n ∈ ns) (g : Cm.holds (.under n s) ms) : n ∉ shareOut ns s ms := fun z => by
  rw [Cm.holds_under (Cm.ne_q (hnm n hn)) (Cm.ne_e (hnm n hn)) s1, bare_there hnm h] at g
  have z2 := of_decide_eq_true (List.mem_filter.mp z).2
  rw [sum_cts nd] at z2
  have e := bare_named hnm h
  have e2 : (ms.length : Int) = (ms.countP (Cm.inN ns) : Int) + (ms.countP Cm.bare : Int) := by omega
  have z3 : s.num * (ms.countP (Cm.inN ns) : Int) < (ms.countP (Cm.isN n) : Int) * (s.den : Int) := z2
  rw [e2] at g
  generalize (ms.countP (Cm.inN ns) : Int) = N at g z3
  generalize (ms.countP Cm.bare : Int) = B at g
  generalize (ms.countP (Cm.isN n) : Int) = C at g z3
  generalize (s.den : Int) = d at g z3
  generalize s.num = p at g z3
  have a1 : (N + B) * (d - p) = N * d - N * p + B * (d - p) := by rw [Int.add_mul, Int.mul_sub]
  have a2 : (N + B - B - C) * d = N * d - C * d := by rw [show N + B - B - C = N - C by omega, Int.sub_mul]
  rw [a1, a2] at g
  rw [Int.mul_comm p N] at z3
  omega
theorem part_all {ns : List Str} (nd : ns.Nodup) (hnm : ∀ s ∈ ns, Pl.Nm s) {ms : List (Option Str)} (h : Bare ns ms) {s : Rat} (s0 : 0 < s) (s1 : s < 1) (h2 : (s.den : Int) ≤ 2 * s.num) {os : List Str} (ft : os = [] ∨ ∃ o ∈ ns, os = [o]) (a : All (partC ns s os) ms) : shareOut ns s ms = os := by
  rcases ft with e | ⟨o, ho, e⟩
  · subst e
    have a : ∀ c ∈ ns.map (Cm.C.under · s), Cm.holds c ms := by
      intro c hc
      exact a c (by unfold partC; rw [if_pos rfl]; exact hc)
    rcases share_fit nd h2 ms with z | ⟨n, hn, z⟩
    · exact z
    · exact absurd (by rw [z]; exact List.mem_cons_self ..) (under_not nd hnm h s1 hn (a _ (List.mem_map_of_mem hn)))
  · subst e
    have hm := (over_iff nd hnm h s0 ho).mp (a _ (by unfold partC; rw [if_neg (by simp)]; exact List.mem_cons_self ..))
    rcases share_fit nd h2 ms with z | ⟨n, hn, z⟩
    · rw [z] at hm; cases hm
    · rw [z] at hm ⊢
      rw [List.mem_singleton.mp hm]
theorem den_le {p w : Int} (h1 : 1 ≤ p) (h2 : p < w) (h3 : w ≤ 2 * p) : ((Rat.divInt p w).den : Int) ≤ 2 * (Rat.divInt p w).num := by
  have e : (Rat.divInt p w).num * w = p * ((Rat.divInt p w).den : Int) := by
    have : Rat.divInt p w = Rat.divInt (Rat.divInt p w).num ((Rat.divInt p w).den : Int) := (Rat.num_divInt_den _).symm
    have z := (Rat.divInt_eq_divInt_iff (by omega) (by have := (Rat.divInt p w).den_nz; omega)).mp this
    rw [z]
  generalize (Rat.divInt p w).num = n at *
  have d0 : (0 : Int) ≤ ((Rat.divInt p w).den : Int) := by omega
  generalize ((Rat.divInt p w).den : Int) = d at *
  have a1 : w * d ≤ 2 * p * d := Int.mul_le_mul_of_nonneg_right h3 d0
  have a2 : 2 * p * d = w * (2 * n) := by rw [Int.mul_assoc, ← e, Int.mul_comm n w, ← Int.mul_assoc, Int.mul_comm 2 w, Int.mul_assoc]
  rw [a2] at a1
  exact Int.le_of_mul_le_mul_left a1 (by omega)
theorem said_bare {cs : List Cm.C} {n : Nat} (hok : ∀ c ∈ cs, Cm.Ok n c) {ms ms' : List (Option Str)} (p : PySem.Paired Cm.Said ms ms') (h : All cs ms) : All cs ms' := fun c hc => Cm.holds_said c (hok c hc) p (h c hc)
end Co
namespace Co
open PySem PySem.Spec PyProof.Rows L2 Gx
/-! both sorts of contests -/
def Good (ns : List Str) (c : C) : Prop := (∃ k, c = .most ns k ∧ 1 ≤ k ∧ k < ns.length) ∨ (∃ s, c = .part ns s ∧ 0 < s ∧ s < 1 ∧ (s.den : Int) ≤ 2 * s.num ∧ Fr.Sz 20 s)
def claimsC : C → List Str → List Cm.C
  | .bare _, _ => []
  | .most ns _, os => mostC ns os
  | .part ns s, os => partC ns s os
def outC : C → List (Option Str) → Option (List Str)
  | .bare _, _ => none
  | .most ns k, ms => due ns k ms
  | .part ns s, ms => some (shareOut ns s ms)
def fitC : C → List Str → Prop
  | .bare _, _ => False
  | .most ns k, os => fit ns k os
  | .part ns _, os => os = [] ∨ ∃ o ∈ ns, os = [o]
def isMost : C → Bool
  | .most _ _ => true
  | _ => false
theorem fit_names {ns : List Str} {c : C} (g : Good ns c) {os : List Str} (h : fitC c os) : (∀ o ∈ os, o ∈ ns) ∧ os.length ≤ ns.length := by
  rcases g with ⟨k, rfl, k1, k2⟩ | ⟨s, rfl, _⟩
  · have h : fit ns k os := h
    refine ⟨fun o ho => ?_, by have := h.1; omega⟩
    rw [h.2] at ho
    exact (List.mem_filter.mp ho).1
  · rcases h with e | ⟨o, ho, e⟩
    · subst e; exact ⟨fun _ z => (nomatch z), Nat.zero_le _⟩
    · subst e
      exact ⟨fun x hx => by rw [List.mem_singleton.mp hx]; exact ho, List.length_pos_of_mem ho⟩
theorem out_fit {ns : List Str} (nd : ns.Nodup) {c : C} (g : Good ns c) {ms : List (Option Str)} {o : List Str} (h : outC c ms = some o) : fitC c o := by
  rcases g with ⟨k, rfl, k1, k2⟩ | ⟨s, rfl, _, _, h2, _⟩
  · exact due_fit nd k1 h
  · have e : shareOut ns s ms = o := Option.some.inj h
    have := share_fit nd h2 ms
    rw [e] at this
    exact this
theorem ok_claims {ns : List Str} {c : C} (g : Good ns c) {os : List Str} : ∀ cl ∈ claimsC c os, Cm.Ok 20 cl := fun cl hc => by
  rcases g with ⟨k, rfl, k1, k2⟩ | ⟨s, rfl, s0, s1, h2, sz⟩
  · obtain ⟨o, _, hc⟩ := List.mem_flatMap.mp hc
    obtain ⟨t, _, rfl⟩ := List.mem_map.mp hc
    trivial
  · have hc : cl ∈ partC ns s os := hc
    unfold partC at hc
    split at hc
    · obtain ⟨n, _, rfl⟩ := List.mem_map.mp hc
      exact ⟨s0, s1, sz⟩
    · obtain ⟨n, _, rfl⟩ := List.mem_map.mp hc
      exact ⟨s0, s1, sz⟩
theorem whole {ns : List Str} (nd : ns.Nodup) (hnm : ∀ s ∈ ns, Pl.Nm s) {c : C} (g : Good ns c) {ms : List (Option Str)} (h : Bare ns ms) {os : List Str} (ft : fitC c os) (a : All (claimsC c os) ms) : outC c ms = some os := by
  rcases g with ⟨k, rfl, k1, k2⟩ | ⟨s, rfl, s0, s1, h2, sz⟩
  · exact (most_all nd hnm k1 h ft).mp a
  · exact congrArg some (part_all nd hnm h s0 s1 h2 ft a)
theorem whole_most {ns : List Str} (nd : ns.Nodup) (hnm : ∀ s ∈ ns, Pl.Nm s) {c : C} (g : Good ns c) (m : isMost c = true) {ms : List (Option Str)} (h : Bare ns ms) {os : List Str} (ft : fitC c os) : decide (All (claimsC c os) ms) = decide (outC c ms = some os) := by
  rcases g with ⟨k, rfl, k1, k2⟩ | ⟨s, rfl, _⟩
  · exact decide_eq_decide.mpr (most_all nd hnm k1 h ft)
  · cases m
end Co
namespace Co
open PySem PySem.Spec PyProof.Rows L2 Gx
/-! contests as a law tells them -/
def kind : C → Str
  | .bare _ => Str.ofString ""
  | .most _ _ => Str.ofString "most"
  | .part _ _ => Str.ofString "over"
def Pv (K : PySem.W.Frag) (H : Hp) (v : V) : C → Prop
  | .bare _ => False
  | .most _ k => v = .int (k : Int)
  | .part _ s => ∃ z, v = .ref z ∧ SqT K H z (Fr.fq s)
def Kt (K : PySem.W.Frag) (H : Hp) (p : Addr) (c : C) : Prop := ∃ q v, SqT K H p [.str (kind c), .ref q, v] ∧ SqT K H q ((names c).map V.str) ∧ Pv K H v c
theorem Pv.same {K : PySem.W.Frag} {H H' : Hp} (e : Same H H') {v : V} : ∀ {c : C}, Pv K H v c → Pv K H' v c
  | .most _ _, h => h
  | .part _ _, ⟨z, h, g⟩ => ⟨z, h, seqT_same e g⟩
theorem Pv.but {K : PySem.W.Frag} {H H' : Hp} {l : Addr} {ys : List V} (b : But l H H') (hl : H l = some (.lst ys)) {v : V} : ∀ {c : C}, Pv K H v c → Pv K H' v c
  | .most _ _, h => h
  | .part _ _, ⟨z, h, g⟩ => ⟨z, h, seqT_but b hl g⟩
theorem Kt.same {K : PySem.W.Frag} {H H' : Hp} (e : Same H H') {p : Addr} {c : C} : Kt K H p c → Kt K H' p c
  | ⟨q, v, h1, h2, h3⟩ => ⟨q, v, seqT_same e h1, seqT_same e h2, h3.same e⟩
theorem Kt.but {K : PySem.W.Frag} {H H' : Hp} {l : Addr} {ys : List V} (b : But l H H') (hl : H l = some (.lst ys)) {p : Addr} {c : C} : Kt K H p c → Kt K H' p c
  | ⟨q, v, h1, h2, h3⟩ => ⟨q, v, seqT_but b hl h1, seqT_but b hl h2, h3.but b hl⟩
/-- a row of such -/
def Kts (K : PySem.W.Frag) (H : Hp) (vs : List V) (cs : List C) : Prop := PySem.Paired (fun v c => ∃ p, v = V.ref p ∧ Kt K H p c) vs cs
theorem Kts.same {K : PySem.W.Frag} {H H' : Hp} (e : Same H H') : ∀ {vs : List V} {cs : List C}, Kts K H vs cs → Kts K H' vs cs
  | _, _, .nil => .nil
  | _, _, .cons ⟨p, h, g⟩ r => .cons ⟨p, h, g.same e⟩ (Kts.same e r)
theorem Kts.but {K : PySem.W.Frag} {H H' : Hp} {l : Addr} {ys : List V} (b : But l H H') (hl : H l = some (.lst ys)) : ∀ {vs : List V} {cs : List C}, Kts K H vs cs → Kts K H' vs cs
  | _, _, .nil => .nil
  | _, _, .cons ⟨p, h, g⟩ r => .cons ⟨p, h, g.but b hl⟩ (Kts.but b hl r)
theorem Kts.snoc {K : PySem.W.Frag} {H : Hp} {p : Addr} {c : C} (h : Kt K H p c) : ∀ {vs : List V} {cs : List C}, Kts K H vs cs → Kts K H (vs ++ [.ref p]) (cs ++ [c])
  | _, _, .nil => .cons ⟨p, rfl, h⟩ .nil
  | _, _, .cons x r => .cons x (Kts.snoc h r)
theorem Kts.len {K : PySem.W.Frag} {H : Hp} {vs : List V} {cs : List C} (h : Kts K H vs cs) : vs.length = cs.length := PySem.Paired.length h
theorem Kts.get {K : PySem.W.Frag} {H : Hp} : ∀ {vs : List V} {cs : List C} {i : Nat} {v : V}, Kts K H vs cs → vs[i]? = some v → ∃ p c, v = .ref p ∧ cs[i]? = some c ∧ Kt K H p c
  | _, _, 0, v, .cons (b := c) ⟨p, h, g⟩ r, e => ⟨p, c, (Option.some.inj e).symm.trans h, rfl, g⟩
  | _, _, i + 1, v, .cons _ r, e => Kts.get (i := i) r e
theorem Kts.at_ {K : PySem.W.Frag} {H : Hp} : ∀ {vs : List V} {cs : List C} {i : Nat} {c : C}, Kts K H vs cs → cs[i]? = some c → ∃ p, vs[i]? = some (.ref p) ∧ Kt K H p c
  | _, _, 0, c, .cons ⟨p, h, g⟩ r, e => ⟨p, by rw [h]; rfl, by rw [← Option.some.inj e]; exact g⟩
  | _, _, i + 1, c, .cons _ r, e => Kts.at_ (i := i) r e
/-- a row of contests -/
def Cts (K : PySem.W.Frag) (H : Hp) (vs : List V) (cs : List C) : Prop := PySem.Paired (fun v c => ∃ p, v = V.ref p ∧ At K H p c) vs cs
theorem Cts.same {K : PySem.W.Frag} {H H' : Hp} (e : Same H H') : ∀ {vs : List V} {cs : List C}, Cts K H vs cs → Cts K H' vs cs
  | _, _, .nil => .nil
  | _, _, .cons ⟨p, h, g⟩ r => .cons ⟨p, h, g.same e⟩ (Cts.same e r)
theorem Cts.but {K : PySem.W.Frag} {H H' : Hp} {l : Addr} {ys : List V} (b : But l H H') (hl : H l = some (.lst ys)) : ∀ {vs : List V} {cs : List C}, Cts K H vs cs → Cts K H' vs cs
  | _, _, .nil => .nil
  | _, _, .cons ⟨p, h, g⟩ r => .cons ⟨p, h, g.but b hl⟩ (Cts.but b hl r)
theorem Cts.snoc {K : PySem.W.Frag} {H : Hp} {p : Addr} {c : C} (h : At K H p c) : ∀ {vs : List V} {cs : List C}, Cts K H vs cs → Cts K H (vs ++ [.ref p]) (cs ++ [c])
  | _, _, .nil => .cons ⟨p, rfl, h⟩ .nil
  | _, _, .cons x r => .cons x (Cts.snoc h r)
theorem Cts.len {K : PySem.W.Frag} {H : Hp} {vs : List V} {cs : List C} (h : Cts K H vs cs) : vs.length = cs.length := PySem.Paired.length h
theorem Cts.get {K : PySem.W.Frag} {H : Hp} : ∀ {vs : List V} {cs : List C} {i : Nat} {v : V}, Cts K H vs cs → vs[i]? = some v → ∃ p c, v = .ref p ∧ cs[i]? = some c ∧ At K H p c
  | _, _, 0, v, .cons (b := c) ⟨p, h, g⟩ r, e => ⟨p, c, (Option.some.inj e).symm.trans h, rfl, g⟩
  | _, _, i + 1, v, .cons _ r, e => Cts.get (i := i) r e
/-- ballots: none, or a tuple of a mark for each contest -/
def Bal (K : PySem.W.Frag) (H : Hp) (v : V) : Option (List (Option Str)) → Prop
  | none => v = .non
  | some ms => ∃ p, v = .ref p ∧ SqT K H p (ms.map Cm.mv)
theorem Bal.same {K : PySem.W.Frag} {H H' : Hp} (e : Same H H') {v : V} : ∀ {b : Option (List (Option Str))}, Bal K H v b → Bal K H' v b
  | none, h => h
  | some _, ⟨p, h, g⟩ => ⟨p, h, seqT_same e g⟩
theorem Bal.but {K : PySem.W.Frag} {H H' : Hp} {l : Addr} {ys : List V} (b : But l H H') (hl : H l = some (.lst ys)) {v : V} : ∀ {o : Option (List (Option Str))}, Bal K H v o → Bal K H' v o
  | none, h => h
  | some _, ⟨p, h, g⟩ => ⟨p, h, seqT_but b hl g⟩
def Bals (K : PySem.W.Frag) (H : Hp) (vs : List V) (bs : List (Option (List (Option Str)))) : Prop := PySem.Paired (fun v b => Bal K H v b) vs bs
theorem Bals.same {K : PySem.W.Frag} {H H' : Hp} (e : Same H H') : ∀ {vs : List V} {bs : List (Option (List (Option Str)))}, Bals K H vs bs → Bals K H' vs bs
  | _, _, .nil => .nil
  | _, _, .cons h r => .cons (h.same e) (Bals.same e r)
theorem Bals.but {K : PySem.W.Frag} {H H' : Hp} {l : Addr} {ys : List V} (b : But l H H') (hl : H l = some (.lst ys)) : ∀ {vs : List V} {bs : List (Option (List (Option Str)))}, Bals K H vs bs → Bals K H' vs bs
  | _, _, .nil => .nil
  | _, _, .cons h r => .cons (h.but b hl) (Bals.but b hl r)
theorem Bals.snoc {K : PySem.W.Frag} {H : Hp} {v : V} {b : Option (List (Option Str))} (h : Bal K H v b) : ∀ {vs : List V} {bs : List (Option (List (Option Str)))}, Bals K H vs bs → Bals K H (vs ++ [v]) (bs ++ [b])
  | _, _, .nil => .cons h .nil
  | _, _, .cons x r => .cons x (Bals.snoc h r)
theorem Bals.len {K : PySem.W.Frag} {H : Hp} {vs : List V} {bs : List (Option (List (Option Str)))} (h : Bals K H vs bs) : vs.length = bs.length := PySem.Paired.length h
theorem Bals.get {K : PySem.W.Frag} {H : Hp} : ∀ {vs : List V} {bs : List (Option (List (Option Str)))} {i : Nat} {v : V}, Bals K H vs bs → vs[i]? = some v → ∃ b, bs[i]? = some b ∧ Bal K H v b
  | _, _, 0, v, .cons (b := b) h r, e => ⟨b, rfl, by rw [← Option.some.inj e]; exact h⟩
  | _, _, i + 1, v, .cons _ r, e => Bals.get (i := i) r e
theorem Bals.take {K : PySem.W.Frag} {H : Hp} : ∀ {vs : List V} {bs : List (Option (List (Option Str)))} {n : Nat}, Bals K H vs bs → Bals K H (vs.take n) (bs.take n)
  | _, _, 0, _ => .nil
  | _, _, _ + 1, .nil => .nil
  | _, _, n + 1, .cons x r => .cons x (Bals.take (n := n) r)
/-- the mark of a ballot for a contest; one that lacks says ? -/
def mk (k : Nat) : Option (List (Option Str)) → Option Str
  | none => some (Str.ofString "?")
  | some ms => ms.getD k none
/-- as many marks as contests, each of its contest -/
def BalOk (cs : List C) (b : Option (List (Option Str))) : Prop := ∀ ms, b = some ms → ms.length = cs.length ∧ ∀ (i : Nat) (c : C) (m : Option Str), cs[i]? = some c → ms[i]? = some m → Cm.Mk (names c) false m
/-- the outcome, by one of the rising counts alone -/
theorem due_top {ns : List Str} (nd : ns.Nodup) {k : Nat} {ms : List (Option Str)} {rs : List Int} {x : Int} (pm : rs.Perm (cts ns ms)) (pw : rs.Pairwise (· ≤ ·)) (k1 : 1 ≤ k) (kn : k < ns.length) (h1 : rs[ns.length - k]? = some x) :
    due ns k ms = if k < (ns.filter fun n => decide (x ≤ ct ms n)).length then none else some (ns.filter fun n => decide (x ≤ ct ms n)) := by
  have hl : rs.length = ns.length := by rw [pm.length_eq]; unfold cts; simp
  obtain ⟨y, h0⟩ : ∃ y, rs[ns.length - k - 1]? = some y := ⟨_, List.getElem?_eq_getElem (by omega)⟩
  have e : rs.countP (fun z => decide (x ≤ z)) = (ns.filter fun n => decide (x ≤ ct ms n)).length := by
    rw [pm.countP_eq, ← List.countP_eq_length_filter]
    unfold cts
    rw [List.countP_map]
    rfl
  by_cases c : y = x
  · subst c
    rw [due_none nd pm pw k1 kn h1 h0, if_pos]
    have := low_cnt pw h0 (Int.le_refl y)
    omega
  · rw [due_some nd pm pw k1 kn h1 h0 c, if_neg]
    have yx : y < x := by
      obtain ⟨i0, e0⟩ := List.getElem?_eq_some_iff.mp h0
      obtain ⟨i1, e1⟩ := List.getElem?_eq_some_iff.mp h1
      have := List.pairwise_iff_getElem.mp pw (ns.length - k - 1) (ns.length - k) i0 i1 (by omega)
      omega
    have := high_cnt pw h0 yx
    omega
theorem good_names {ns : List Str} {c : C} (g : Good ns c) : names c = ns := by
  rcases g with ⟨k, rfl, _⟩ | ⟨s, rfl, _⟩ <;> rfl
/-- whether an outcome is firm -/
def firm (c : C) (ms : List (Option Str)) : Bool := match outC c (ms.filter Cm.there) with
  | none => false
  | some os => decide (All (claimsC c os) ms)
theorem all_dec {cs : List Cm.C} {ms : List (Option Str)} : (cs.map fun c => decide (Cm.holds c ms)).all id = decide (All cs ms) := by
  rw [Bool.eq_iff_iff, decide_eq_true_eq, List.all_eq_true]
  constructor
  · intro h c hc
    exact of_decide_eq_true (h _ (List.mem_map_of_mem hc))
  · intro h b hb
    obtain ⟨c, hc, rfl⟩ := List.mem_map.mp hb
    exact decide_eq_true (h c hc)
end Co
namespace Cm
open PySem PySem.Spec PyProof.Rows L2 Gx
theorem at_neg {xs : List V} {k : Nat} {v : V} (hk : k ≤ xs.length) (k1 : 1 ≤ k) (h : xs[xs.length - k]? = some v) : atI xs (-(k : Int)) = some v := by
  have e : ixN xs.length (-(k : Int)) = some (xs.length - k) := by
    unfold ixN
    rw [if_neg (by omega), if_pos (by omega)]
    congr 1
    omega
  unfold atI
  rw [e]
  exact h
end Cm
namespace Ct
open PySem PySem.Spec PyProof.Rows L2
theorem to_any {xs : List V} {k : Nat} : cutV xs none (some (k : Int)) = xs.take k := by
  unfold cutV
  rw [HT.sIx_none, HT.sIx_nat]
  simp
end Ct
namespace Co
open PySem PySem.Spec PyProof.Rows L2 Gx
/-- the first few of a tuple, the tuple itself where these are all -/
theorem k_slTo {K : PySem.W.Frag} {H : Hp} {Q : VK} {a : Addr} {xs : List V} {n : Nat} (h : SqT K H a xs) (q : ∀ p H', Same H H' → SqT K H' p (xs.take n) → Q (.ref p) H') : rSlU K (.ref a) none (some (n : Int)) H Q := by
  by_cases c : xs.length ≤ n
  · refine .inr (.inr ⟨a, xs, rfl, h, fun _ => q a H (Same.refl H) ?_, fun z => absurd ⟨HT.sIx_none .., ?_⟩ z⟩)
    · rw [List.take_of_length_le c]; exact h
    · rw [HT.sIx_nat]; exact Nat.min_eq_right c
  · refine k_slT h (fun z => ?_) (fun p H2 n2 s2 h2 => q p H2 s2 ?_)
    · have := z.2
      rw [HT.sIx_nat] at this
      omega
    · rw [Ct.to_any] at h2
      exact SqT.of h2
theorem k_repT {K : PySem.W.Frag} {H : Hp} {Q : VK} {l : Addr} {xs : List V} {k : Int} (h : SqT K H l xs) (ne : xs ≠ []) (k2 : 2 ≤ k) (k3 : k ≤ 1000) (hl : xs.length ≤ 1000) (q : ∀ p H', H p = none → Same H H' → H' p = some (.tup (List.replicate k.toNat xs).flatten) → Q (.ref p) H') : rMulU K (.ref l) (.int k) H Q :=
  .inr (.inr (.inl ⟨l, k, xs, rfl, rfl, h, ne, k2, k3, hl, fun p hp => q p _ hp (same_new hp) upd_same⟩))
/-- claims as a law tells them -/
def Ctl (K : PySem.W.Frag) (H : Hp) (vs : List V) (cs : List Cm.C) : Prop := PySem.Paired (fun v c => ∃ p, v = V.ref p ∧ Cm.Ct K H p c) vs cs
theorem Ctl.same {K : PySem.W.Frag} {H H' : Hp} (e : Same H H') : ∀ {vs : List V} {cs : List Cm.C}, Ctl K H vs cs → Ctl K H' vs cs
  | _, _, .nil => .nil
  | _, _, .cons ⟨p, h, g⟩ r => .cons ⟨p, h, g.same e⟩ (Ctl.same e r)
theorem Ctl.but {K : PySem.W.Frag} {H H' : Hp} {l : Addr} {ys : List V} (b : But l H H') (hl : H l = some (.lst ys)) : ∀ {vs : List V} {cs : List Cm.C}, Ctl K H vs cs → Ctl K H' vs cs
  | _, _, .nil => .nil
  | _, _, .cons ⟨p, h, g⟩ r => .cons ⟨p, h, g.but b hl⟩ (Ctl.but b hl r)
theorem Ctl.snoc {K : PySem.W.Frag} {H : Hp} {p : Addr} {c : Cm.C} (h : Cm.Ct K H p c) : ∀ {vs : List V} {cs : List Cm.C}, Ctl K H vs cs → Ctl K H (vs ++ [.ref p]) (cs ++ [c])
  | _, _, .nil => .cons ⟨p, rfl, h⟩ .nil
  | _, _, .cons x r => .cons x (Ctl.snoc h r)
theorem Ctl.app {K : PySem.W.Frag} {H : Hp} : ∀ {vs : List V} {cs : List Cm.C} {us : List V} {ds : List Cm.C}, Ctl K H vs cs → Ctl K H us ds → Ctl K H (vs ++ us) (cs ++ ds)
  | _, _, _, _, .nil, g => g
  | _, _, _, _, .cons x r, g => .cons x (Ctl.app r g)
theorem Ctl.len {K : PySem.W.Frag} {H : Hp} {vs : List V} {cs : List Cm.C} (h : Ctl K H vs cs) : vs.length = cs.length := PySem.Paired.length h
theorem Ctl.get {K : PySem.W.Frag} {H : Hp} : ∀ {vs : List V} {cs : List Cm.C} {i : Nat} {v : V}, Ctl K H vs cs → vs[i]? = some v → ∃ p c, v = .ref p ∧ cs[i]? = some c ∧ Cm.Ct K H p c
  | _, _, 0, v, .cons (b := c) ⟨p, h, g⟩ r, e => ⟨p, c, (Option.some.inj e).symm.trans h, rfl, g⟩
  | _, _, i + 1, v, .cons _ r, e => Ctl.get (i := i) r e
theorem mostA_snoc {ns os xs : List Str} {o : Str} : mostA ns os (xs ++ [o]) = mostA ns os xs ++ (ns.filter fun t => !has os t).map fun t => .beats o t := by
  unfold mostA
  rw [List.flatMap_append]
  simp
theorem un_claims {ns : List Str} {c : C} (g : Good ns c) {os : List Str} : ∀ cl ∈ claimsC c os, Cm.Un cl := fun cl h => by
  rcases g with ⟨k, rfl, _⟩ | ⟨s, rfl, _⟩
  · have h : cl ∈ mostA ns os os := h
    unfold mostA at h
    obtain ⟨o, ho, h⟩ := List.mem_flatMap.mp h
    obtain ⟨t, ht, rfl⟩ := List.mem_map.mp h
    have h2 := (List.mem_filter.mp ht).2
    intro e
    rw [← e, has_iff.mpr ho] at h2
    cases h2
  · have h : cl ∈ partC ns s os := h
    unfold partC at h
    split at h
    · obtain ⟨t, _, rfl⟩ := List.mem_map.mp h
      trivial
    · obtain ⟨t, _, rfl⟩ := List.mem_map.mp h
      trivial
/-- contests as a law makes them -/
def Fit (c : C) : Prop := Good (names c) c ∧ 2 ≤ (names c).length ∧ (names c).length ≤ 8 ∧ (names c).Nodup ∧ ∀ s ∈ names c, Pl.Nm s
def balD : Option (List (Option Str)) → PyData
  | none => .none
  | some ms => .tuple (ms.map Cm.md)
theorem Bal.dp {K : PySem.W.Frag} {H : Hp} {v : V} : ∀ {b : Option (List (Option Str))}, Bal K H v b → Dp K H v (balD b)
  | none, h => by rw [show v = .non from h]; exact .non
  | some ms, ⟨p, h, g⟩ => by rw [h]; exact .tup g (Cm.dpAll_mv ms)
theorem Bals.dp {K : PySem.W.Frag} {H : Hp} : ∀ {vs : List V} {bs : List (Option (List (Option Str)))}, Bals K H vs bs → DpAll K H vs (bs.map balD)
  | _, _, .nil => .nil
  | _, _, .cons h r => .cons h.dp (Bals.dp r)
theorem md_sh {ns : List Str} (hnm : ∀ s ∈ ns, Pl.Nm s) {m : Option Str} (h : Cm.Mk ns false m) : Dt.Sh 0 (Cm.md m) := by
  rcases h with ⟨n, hn, rfl⟩ | rfl | rfl | ⟨z, _⟩
  · exact Dt.sh_str (hnm n hn).ok
  · exact Dt.sh_str (by decide +kernel)
  · exact Dt.sh_non
  · cases z
theorem bal_sh {cs : List C} (hc : ∀ c ∈ cs, Fit c) {b : Option (List (Option Str))} (h : BalOk cs b) : Dt.Sh 1 (balD b) := by
  cases b with
  | none => exact Dt.sh_non
  | some ms =>
    obtain ⟨hl, hm⟩ := h ms rfl
    refine Dt.sh_tup fun d hd => ?_
    obtain ⟨m, hm1, rfl⟩ := List.mem_map.mp hd
    obtain ⟨i, hi, rfl⟩ := List.mem_iff_getElem.mp hm1
    have hic : i < cs.length := by omega
    exact md_sh (hc _ (List.getElem_mem hic)).2.2.2.2 (hm i cs[i] ms[i] (List.getElem?_eq_getElem hic) (List.getElem?_eq_getElem hi))
/-- two names exchanged -/
def sw (a b : Str) (m : Option Str) : Option Str := if m = some a then some b else if m = some b then some a else m
theorem out_sh {ns : List Str} {c : C} (g : Good ns c) (nd : ns.Nodup) (hnm : ∀ s ∈ ns, Pl.Nm s) {ms : List (Option Str)} : Dt.Sh 1 (oD (outC c ms)) := by
  cases e : outC c ms with
  | none => exact Dt.sh_non
  | some os =>
    refine Dt.sh_tup fun d hd => ?_
    obtain ⟨s, hs, rfl⟩ := List.mem_map.mp hd
    exact Dt.sh_str (hnm s ((fit_names g (out_fit nd g e)).1 s hs)).ok
end Co
namespace Ru
open PySem PySem.Spec PyProof.Rows L2 Gx
/-- rules, by what they stake -/
inductive R where
  | none
  | fixed (q : Rat)
  | learn (g : Rat) (w : Nat)
  | told (φ : List Rat → Rat)
def stakeOf : R → List Rat → Rat → Rat → Rat
  | .none, _, _, _ => 0
  | .fixed q, _, _, _ => q
  | .learn g w, qs, x, y => learn g (w : Rat) qs x y
  | .told φ, qs, _, _ => φ qs
/-- of parts of so many bits -/
def Ok (z : Nat) : R → Prop
  | .none => True
  | .fixed q => 0 ≤ q ∧ q ≤ 1 ∧ Fr.Sz z q
  | .learn g w => 0 ≤ g ∧ Fr.Sz 9 g ∧ 1 ≤ w ∧ w ≤ 100
  | .told φ => ∀ qs, 0 ≤ φ qs ∧ φ qs ≤ 1 ∧ Fr.Sz z (φ qs)
theorem nn {a : Rat} (h : ¬ a < 0) : 0 ≤ a := Rat.not_lt.mp h
theorem clip_unit (x : Rat) : 0 ≤ clip x ∧ clip x ≤ 1 := by
  unfold clip
  by_cases c : x < 0
  · rw [if_pos c]; decide +kernel
  · rw [if_neg c]
    by_cases d : 1 < x
    · rw [if_pos d]; decide +kernel
    · rw [if_neg d]; exact ⟨Rat.not_lt.mp c, Rat.not_lt.mp d⟩
theorem clip_id {x : Rat} (h0 : 0 ≤ x) (h1 : x ≤ 1) : clip x = x := by
  unfold clip
  rw [if_neg (Rat.not_lt.mpr h0), if_neg (Rat.not_lt.mpr h1)]
theorem sz0 {n : Nat} (h : 1 ≤ n) : Fr.Sz n 0 := ⟨by show (0 : Int).natAbs < _; exact Nat.two_pow_pos _, by show 1 < 2 ^ n; exact Nat.one_lt_two_pow (by omega)⟩
theorem sz1 {n : Nat} (h : 1 ≤ n) : Fr.Sz n 1 := ⟨by show (1 : Int).natAbs < _; show 1 < 2 ^ n; exact Nat.one_lt_two_pow (by omega), by show 1 < 2 ^ n; exact Nat.one_lt_two_pow (by omega)⟩
theorem clip_sz {n : Nat} {x : Rat} (hn : 1 ≤ n) (h : Fr.Sz n x) : Fr.Sz n (clip x) := by
  unfold clip
  by_cases c : x < 0
  · rw [if_pos c]; exact sz0 hn
  · rw [if_neg c]
    by_cases d : 1 < x
    · rw [if_pos d]; exact sz1 hn
    · rw [if_neg d]; exact h
theorem stake_unit {z : Nat} {r : R} (ok : Ok z r) (qs : List Rat) (x y : Rat) : 0 ≤ stakeOf r qs x y ∧ stakeOf r qs x y ≤ 1 := by
  cases r with
  | none => show (0 : Rat) ≤ 0 ∧ (0 : Rat) ≤ 1; decide +kernel
  | fixed q => exact ⟨ok.1, ok.2.1⟩
  | learn g w =>
    show 0 ≤ learn g w qs x y ∧ learn g w qs x y ≤ 1
    unfold learn
    split
    · exact clip_unit _
    · decide +kernel
  | told φ => exact ⟨(ok qs).1, (ok qs).2.1⟩
/-- how great a stake's parts are: c the sum's bits, m the price's, t the top's -/
theorem stake_sz {z c m t : Nat} {r : R} (ok : Ok z r) {qs : List Rat} {x y : Rat} (hc : Fr.Sz c (Lw.sum qs)) (hm : Fr.Sz m x) (ht : Fr.Sz t y) (hl : qs.length ≤ 62) : Fr.Sz (c + 2 * m + t + z + 40) (stakeOf r qs x y) := by
  cases r with
  | none => exact sz0 (by omega)
  | fixed q => exact ok.2.2.mono (by omega)
  | told φ => exact (ok qs).2.2.mono (by omega)
  | learn g w =>
    obtain ⟨_, sg, w1, w2⟩ := ok
    show Fr.Sz _ (learn g w qs x y)
    unfold learn
    split
    · have e : (w : Rat) + (qs.length : Rat) = ((w + qs.length : Nat) : Rat) := (Rat.natCast_add ..).symm
      have s1 := (szn (n := w) (k := 7) (by omega) (by decide)).mul sg
      have s2 := s1.add hc
      have s3 : Fr.Sz 8 ((w : Rat) + (qs.length : Rat)) := by rw [e]; exact szn (by omega) (by decide)
      have s4 := ((s2.div s3).sub hm).div (ht.sub hm)
      exact clip_sz (by omega) (s4.mono (by omega))
    · exact sz0 (by omega)
end Ru
namespace Gm
open PySem PySem.Spec PyProof.Rows L2 Gx
/-- a game, by what it holds -/
structure S where
  n : Nat
  ag : Bool
  top : Rat
  R : Ru.R
  vals : List Rat
  now : Rat
  most : Rat
  cert : Bool
def init (n : Nat) (ag : Bool) (top : Rat) (r : Ru.R) : S := ⟨n, ag, top, r, [], 1, 1, false⟩
def ended (g : S) : Bool := !g.ag && decide (g.vals.length = g.n)
/-- the price, where the game is alive -/
def price (g : S) : Rat := if g.ag = true then 1/2 else ((g.n : Rat) / 2 - Lw.sum g.vals) / ((g.n - g.vals.length : Nat) : Rat)
def priceO (g : S) : Option Rat := if (g.cert || ended g) = true then none else some (price g)
def stake (g : S) : Rat := Ru.stakeOf g.R g.vals (price g) g.top
def grow (s v p : Rat) : Rat := (1 - s) + s * v / p
def behind (g : S) (v : Rat) : Rat := if price g = 0 then g.now else g.now * grow (stake g) v (price g)
def certBehind (g : S) (v : Rat) : Bool := g.cert || (!g.ag && decide ((g.n : Rat) / 2 < Lw.sum (g.vals ++ [v])))
def play (g : S) (v : Rat) : S := { g with
  vals := g.vals ++ [v]
  now := if g.cert = true then g.now else behind g v
  most := if certBehind g v = true then g.most else if g.most < behind g v then behind g v else g.most
  cert := certBehind g v }
def worthO (g : S) : Option Rat := if g.cert = true then none else some g.now
def reached (g : S) (limit : Rat) : Bool := g.cert || !decide (g.most * limit < 1)
def plays (g : S) (vs : List Rat) : S := vs.foldl play g
theorem plays_snoc (g : S) (vs : List Rat) (v : Rat) : plays g (vs ++ [v]) = play (plays g vs) v := by simp [plays]
theorem plays_vals (g : S) : ∀ vs : List Rat, (plays g vs).vals = g.vals ++ vs := fun vs => by
  induction vs generalizing g with
  | nil => simp [plays]
  | cons v r ih =>
    show (plays (play g v) r).vals = _
    rw [ih]
    show (g.vals ++ [v]) ++ r = _
    simp
theorem plays_n (g : S) : ∀ vs : List Rat, (plays g vs).n = g.n ∧ (plays g vs).ag = g.ag ∧ (plays g vs).top = g.top ∧ (plays g vs).R = g.R := fun vs => by
  induction vs generalizing g with
  | nil => exact ⟨rfl, rfl, rfl, rfl⟩
  | cons v r ih => exact ih (play g v)
/-- what the steps of a play want of sizes -/
structure Fits (g : S) (v : Rat) (b c t z : Nat) : Prop where
  vals : ∀ q ∈ g.vals, Fr.Sz b q
  vz : Fr.Sz b v
  len : g.vals.length ≤ 60
  n : g.n ≤ 60
  sum : Fr.Sz c (Lw.sum g.vals)
  top : Fr.Sz t g.top
  ok : Ru.Ok z g.R
  bb : b ≤ 90
  bc : c ≤ 1000
  bt : t ≤ 200
  bz : z ≤ 1500
  open_ : ended g = false
  few : g.ag = false → g.vals.length ≤ g.n
  live : g.cert = false → ∃ m a w, Fr.Sz m (price g) ∧ Fr.Sz a (stake g) ∧ Fr.Sz w g.now ∧ Fr.Sz w g.most ∧ Fr.Sz w (behind g v) ∧ m ≤ 700 ∧ a ≤ 1500 ∧ w ≤ 100000 ∧ (w + 2 * a + b + m + 3 ≤ 9000 ∨ ((price g ≠ 0 → grow (stake g) v (price g) ≠ 0) ∧ 2 * (2 * a + b + m + 3) ≤ 9000))
theorem Fits.left {g : S} {v : Rat} {b c t z : Nat} (f : Fits g v b c t z) (h : g.ag = false) : g.vals.length ≠ g.n := fun e => by
  have := f.open_
  unfold ended at this
  rw [h, decide_eq_true e] at this
  cases this
end Gm
namespace Gm
open PySem PySem.Spec PyProof.Rows L2 Gx
/-- which of some parts a function tells -/
def nsum (qs : List Rat) : Int := (qs.map fun q => q.num + (q.den : Int)).sum
def num1 (qs : List Rat) : Int := (qs.length : Int) + nsum qs
def num2 (qs : List Rat) : Int := (qs.length : Int) + ((qs.zipIdx.map fun p => ((p.2 : Int) + 1) * (p.1.num + (p.1.den : Int))).sum)
def toldBy (num : List Rat → Int) (ps : List Rat) (qs : List Rat) : Rat := ps.getD (num qs % (ps.length : Int)).toNat 0
theorem told_ok {num : List Rat → Int} {ps : List Rat} {z : Nat} (ne : ps ≠ []) (h : ∀ p ∈ ps, 0 ≤ p ∧ p ≤ 1 ∧ Fr.Sz z p) : Ru.Ok z (.told (toldBy num ps)) := fun qs => by
  have l0 : 0 < ps.length := List.length_pos_iff.mpr ne
  have e0 := Int.emod_nonneg (num qs) (show (ps.length : Int) ≠ 0 by omega)
  have e1 := Int.emod_lt_of_pos (num qs) (show (0 : Int) < ps.length by omega)
  have hi : (num qs % (ps.length : Int)).toNat < ps.length := by omega
  have : toldBy num ps qs = ps[(num qs % (ps.length : Int)).toNat] := by
    unfold toldBy
    rw [List.getD_eq_getElem?_getD, List.getElem?_eq_getElem hi]
    rfl
  rw [this]
  exact h _ (List.getElem_mem hi)
end Gm
namespace Gm
open PySem PySem.Spec PyProof.Rows L2 Gx
/-- a fraction over D -/
def On (D : Nat) (x : Rat) : Prop := ∃ n : Int, x = Rat.divInt n (D : Int)
theorem on_add {D : Nat} (h : 0 < D) {x y : Rat} (hx : On D x) (hy : On D y) : On D (x + y) := by
  obtain ⟨n, rfl⟩ := hx
  obtain ⟨m, rfl⟩ := hy
  refine ⟨n + m, ?_⟩
  rw [Rat.divInt_eq_div, Rat.divInt_eq_div, Rat.divInt_eq_div, Rat.intCast_add]
  grind
theorem on_zero (D : Nat) : On D 0 := ⟨0, (Rat.zero_divInt _).symm⟩
theorem on_sum {D : Nat} (h : 0 < D) : ∀ {qs : List Rat}, (∀ q ∈ qs, On D q) → On D (Lw.sum qs)
  | [], _ => on_zero D
  | q :: r, hq => by
    rw [Cm.sum_cons]
    exact on_add h (hq q (List.mem_cons_self ..)) (on_sum h fun x hx => hq x (List.mem_cons_of_mem _ hx))
theorem nat_pos {n : Nat} (h : 0 < n) : (0 : Rat) < (n : Rat) := by
  have : ((0 : Nat) : Rat) < (n : Rat) := Rat.natCast_lt_natCast.mpr h
  exact this
theorem nat_nn (n : Nat) : (0 : Rat) ≤ (n : Rat) := by
  have : ((0 : Nat) : Rat) ≤ (n : Rat) := Rat.natCast_le_natCast.mpr (Nat.zero_le n)
  exact this
theorem sum_nn : ∀ {qs : List Rat}, (∀ q ∈ qs, 0 ≤ q) → 0 ≤ Lw.sum qs
  | [], _ => Rat.le_refl
  | q :: r, h => by
    rw [Cm.sum_cons]
    have h1 := h q (List.mem_cons_self ..)
    have h2 := sum_nn (qs := r) fun x hx => h x (List.mem_cons_of_mem _ hx)
    grind
theorem sum_le {t : Rat} : ∀ {qs : List Rat}, (∀ q ∈ qs, q ≤ t) → Lw.sum qs ≤ (qs.length : Rat) * t
  | [], _ => by show (0 : Rat) ≤ ((0 : Nat) : Rat) * t; rw [show ((0 : Nat) : Rat) = 0 from rfl, Rat.zero_mul]; exact Rat.le_refl
  | q :: r, h => by
    rw [Cm.sum_cons, List.length_cons, Rat.natCast_add]
    have h1 := h q (List.mem_cons_self ..)
    have h2 := sum_le (qs := r) fun x hx => h x (List.mem_cons_of_mem _ hx)
    have e : ((1 : Nat) : Rat) = 1 := rfl
    rw [e]
    grind
/-- of a fraction over D that is not great: its upper part is not great -/
theorem on_num {D M : Nat} (hD : 0 < D) {n : Int} (h0 : 0 ≤ Rat.divInt n (D : Int)) (h1 : Rat.divInt n (D : Int) * (D : Rat) ≤ (M : Rat)) : 0 ≤ n ∧ n ≤ M := by
  have dp := nat_pos hD
  have e : Rat.divInt n (D : Int) * (D : Rat) = (n : Rat) := by
    rw [Rat.divInt_eq_div]
    have : ((D : Int) : Rat) = (D : Rat) := rfl
    rw [this]
    grind
  constructor
  · have : (0 : Rat) ≤ (n : Rat) := by rw [← e]; exact Rat.mul_nonneg h0 (Rat.le_of_lt dp)
    exact Rat.intCast_le_intCast.mp (show ((0 : Int) : Rat) ≤ (n : Rat) from this)
  · rw [e] at h1
    exact Rat.intCast_le_intCast.mp (show (n : Rat) ≤ ((M : Int) : Rat) from h1)
theorem grow_sz {a b m : Nat} {s v p : Rat} (s0 : 0 ≤ s) (s1 : s ≤ 1) (v0 : 0 ≤ v) (p0 : 0 < p) (hs : Fr.Sz a s) (hv : Fr.Sz b v) (hp : Fr.Sz m p) : Fr.Sz (a + b + m + 1) (grow s v p) := by
  have q0 := Fr.den_pos s
  have d0 := Fr.den_pos v
  have e0 := Fr.den_pos p
  have pn : 0 < p.num := Cm.num_pos p0
  have sn : 0 ≤ s.num := Rat.num_nonneg.mpr s0
  have vn : 0 ≤ v.num := Rat.num_nonneg.mpr v0
  have sq : s.num ≤ s.den := by
    have := Rat.not_lt.mpr s1
    rw [Rat.lt_iff] at this
    simp at this
    omega
  have B0 : 0 < (s.den : Int) * ((v.den : Int) * p.num) := Int.mul_pos q0 (Int.mul_pos d0 pn)
  have e : grow s v p = Rat.divInt (((s.den : Int) - s.num) * ((v.den : Int) * p.num) + s.num * (v.num * (p.den : Int))) ((s.den : Int) * ((v.den : Int) * p.num)) := by
    unfold grow
    have hs' : s = (s.num : Rat) / ((s.den : Int) : Rat) := by rw [← Rat.divInt_eq_div, Rat.num_divInt_den]
    have hv' : v = (v.num : Rat) / ((v.den : Int) : Rat) := by rw [← Rat.divInt_eq_div, Rat.num_divInt_den]
    have hp' : p = (p.num : Rat) / ((p.den : Int) : Rat) := by rw [← Rat.divInt_eq_div, Rat.num_divInt_den]
    have c1 := Ru.cast_pos q0
    have c2 := Ru.cast_pos d0
    have c3 := Ru.cast_pos e0
    have c4 := Ru.cast_pos pn
    rw [Rat.divInt_eq_div]
    simp only [Rat.intCast_add, Rat.intCast_mul, Rat.intCast_sub]
    generalize ((s.den : Int) : Rat) = sd at *
    generalize ((v.den : Int) : Rat) = vd at *
    generalize ((p.den : Int) : Rat) = pd at *
    generalize (s.num : Rat) = sN at *
    generalize (v.num : Rat) = vN at *
    generalize (p.num : Rat) = pN at *
    rw [hs', hv', hp']
    grind
  have l1 : (s.den : Int) < 2 ^ a := by have := hs.2; exact_mod_cast this
  have l2 : (v.den : Int) < 2 ^ b := by have := hv.2; exact_mod_cast this
  have l3 : (p.den : Int) < 2 ^ m := by have := hp.2; exact_mod_cast this
  have l4 : p.num < 2 ^ m := by
    rw [← Int.natAbs_of_nonneg (Int.le_of_lt pn)]
    exact_mod_cast hp.1
  have l5 : v.num < 2 ^ b := by
    rw [← Int.natAbs_of_nonneg vn]
    exact_mod_cast hv.1
  have pa : (0 : Int) < 2 ^ a := Int.pow_pos (by decide)
  have pb : (0 : Int) < 2 ^ b := Int.pow_pos (by decide)
  have pm : (0 : Int) < 2 ^ m := Int.pow_pos (by decide)
  have x1 : (v.den : Int) * p.num ≤ 2 ^ b * 2 ^ m := Int.mul_le_mul (Int.le_of_lt l2) (Int.le_of_lt l4) (Int.le_of_lt pn) (Int.le_of_lt pb)
  have x2 : v.num * (p.den : Int) ≤ 2 ^ b * 2 ^ m := Int.mul_le_mul (Int.le_of_lt l5) (Int.le_of_lt l3) (Int.le_of_lt e0) (Int.le_of_lt pb)
  have xp : (0 : Int) < (v.den : Int) * p.num := Int.mul_pos d0 pn
  have yp : (0 : Int) ≤ v.num * (p.den : Int) := Int.mul_nonneg vn (Int.le_of_lt e0)
  have P : (0 : Int) < 2 ^ b * 2 ^ m := Int.mul_pos pb pm
  have x3 : (s.den : Int) * ((v.den : Int) * p.num) < 2 ^ a * (2 ^ b * 2 ^ m) := Int.lt_of_lt_of_le (Int.mul_lt_mul_of_pos_right l1 xp) (Int.mul_le_mul_of_nonneg_left x1 (Int.le_of_lt pa))
  have x4 : s.num * (v.num * (p.den : Int)) ≤ 2 ^ a * (2 ^ b * 2 ^ m) := Int.mul_le_mul (by omega) x2 yp (Int.le_of_lt pa)
  have x5 : ((s.den : Int) - s.num) * ((v.den : Int) * p.num) ≤ (s.den : Int) * ((v.den : Int) * p.num) := Int.mul_le_mul_of_nonneg_right (by omega) (Int.le_of_lt xp)
  have x6 : 0 ≤ ((s.den : Int) - s.num) * ((v.den : Int) * p.num) := Int.mul_nonneg (by omega) (Int.le_of_lt xp)
  have x7 : 0 ≤ s.num * (v.num * (p.den : Int)) := Int.mul_nonneg sn yp
  have E : (2 : Int) ^ (a + b + m + 1) = 2 * (2 ^ a * (2 ^ b * 2 ^ m)) := by
    rw [Int.pow_succ, Int.pow_add, Int.pow_add, Int.mul_comm _ 2, Int.mul_assoc]
  rw [e]
  have c : ((2 ^ (a + b + m + 1) : Nat) : Int) = (2 : Int) ^ (a + b + m + 1) := by simp
  have Q : (0 : Int) < 2 ^ a * (2 ^ b * 2 ^ m) := Int.mul_pos pa P
  refine Fr.sz_divInt (by omega) ?_ ?_
  · have : ((((s.den : Int) - s.num) * ((v.den : Int) * p.num) + s.num * (v.num * (p.den : Int))).natAbs : Int) < ((2 ^ (a + b + m + 1) : Nat) : Int) := by
      rw [Int.natAbs_of_nonneg (by omega), c, E]
      omega
    exact_mod_cast this
  · have : ((((s.den : Int) * ((v.den : Int) * p.num))).natAbs : Int) < ((2 ^ (a + b + m + 1) : Nat) : Int) := by
      rw [Int.natAbs_of_nonneg (by omega), c, E]
      omega
    exact_mod_cast this
theorem on_value {x : Rat} {q p : Int} (h1 : 1 ≤ p) (h6 : p ≤ 6) : On (60 * x.den) (x * Rat.divInt q p) := by
  obtain ⟨k, hk⟩ : ∃ k : Int, p * k = 60 := by
    have : p = 1 ∨ p = 2 ∨ p = 3 ∨ p = 4 ∨ p = 5 ∨ p = 6 := by omega
    rcases this with rfl | rfl | rfl | rfl | rfl | rfl
    · exact ⟨60, rfl⟩
    · exact ⟨30, rfl⟩
    · exact ⟨20, rfl⟩
    · exact ⟨15, rfl⟩
    · exact ⟨12, rfl⟩
    · exact ⟨10, rfl⟩
  refine ⟨x.num * q * k, ?_⟩
  have kp : k ≠ 0 := fun e => by rw [e] at hk; omega
  have hx : x = Rat.divInt x.num (x.den : Int) := (Rat.num_divInt_den x).symm
  have e : (((60 * x.den : Nat)) : Int) = (x.den : Int) * p * k := by
    rw [Int.mul_assoc, hk]
    simp
    omega
  conv => lhs; rw [hx]
  rw [Rat.divInt_mul_divInt, e]
  exact (Rat.divInt_mul_right kp).symm
/-- a value of a ballot, top the greatest -/
structure Vok (top v : Rat) : Prop where
  nn : 0 ≤ v
  le : v ≤ top
  on : On (60 * top.den) v
  sz : Fr.Sz 8 v
/-- the state of such a game -/
structure Std (g : S) : Prop where
  t0 : 0 < g.top
  ts : Fr.Sz 5 g.top
  ok : Ru.Ok 7 g.R
  n0 : 1 ≤ g.n
  n1 : g.n ≤ 60
  len : g.vals.length ≤ 60
  vals : ∀ v ∈ g.vals, Vok g.top v
  few : g.ag = false → g.vals.length ≤ g.n
  cert : g.cert = (!g.ag && decide ((g.n : Rat) / 2 < Lw.sum g.vals))
  now : g.cert = false → Fr.Sz (132 * g.vals.length + 1) g.now
  most : g.cert = false → Fr.Sz (132 * g.vals.length + 1) g.most
theorem std_init {n : Nat} {ag : Bool} {top : Rat} {r : Ru.R} (t0 : 0 < top) (ts : Fr.Sz 5 top) (ok : Ru.Ok 7 r) (n0 : 1 ≤ n) (n1 : n ≤ 60) : Std (init n ag top r) where
  t0 := t0
  ts := ts
  ok := ok
  n0 := n0
  n1 := n1
  len := Nat.zero_le _
  vals := fun _ h => (nomatch h)
  few := fun _ => Nat.zero_le _
  cert := by
    show false = (!ag && decide ((n : Rat) / 2 < 0))
    have : ¬ (n : Rat) / 2 < 0 := fun z => by have := nat_nn n; grind
    rw [decide_eq_false this]
    simp
  now := fun _ => Ru.sz1 (by omega)
  most := fun _ => Ru.sz1 (by omega)
theorem sum_sz {top : Rat} (ts : Fr.Sz 5 top) {qs : List Rat} (h : ∀ q ∈ qs, Vok top q) (hl : qs.length ≤ 62) : ∃ N : Int, Lw.sum qs = Rat.divInt N ((60 * top.den : Nat) : Int) ∧ 0 ≤ N ∧ N ≤ 115320 := by
  have D0 : 0 < 60 * top.den := Nat.mul_pos (by decide) top.den_pos
  obtain ⟨N, hN⟩ := on_sum D0 fun q hq => (h q hq).on
  have s0 := sum_nn fun q hq => (h q hq).nn
  have s1 := sum_le fun q hq => (h q hq).le
  have dq : top * (top.den : Rat) = (top.num : Rat) := by
    have e : top = (top.num : Rat) / (top.den : Rat) := by
      rw [← Rat.intCast_natCast, ← Rat.divInt_eq_div, Rat.num_divInt_den]
    have dp := nat_pos top.den_pos
    generalize (top.num : Rat) = a at *
    generalize (top.den : Rat) = d at *
    rw [e]
    grind
  have tn : top.num ≤ 31 := by have := ts.1; have h : top.num.natAbs < 32 := this; omega
  have tn' : (top.num : Rat) ≤ 31 := (show (top.num : Rat) ≤ ((31 : Int) : Rat) from Rat.intCast_le_intCast.mpr tn)
  have ln : (qs.length : Rat) ≤ 62 := (show (qs.length : Rat) ≤ ((62 : Nat) : Rat) from Rat.natCast_le_natCast.mpr hl)
  have l0 := nat_nn qs.length
  refine ⟨N, hN, on_num (M := 115320) D0 (by rw [← hN]; exact s0) ?_⟩
  rw [← hN, Rat.natCast_mul]
  have dp := nat_nn top.den
  have e60 : ((60 : Nat) : Rat) = 60 := rfl
  have eM : ((115320 : Nat) : Rat) = 115320 := rfl
  rw [e60, eM]
  have h1 : Lw.sum qs * (60 * (top.den : Rat)) ≤ (qs.length : Rat) * top * (60 * (top.den : Rat)) := Rat.mul_le_mul_of_nonneg_right s1 (by grind)
  have h2 : (qs.length : Rat) * top * (60 * (top.den : Rat)) = 60 * ((qs.length : Rat) * (top.num : Rat)) := by rw [← dq]; grind
  have h3 : (qs.length : Rat) * (top.num : Rat) ≤ (qs.length : Rat) * 31 := Rat.mul_le_mul_of_nonneg_left tn' l0
  grind
theorem sum_sz17 {top : Rat} (ts : Fr.Sz 5 top) {qs : List Rat} (h : ∀ q ∈ qs, Vok top q) (hl : qs.length ≤ 62) : Fr.Sz 17 (Lw.sum qs) := by
  obtain ⟨N, hN, h0, h1⟩ := sum_sz ts h hl
  have td : top.den < 32 := ts.2
  have tp := top.den_pos
  rw [hN]
  exact Fr.sz_divInt (by omega) (by show _ < 131072; omega) (by show _ < 131072; omega)
theorem price_sz {g : S} (s : Std g) (h : ended g = false) : Fr.Sz 18 (price g) := by
  unfold price
  by_cases c : g.ag = true
  · rw [if_pos c]
    have : (1/2 : Rat) = Rat.divInt 1 2 := by rw [Rat.divInt_eq_div]; rfl
    rw [this]
    exact Fr.sz_divInt (by decide) (by decide) (by decide)
  · rw [if_neg c]
    have ca : g.ag = false := by simpa using c
    have few := s.few ca
    have ne : g.vals.length ≠ g.n := fun e => by
      unfold ended at h
      rw [ca, decide_eq_true e] at h
      cases h
    obtain ⟨N, hN, h0, h1⟩ := sum_sz s.ts s.vals (by have := s.len; omega)
    have td : g.top.den < 32 := s.ts.2
    have tp := g.top.den_pos
    have n1 := s.n1
    rw [hN]
    generalize hk : g.n - g.vals.length = k
    have k1 : 1 ≤ k ∧ k ≤ 60 := by omega
    generalize hD : 60 * g.top.den = D
    have D1 : 1 ≤ D ∧ D ≤ 1860 := by omega
    have e : ((g.n : Rat) / 2 - Rat.divInt N (D : Int)) / (k : Rat) = Rat.divInt ((g.n : Int) * (D : Int) - 2 * N) (2 * ((D : Int) * (k : Int))) := by
      rw [Rat.divInt_eq_div, Rat.divInt_eq_div]
      simp only [Rat.intCast_sub, Rat.intCast_mul, Rat.intCast_natCast]
      have c1 := nat_pos (n := D) (by omega)
      have c2 := nat_pos (n := k) (by omega)
      have e2 : ((2 : Int) : Rat) = 2 := rfl
      rw [e2]
      generalize (D : Rat) = d at *
      generalize (k : Rat) = kk at *
      generalize (g.n : Rat) = nn at *
      generalize (N : Rat) = NN at *
      grind
    rw [e]
    have m1 : (g.n : Int) * (D : Int) ≤ 60 * 1860 := Int.mul_le_mul (by omega) (by omega) (by omega) (by decide)
    have m0 : 0 ≤ (g.n : Int) * (D : Int) := Int.mul_nonneg (by omega) (by omega)
    have m2 : (D : Int) * (k : Int) ≤ 1860 * 60 := Int.mul_le_mul (by omega) (by omega) (by omega) (by decide)
    have m3 : 0 < (D : Int) * (k : Int) := Int.mul_pos (by omega) (by omega)
    exact Fr.sz_divInt (by omega) (by show _ < 262144; omega) (by show _ < 262144; omega)
theorem price_nn {g : S} (s : Std g) (h : g.cert = false) (o : ended g = false) : 0 ≤ price g := by
  unfold price
  by_cases c : g.ag = true
  · rw [if_pos c]; decide +kernel
  · rw [if_neg c]
    have ca : g.ag = false := by simpa using c
    have e := s.cert
    rw [h, ca] at e
    have l : ¬ (g.n : Rat) / 2 < Lw.sum g.vals := fun z => by rw [decide_eq_true z] at e; cases e
    have few := s.few ca
    have ne : g.vals.length ≠ g.n := fun e => by
      unfold ended at o
      rw [ca, decide_eq_true e] at o
      cases o
    have kp := nat_pos (n := g.n - g.vals.length) (by omega)
    have a0 : 0 ≤ (g.n : Rat) / 2 - Lw.sum g.vals := by
      have := Rat.not_lt.mp l
      grind
    exact Rat.not_lt.mp fun z => by
      rw [Rat.div_lt_iff kp, Rat.zero_mul] at z
      exact absurd (Std.lt_of_lt_of_le z a0) Rat.lt_irrefl
theorem stake_sz7 {g : S} (s : Std g) (o : ended g = false) : Fr.Sz 105 (stake g) :=
  (Ru.stake_sz s.ok (sum_sz17 s.ts s.vals (by have := s.len; omega)) (price_sz s o) s.ts (by have := s.len; omega)).mono (by decide)
theorem behind_sz {g : S} (s : Std g) (h : g.cert = false) (o : ended g = false) {v : Rat} (hv : Vok g.top v) : Fr.Sz (132 * (g.vals.length + 1) + 1) (behind g v) := by
  unfold behind
  by_cases c : price g = 0
  · rw [if_pos c]; exact (s.now h).mono (by omega)
  · rw [if_neg c]
    have p0 : 0 < price g := by
      have := price_nn s h o
      grind
    have u := Ru.stake_unit s.ok g.vals (price g) g.top
    have z := grow_sz u.1 u.2 hv.nn p0 (stake_sz7 s o) hv.sz (price_sz s o)
    exact ((s.now h).mul z).mono (by omega)
theorem fits {g : S} (s : Std g) (o : ended g = false) (l : g.vals.length < 60) {v : Rat} (hv : Vok g.top v) : Fits g v 8 17 5 7 where
  vals := fun q hq => (s.vals q hq).sz
  vz := hv.sz
  len := s.len
  n := s.n1
  sum := sum_sz17 s.ts s.vals (by omega)
  top := s.ts
  ok := s.ok
  bb := by decide
  bc := by decide
  bt := by decide
  bz := by decide
  open_ := o
  few := s.few
  live := fun h => ⟨18, 105, 132 * (g.vals.length + 1) + 1, price_sz s o, stake_sz7 s o, (s.now h).mono (by omega), (s.most h).mono (by omega), behind_sz s h o hv, by decide, by decide, by omega, by omega⟩
theorem std_play {g : S} (s : Std g) (o : ended g = false) (l : g.vals.length < 60) {v : Rat} (hv : Vok g.top v) : Std (play g v) where
  t0 := s.t0
  ts := s.ts
  ok := s.ok
  n0 := s.n0
  n1 := s.n1
  len := by show (g.vals ++ [v]).length ≤ 60; simp; omega
  vals := fun x hx => by
    rcases List.mem_append.mp (show x ∈ g.vals ++ [v] from hx) with h | h
    · exact s.vals x h
    · rw [List.mem_singleton.mp h]; exact hv
  few := fun e => by
    have e : g.ag = false := e
    have f := s.few e
    show (g.vals ++ [v]).length ≤ g.n
    have ne : g.vals.length ≠ g.n := fun z => by
      unfold ended at o
      rw [e, decide_eq_true z] at o
      cases o
    simp; omega
  cert := by
    show certBehind g v = (!g.ag && decide ((g.n : Rat) / 2 < Lw.sum (g.vals ++ [v])))
    unfold certBehind
    cases ha : g.ag with
    | true =>
      have := s.cert
      rw [ha] at this
      rw [this]; rfl
    | false =>
      cases hc : g.cert with
      | false => rfl
      | true =>
        have e := s.cert
        rw [ha, hc] at e
        have lt : (g.n : Rat) / 2 < Lw.sum g.vals := of_decide_eq_true (by simpa using e.symm)
        have : (g.n : Rat) / 2 < Lw.sum (g.vals ++ [v]) := by
          rw [Lw.sum_snoc]
          have := hv.nn
          grind
        rw [decide_eq_true this]; rfl
  now := fun h => by
    have h : certBehind g v = false := h
    have nc : g.cert = false := by
      unfold certBehind at h
      cases e : g.cert with
      | false => rfl
      | true => rw [e] at h; simp at h
    show Fr.Sz (132 * (g.vals ++ [v]).length + 1) (if g.cert = true then g.now else behind g v)
    rw [if_neg (by rw [nc]; decide), List.length_append, List.length_singleton]
    exact behind_sz s nc o hv
  most := fun h => by
    have h : certBehind g v = false := h
    have nc : g.cert = false := by
      unfold certBehind at h
      cases e : g.cert with
      | false => rfl
      | true => rw [e] at h; simp at h
    show Fr.Sz (132 * (g.vals ++ [v]).length + 1) (if certBehind g v = true then g.most else if g.most < behind g v then behind g v else g.most)
    rw [if_neg (by rw [h]; decide), List.length_append, List.length_singleton]
    split
    · exact behind_sz s nc o hv
    · exact (s.most nc).mono (by omega)
end Gm
namespace Gm
open PySem PySem.Spec PyProof.Rows L2 Gx
theorem mul_den (x : Rat) : x * (x.den : Rat) = (x.num : Rat) := by
  have e : x = (x.num : Rat) / (x.den : Rat) := by rw [← Rat.intCast_natCast, ← Rat.divInt_eq_div, Rat.num_divInt_den]
  have dp := nat_pos x.den_pos
  generalize (x.num : Rat) = a at *
  generalize (x.den : Rat) = d at *
  rw [e]
  grind
theorem half_lt {n : Nat} {x : Rat} : (n : Rat) / 2 < x ↔ (n : Int) * (x.den : Int) < x.num * 2 := by
  have dp := nat_pos x.den_pos
  have dq := mul_den x
  have e : ((n : Int) * (x.den : Int) < x.num * 2) ↔ ((n : Rat) * (x.den : Rat) < (x.num : Rat) * 2) := by
    rw [← Rat.intCast_lt_intCast, Rat.intCast_mul, Rat.intCast_mul, Rat.intCast_natCast, Rat.intCast_natCast]
    rfl
  rw [e, ← dq]
  constructor
  · intro h
    have := Rat.mul_lt_mul_of_pos_right h dp
    grind
  · intro h
    refine Rat.not_le.mp fun z => ?_
    have := Rat.mul_le_mul_of_nonneg_right z (Rat.le_of_lt dp)
    grind
theorem num_neg {x : Rat} : x.num < 0 ↔ x < 0 := by
  rw [← Int.not_le, ← Rat.not_le, Rat.num_nonneg]
/-- what lacks, as a law reckons it -/
theorem priceO_ag {g : S} (s : Std g) (h : g.ag = true) : priceO g = some (1/2) := by
  have e := s.cert
  rw [h] at e
  have e : g.cert = false := e
  unfold priceO ended price
  rw [e, h]
  rfl
theorem priceO_end {g : S} (h : g.ag = false) (e : g.vals.length = g.n) : priceO g = none := by
  unfold priceO ended
  rw [h, decide_eq_true e]
  simp
theorem priceO_cert {g : S} (s : Std g) (h : g.ag = false) (e : (g.n : Rat) / 2 < Lw.sum g.vals) : priceO g = none := by
  have c := s.cert
  rw [h, decide_eq_true e] at c
  unfold priceO
  rw [c]
  simp
theorem priceO_some {g : S} (s : Std g) (h : g.ag = false) (ne : g.vals.length ≠ g.n) (e : ¬ (g.n : Rat) / 2 < Lw.sum g.vals) : priceO g = some (((g.n : Rat) / 2 - Lw.sum g.vals) / ((g.n - g.vals.length : Nat) : Rat)) := by
  have c := s.cert
  rw [h, decide_eq_false e] at c
  unfold priceO ended price
  rw [c, h, decide_eq_false ne]
  rfl
theorem alive_price {g : S} (h : g.cert = false) (o : ended g = false) : priceO g = some (price g) := by
  unfold priceO
  rw [h, o]
  rfl
end Gm
namespace Gm
open PySem PySem.Spec PyProof.Rows L2 Gx
/-- the worths of a game, from its state through some plays -/
def worths (g : S) : List Rat → List (Option Rat)
  | [] => [worthO g]
  | v :: r => worthO g :: worths (play g v) r
/-- of a worth: whether it reaches a limit -/
def atLim (x : Rat) : Option Rat → Bool
  | none => true
  | some q => !decide (q * x < 1)
theorem worths_len (g : S) : ∀ vs : List Rat, (worths g vs).length = vs.length + 1 := fun vs => by
  induction vs generalizing g with
  | nil => rfl
  | cons v r ih =>
    show (worths (play g v) r).length + 1 = r.length + 1 + 1
    rw [ih]
theorem worths_snoc (g : S) (vs : List Rat) (v : Rat) : worths g (vs ++ [v]) = worths g vs ++ [worthO (plays g (vs ++ [v]))] := by
  induction vs generalizing g with
  | nil => rfl
  | cons x r ih =>
    show worthO g :: worths (play g x) (r ++ [v]) = worthO g :: worths (play g x) r ++ [worthO (plays (play g x) (r ++ [v]))]
    rw [ih]
    rfl
theorem worths_take (g : S) (vs : List Rat) (k : Nat) (h : k ≤ vs.length) : (worths g vs).take (k + 1) = worths g (vs.take k) := by
  induction vs generalizing g k with
  | nil =>
    have : k = 0 := by simpa using h
    subst this
    rfl
  | cons x r ih =>
    cases k with
    | zero => rfl
    | succ k =>
      show worthO g :: (worths (play g x) r).take (k + 1) = worthO g :: worths (play g x) (r.take k)
      rw [ih _ _ (by simpa using h)]
theorem worths_last (g : S) (vs : List Rat) : (worths g vs)[vs.length]? = some (worthO (plays g vs)) := by
  induction vs generalizing g with
  | nil => rfl
  | cons x r ih => exact ih (play g x)
theorem reached_play {g : S} {v x : Rat} (h : 0 ≤ x) : reached (play g v) x = (reached g x || atLim x (worthO (play g v))) := by
  cases e : certBehind g v with
  | true =>
    have : worthO (play g v) = none := if_pos e
    rw [this]
    have c : (play g v).cert = true := e
    unfold reached
    rw [c]
    simp [atLim]
  | false =>
    have nc : g.cert = false := by
      unfold certBehind at e
      cases d : g.cert with
      | false => rfl
      | true => rw [d] at e; simp at e
    have c : (play g v).cert = false := e
    have w : worthO (play g v) = some (behind g v) := by
      show (if certBehind g v = true then none else some (if g.cert = true then g.now else behind g v)) = _
      rw [if_neg (by rw [e]; decide), if_neg (by rw [nc]; decide)]
    have m : (play g v).most = if g.most < behind g v then behind g v else g.most := by
      show (if certBehind g v = true then g.most else if g.most < behind g v then behind g v else g.most) = _
      rw [if_neg (by rw [e]; decide)]
    unfold reached
    rw [c, nc, w, m]
    show (false || !decide _) = ((false || !decide _) || !decide _)
    simp only [Bool.false_or]
    generalize behind g v = b
    by_cases lt : g.most < b
    · rw [if_pos lt]
      have : g.most * x ≤ b * x := Rat.mul_le_mul_of_nonneg_right (Rat.le_of_lt lt) h
      by_cases d : b * x < 1
      · rw [decide_eq_true d, decide_eq_true (Std.lt_of_le_of_lt this d)]; rfl
      · rw [decide_eq_false d]; simp
    · rw [if_neg lt]
      have : b * x ≤ g.most * x := Rat.mul_le_mul_of_nonneg_right (Rat.not_lt.mp lt) h
      by_cases d : g.most * x < 1
      · rw [decide_eq_true d, decide_eq_true (Std.lt_of_le_of_lt this d)]; rfl
      · rw [decide_eq_false d]; simp
theorem reached_worths {x : Rat} (h : 0 ≤ x) (vs : List Rat) : ∀ (g : S), (atLim x (worthO g) = true → reached g x = true) → reached (plays g vs) x = (reached g x || (worths g vs).any (atLim x)) := by
  induction vs with
  | nil =>
    intro g hg
    show reached g x = (reached g x || (atLim x (worthO g) || false))
    cases e : atLim x (worthO g) with
    | true => rw [hg e]; rfl
    | false => simp
  | cons v r ih =>
    intro g hg
    show reached (plays (play g v) r) x = (reached g x || (atLim x (worthO g) || (worths (play g v) r).any (atLim x)))
    have e1 := reached_play (g := g) (v := v) h
    rw [ih (play g v) (fun z => by rw [e1, z]; simp)]
    rw [e1]
    have hd : ∀ (g : S) (vs : List Rat), atLim x (worthO g) = true → (worths g vs).any (atLim x) = true := fun g vs z => by
      cases vs with
      | nil => show (atLim x (worthO g) || false) = true; rw [z]; rfl
      | cons _ _ => show (atLim x (worthO g) || _) = true; rw [z]; rfl
    cases e : atLim x (worthO g) with
    | true => rw [hg e]; simp
    | false =>
      cases e2 : atLim x (worthO (play g v)) with
      | true => rw [hd _ r e2]; simp
      | false => simp
theorem reached_init {x : Rat} (h : 0 ≤ x) (n : Nat) (ag : Bool) (top : Rat) (r : Ru.R) (vs : List Rat) : reached (plays (init n ag top r) vs) x = (worths (init n ag top r) vs).any (atLim x) := by
  have e : reached (init n ag top r) x = atLim x (worthO (init n ag top r)) := rfl
  rw [reached_worths h vs _ (fun z => by rw [e]; exact z), e]
  cases vs with
  | nil => show (atLim x _ || (atLim x _ || false)) = (atLim x _ || false); simp
  | cons v t =>
    show (atLim x _ || (atLim x _ || _)) = (atLim x _ || _)
    cases atLim x (worthO (init n ag top r)) <;> simp
theorem atLim_some {q x : Rat} : decide (q.den * x.den ≤ q.num * x.num) = atLim x (some q) := by
  show _ = !decide (q * x < 1)
  have e : (q * x < 1) ↔ (q.num * x.num < (q.den : Int) * (x.den : Int)) := by
    rw [← Fr.mul_eq, Rat.divInt_eq_div]
    have d : (0 : Int) < (q.den : Int) * (x.den : Int) := Int.mul_pos (Fr.den_pos q) (Fr.den_pos x)
    rw [Rat.div_lt_iff (Ru.cast_pos d), Rat.one_mul, Rat.intCast_lt_intCast]
  by_cases c : q * x < 1
  · rw [decide_eq_true c, decide_eq_false (by have := e.mp c; omega)]; rfl
  · rw [decide_eq_false c, decide_eq_true (Int.not_lt.mp fun z => c (e.mpr z))]; rfl
theorem divInt_nn {a b : Int} (h0 : 0 ≤ a) (h1 : 0 < b) : 0 ≤ Rat.divInt a b := by
  rw [Rat.divInt_eq_div]
  exact Rat.not_lt.mp fun z => by
    rw [Rat.div_lt_iff (Ru.cast_pos h1), Rat.zero_mul] at z
    exact absurd (Std.lt_of_lt_of_le z (Ru.cast_nn h0)) Rat.lt_irrefl
/-- nobody stands outside what a game allows -/
theorem std_plays {g : S} : ∀ (vs : List Rat), Std g → (∀ v ∈ vs, Vok g.top v) → (g.ag = false → g.vals.length + vs.length ≤ g.n) → g.vals.length + vs.length ≤ 60 → Std (plays g vs) := fun vs => by
  induction vs generalizing g with
  | nil => intro s _ _ _; exact s
  | cons v r ih =>
    intro s hv hn hl
    simp only [List.length_cons] at hn hl
    have o : ended g = false := by
      unfold ended
      cases ha : g.ag with
      | true => rfl
      | false =>
        have := hn ha
        rw [decide_eq_false (by omega)]
        rfl
    have pl : (play g v).vals.length = g.vals.length + 1 := by show (g.vals ++ [v]).length = _; simp
    refine ih (g := play g v) (std_play s o (by omega) (hv v (List.mem_cons_self ..))) (fun x hx => hv x (List.mem_cons_of_mem _ hx)) (fun ha => ?_) (by rw [pl]; omega)
    have := hn ha
    rw [pl]
    show _ ≤ g.n
    omega
theorem worths_sz {g : S} {vs : List Rat} {q : Rat} (s : Std g) (hv : ∀ v ∈ vs, Vok g.top v) (hn : g.ag = false → g.vals.length + vs.length ≤ g.n) (hl : g.vals.length + vs.length ≤ 60) (h : some q ∈ worths g vs) : Fr.Sz 9000 q := by
  have one : ∀ {g : S}, Std g → some q = worthO g → Fr.Sz 9000 q := fun {g} s e => by
    cases c : g.cert with
    | true => rw [show worthO g = none from if_pos c] at e; cases e
    | false =>
      rw [show worthO g = some g.now from if_neg (by rw [c]; decide)] at e
      cases e
      have := s.len
      exact (s.now c).mono (by omega)
  induction vs generalizing g with
  | nil => exact one s (List.mem_singleton.mp h)
  | cons v r ih =>
    rcases List.mem_cons.mp h with e | h
    · exact one s e
    · have e : plays g [v] = play g v := rfl
      have s' := std_plays [v] s (fun x hx => hv x (by rw [List.mem_singleton.mp hx]; exact List.mem_cons_self ..)) (fun ha => by have := hn ha; simp at this ⊢; omega) (by simp at hl ⊢; omega)
      rw [e] at s'
      have pl : (play g v).vals.length = g.vals.length + 1 := by show (g.vals ++ [v]).length = _; simp
      simp only [List.length_cons] at hn hl
      exact ih s' (fun x hx => hv x (List.mem_cons_of_mem _ hx)) (fun ha => by have := hn ha; rw [pl]; show _ ≤ g.n; omega) (by rw [pl]; omega) h
end Gm
namespace Lw
open PySem PySem.Spec PyProof.Rows L2 Gx
theorem Fqs.append {K : PySem.W.Frag} {H : Hp} : ∀ {vs us : List V} {qs rs : List Rat}, Fqs K H vs qs → Fqs K H us rs → Fqs K H (vs ++ us) (qs ++ rs)
  | _, _, _, _, .nil, b => b
  | _, _, _, _, .cons a r, b => .cons a (Fqs.append r b)
theorem Fqs.reverse {K : PySem.W.Frag} {H : Hp} : ∀ {vs : List V} {qs : List Rat}, Fqs K H vs qs → Fqs K H vs.reverse qs.reverse
  | _, _, .nil => .nil
  | _, _, .cons a r => by
    rw [List.reverse_cons, List.reverse_cons]
    exact Fqs.append (Fqs.reverse r) (.cons a .nil)
theorem sum_rev : ∀ qs : List Rat, sum qs.reverse = sum qs
  | [] => rfl
  | q :: r => by
    rw [List.reverse_cons, sum_snoc, sum_rev r]
    show _ = (q :: r).foldl (· + ·) 0
    rw [List.foldl_cons, foldl_add, Rat.zero_add, Rat.add_comm]
theorem Fqs.set {K : PySem.W.Frag} {H : Hp} {p : Addr} {q : Rat} (h : SqT K H p (Fr.fq q)) : ∀ (j : Nat) {vs : List V} {qs : List Rat}, Fqs K H vs qs → Fqs K H (vs.set j (.ref p)) (qs.set j q)
  | _, _, _, .nil => .nil
  | 0, _, _, .cons _ r => .cons ⟨p, rfl, h⟩ r
  | j + 1, _, _, .cons a r => .cons a (Fqs.set h j r)
theorem sum_none : ∀ {qs : List Rat}, (∀ i, qs.getD i 0 = 0) → sum qs = 0
  | [], _ => rfl
  | q :: r, h => by
    have h0 : q = 0 := h 0
    have h1 := sum_none (qs := r) fun i => h (i + 1)
    show (q :: r).foldl (· + ·) 0 = 0
    rw [List.foldl_cons, foldl_add, h1, h0, Rat.add_zero, Rat.add_zero]
end Lw
namespace Gg
open PySem PySem.Spec PyProof.Rows L2 Gx Gm
/-- how great the parts of a game are: of the common lower part d bits, of the top t, of the values v, of the rule z; L plays at most -/
structure Par where
  d : Nat
  t : Nat
  v : Nat
  z : Nat
  L : Nat
  pos : Bool := false
def Par.c (p : Par) : Nat := p.d + p.t + 6
def Par.m (p : Par) : Nat := p.d + p.t + 9
def Par.a (p : Par) : Nat := p.c + 2 * p.m + p.t + p.z + 40
def Par.s (p : Par) : Nat := p.a + p.v + p.m + 1
structure Par.Ok (p : Par) : Prop where
  v90 : p.v ≤ 90
  c1 : p.c ≤ 1000
  t2 : p.t ≤ 200
  z1 : p.z ≤ 1500
  m7 : p.m ≤ 700
  a1 : p.a ≤ 1500
  w8 : p.s * p.L + 1 ≤ 90000
  all : p.s * p.L + 1 + 2 * p.a + p.v + p.m + 3 ≤ 9000 ∨ (p.pos = true ∧ 2 * (2 * p.a + p.v + p.m + 3) ≤ 9000)
  L60 : p.L ≤ 60
/-- a value of a ballot -/
structure Vok (p : Par) (D : Nat) (top v : Rat) : Prop where
  nn : 0 ≤ v
  le : v ≤ top
  on : On D v
  sz : Fr.Sz p.v v
  ps : p.pos = true → 0 < v
structure Std (p : Par) (D : Nat) (g : S) : Prop where
  pk : p.Ok
  D0 : 0 < D
  Dd : D < 2 ^ p.d
  t0 : 0 < g.top
  ts : Fr.Sz p.t g.top
  ok : Ru.Ok p.z g.R
  n0 : 1 ≤ g.n
  n1 : g.n ≤ 60
  len : g.vals.length ≤ p.L
  vals : ∀ v ∈ g.vals, Vok p D g.top v
  few : g.ag = false → g.vals.length ≤ g.n
  cert : g.cert = (!g.ag && decide ((g.n : Rat) / 2 < Lw.sum g.vals))
  now : g.cert = false → Fr.Sz (p.s * g.vals.length + 1) g.now
  most : g.cert = false → Fr.Sz (p.s * g.vals.length + 1) g.most
  nn : 0 ≤ g.now
theorem std_init {p : Par} {D n : Nat} {ag : Bool} {top : Rat} {r : Ru.R} (pk : p.Ok) (D0 : 0 < D) (Dd : D < 2 ^ p.d) (t0 : 0 < top) (ts : Fr.Sz p.t top) (ok : Ru.Ok p.z r) (n0 : 1 ≤ n) (n1 : n ≤ 60) : Std p D (init n ag top r) where
  pk := pk
  D0 := D0
  Dd := Dd
  t0 := t0
  ts := ts
  ok := ok
  n0 := n0
  n1 := n1
  len := Nat.zero_le _
  vals := fun _ h => (nomatch h)
  few := fun _ => Nat.zero_le _
  cert := by
    show false = (!ag && decide ((n : Rat) / 2 < 0))
    have : ¬ (n : Rat) / 2 < 0 := fun z => by have := nat_nn n; grind
    rw [decide_eq_false this]
    simp
  now := fun _ => Ru.sz1 (by omega)
  most := fun _ => Ru.sz1 (by omega)
  nn := by show (0 : Rat) ≤ 1; decide +kernel
theorem sum_on {p : Par} {D : Nat} {top : Rat} (D0 : 0 < D) (Dd : D < 2 ^ p.d) (ts : Fr.Sz p.t top) {qs : List Rat} (h : ∀ q ∈ qs, Vok p D top q) (hl : qs.length ≤ 62) : ∃ N : Int, Lw.sum qs = Rat.divInt N (D : Int) ∧ 0 ≤ N ∧ N < 2 ^ p.c := by
  obtain ⟨N, hN⟩ := on_sum D0 fun q hq => (h q hq).on
  have s0 := sum_nn fun q hq => (h q hq).nn
  have s1 := sum_le fun q hq => (h q hq).le
  have tn : top.num.natAbs < 2 ^ p.t := ts.1
  have t1 : top ≤ ((top.num.natAbs : Nat) : Rat) := by
    have e := Gm.mul_den top
    have dp := nat_pos top.den_pos
    have d1 : (1 : Rat) ≤ (top.den : Rat) := by
      have : ((1 : Nat) : Rat) ≤ (top.den : Rat) := Rat.natCast_le_natCast.mpr top.den_pos
      exact this
    have n1 : (top.num : Rat) ≤ ((top.num.natAbs : Nat) : Rat) := by
      have : (top.num : Rat) ≤ (((top.num.natAbs : Nat) : Int) : Rat) := Rat.intCast_le_intCast.mpr (by omega)
      exact this
    have nn := nat_nn top.num.natAbs
    rcases Classical.em (top ≤ 0) with z | z
    · grind
    · have z : 0 < top := Rat.not_le.mp z
      have : top * 1 ≤ top * (top.den : Rat) := Rat.mul_le_mul_of_nonneg_left d1 (Rat.le_of_lt z)
      grind
  have ln : (qs.length : Rat) ≤ 62 := (show (qs.length : Rat) ≤ ((62 : Nat) : Rat) from Rat.natCast_le_natCast.mpr hl)
  have l0 := nat_nn qs.length
  have up : Lw.sum qs * (D : Rat) ≤ ((62 * top.num.natAbs * D : Nat) : Rat) := by
    rw [Rat.natCast_mul, Rat.natCast_mul]
    have dp := nat_nn D
    have m1 : (qs.length : Rat) * top ≤ (qs.length : Rat) * ((top.num.natAbs : Nat) : Rat) := Rat.mul_le_mul_of_nonneg_left t1 l0
    have m2 : (qs.length : Rat) * ((top.num.natAbs : Nat) : Rat) ≤ 62 * ((top.num.natAbs : Nat) : Rat) := Rat.mul_le_mul_of_nonneg_right ln (nat_nn _)
    have e : ((62 : Nat) : Rat) = 62 := rfl
    rw [e]
    exact Rat.mul_le_mul_of_nonneg_right (by grind) dp
  obtain ⟨N0, N1⟩ := on_num (M := 62 * top.num.natAbs * D) D0 (by rw [← hN]; exact s0) (by rw [← hN]; exact up)
  refine ⟨N, hN, N0, ?_⟩
  have b1 : 62 * top.num.natAbs * D < 2 ^ p.c := by
    have x1 : top.num.natAbs * D < 2 ^ p.t * 2 ^ p.d := Nat.mul_lt_mul'' tn Dd
    have x2 : 2 ^ p.c = 64 * (2 ^ p.t * 2 ^ p.d) := by
      unfold Par.c
      rw [Nat.pow_add, Nat.pow_add, Nat.mul_comm (2 ^ p.d), Nat.mul_comm]
    rw [x2, Nat.mul_assoc]
    have : 0 < 2 ^ p.t * 2 ^ p.d := Nat.mul_pos (Nat.two_pow_pos _) (Nat.two_pow_pos _)
    omega
  have b2 : ((2 ^ p.c : Nat) : Int) = (2 : Int) ^ p.c := by simp
  rw [← b2]
  omega
theorem sum_sz {p : Par} {D : Nat} {top : Rat} (D0 : 0 < D) (Dd : D < 2 ^ p.d) (ts : Fr.Sz p.t top) {qs : List Rat} (h : ∀ q ∈ qs, Vok p D top q) (hl : qs.length ≤ 62) : Fr.Sz p.c (Lw.sum qs) := by
  obtain ⟨N, hN, h0, h1⟩ := sum_on D0 Dd ts h hl
  rw [hN]
  have b2 : ((2 ^ p.c : Nat) : Int) = (2 : Int) ^ p.c := by simp
  refine Fr.sz_divInt (by omega) (by rw [← b2] at h1; omega) ?_
  rw [Int.natAbs_natCast]
  exact Nat.lt_of_lt_of_le Dd (Fr.pw (by unfold Par.c; omega))
theorem price_sz {p : Par} {D : Nat} {g : S} (s : Std p D g) (h : ended g = false) : Fr.Sz p.m (price g) := by
  unfold price
  by_cases c : g.ag = true
  · rw [if_pos c]
    have : (1/2 : Rat) = Rat.divInt 1 2 := by rw [Rat.divInt_eq_div]; rfl
    rw [this]
    have h4 : (4 : Nat) ≤ 2 ^ p.m := Fr.pw (a := 2) (by unfold Par.m; omega)
    exact Fr.sz_divInt (by decide) (by show 1 < 2 ^ p.m; omega) (by show 2 < 2 ^ p.m; omega)
  · rw [if_neg c]
    have ca : g.ag = false := by simpa using c
    have few := s.few ca
    have ne : g.vals.length ≠ g.n := fun e => by
      unfold ended at h
      rw [ca, decide_eq_true e] at h
      cases h
    have L60 := s.pk.L60
    have D0 := s.D0
    have Dd := s.Dd
    obtain ⟨N, hN, h0, h1⟩ := sum_on s.D0 s.Dd s.ts s.vals (by have := s.len; omega)
    have n1 := s.n1
    rw [hN]
    generalize hk : g.n - g.vals.length = k
    have k1 : 1 ≤ k ∧ k ≤ 60 := by omega
    have e : ((g.n : Rat) / 2 - Rat.divInt N (D : Int)) / (k : Rat) = Rat.divInt ((g.n : Int) * (D : Int) - 2 * N) (2 * ((D : Int) * (k : Int))) := by
      rw [Rat.divInt_eq_div, Rat.divInt_eq_div]
      simp only [Rat.intCast_sub, Rat.intCast_mul, Rat.intCast_natCast]
      have c1 := nat_pos (n := D) (by omega)
      have c2 := nat_pos (n := k) (by omega)
      have e2 : ((2 : Int) : Rat) = 2 := rfl
      rw [e2]
      generalize (D : Rat) = d at *
      generalize (k : Rat) = kk at *
      generalize (g.n : Rat) = nn at *
      generalize (N : Rat) = NN at *
      grind
    rw [e]
    have b2 : ((2 ^ p.c : Nat) : Int) = (2 : Int) ^ p.c := by simp
    rw [← b2] at h1
    have pm : 2 ^ p.m = 8 * 2 ^ p.c := by unfold Par.m Par.c; rw [show p.d + p.t + 9 = (p.d + p.t + 6) + 3 by omega, Nat.pow_add, Nat.mul_comm]
    have pd : 64 * 2 ^ p.d ≤ 2 ^ p.c := by
      unfold Par.c
      rw [show p.d + p.t + 6 = p.d + 6 + p.t by omega, Nat.pow_add, Nat.pow_add]
      have : 1 ≤ 2 ^ p.t := Nat.one_le_two_pow
      have : 2 ^ p.d * 2 ^ 6 * 1 ≤ 2 ^ p.d * 2 ^ 6 * 2 ^ p.t := Nat.mul_le_mul_left _ this
      omega
    have m1 : (g.n : Int) * (D : Int) ≤ 60 * (D : Int) := Int.mul_le_mul_of_nonneg_right (by omega) (by omega)
    have m0 : 0 ≤ (g.n : Int) * (D : Int) := Int.mul_nonneg (by omega) (by omega)
    have m2 : (D : Int) * (k : Int) ≤ (D : Int) * 60 := Int.mul_le_mul_of_nonneg_left (by omega) (by omega)
    have m3 : 0 < (D : Int) * (k : Int) := Int.mul_pos (by omega) (by omega)
    have dd : (D : Int) < ((2 ^ p.d : Nat) : Int) := by omega
    refine Fr.sz_divInt (by omega) ?_ ?_
    · omega
    · omega
theorem price_nn {p : Par} {D : Nat} {g : S} (s : Std p D g) (h : g.cert = false) (o : ended g = false) : 0 ≤ price g := by
  unfold price
  by_cases c : g.ag = true
  · rw [if_pos c]; decide +kernel
  · rw [if_neg c]
    have ca : g.ag = false := by simpa using c
    have e := s.cert
    rw [h, ca] at e
    have l : ¬ (g.n : Rat) / 2 < Lw.sum g.vals := fun z => by rw [decide_eq_true z] at e; cases e
    have few := s.few ca
    have ne : g.vals.length ≠ g.n := fun e => by
      unfold ended at o
      rw [ca, decide_eq_true e] at o
      cases o
    have kp := nat_pos (n := g.n - g.vals.length) (by omega)
    have a0 : 0 ≤ (g.n : Rat) / 2 - Lw.sum g.vals := by
      have := Rat.not_lt.mp l
      grind
    exact Rat.not_lt.mp fun z => by
      rw [Rat.div_lt_iff kp, Rat.zero_mul] at z
      exact absurd (Std.lt_of_lt_of_le z a0) Rat.lt_irrefl
theorem stake_sz {p : Par} {D : Nat} {g : S} (s : Std p D g) (o : ended g = false) : Fr.Sz p.a (stake g) :=
  (Ru.stake_sz s.ok (sum_sz s.D0 s.Dd s.ts s.vals (by have := s.len; have := s.pk.L60; omega)) (price_sz s o) s.ts (by have := s.len; have := s.pk.L60; omega)).mono (by unfold Par.a; omega)
theorem behind_sz {p : Par} {D : Nat} {g : S} (s : Std p D g) (h : g.cert = false) (o : ended g = false) {v : Rat} (hv : Vok p D g.top v) : Fr.Sz (p.s * (g.vals.length + 1) + 1) (behind g v) := by
  have e : p.s * (g.vals.length + 1) = p.s * g.vals.length + p.s := Nat.mul_succ ..
  unfold behind
  by_cases c : price g = 0
  · rw [if_pos c]; exact (s.now h).mono (by omega)
  · rw [if_neg c]
    have p0 : 0 < price g := by
      have := price_nn s h o
      grind
    have u := Ru.stake_unit s.ok g.vals (price g) g.top
    have z := grow_sz u.1 u.2 hv.nn p0 (stake_sz s o) hv.sz (price_sz s o)
    exact ((s.now h).mul z).mono (by unfold Par.s at e ⊢; omega)
theorem behind_nn {p : Par} {D : Nat} {g : S} (s : Std p D g) (h : g.cert = false) (o : ended g = false) {v : Rat} (hv : Vok p D g.top v) : 0 ≤ behind g v := by
  unfold behind
  by_cases c : price g = 0
  · rw [if_pos c]; exact s.nn
  · rw [if_neg c]
    have p0 : 0 < price g := by
      have := price_nn s h o
      grind
    have u := Ru.stake_unit s.ok g.vals (price g) g.top
    refine Rat.mul_nonneg s.nn ?_
    unfold grow
    have x1 : 0 ≤ 1 - stake g := by have := u.2; unfold stake; grind
    have x2 : 0 ≤ stake g * v / price g := by
      rw [Rat.div_def]
      exact Rat.mul_nonneg (Rat.mul_nonneg u.1 hv.nn) (Rat.le_of_lt (Rat.inv_pos.mpr p0))
    grind
theorem grow_ne {s v p : Rat} (s0 : 0 ≤ s) (s1 : s ≤ 1) (v0 : 0 < v) (p0 : 0 < p) : grow s v p ≠ 0 := fun z => by
  unfold grow at z
  have ip := Rat.inv_pos.mpr p0
  rw [Rat.div_def] at z
  have h1 : 0 ≤ s * v * p⁻¹ := Rat.mul_nonneg (Rat.mul_nonneg s0 (Rat.le_of_lt v0)) (Rat.le_of_lt ip)
  have e1 : s = 1 := by grind
  rw [e1, Rat.one_mul] at z
  have h2 : 0 < v * p⁻¹ := Rat.mul_pos v0 ip
  grind
theorem step_le {p : Par} {n : Nat} (h : n ≤ p.L) : p.s * n ≤ p.s * p.L := Nat.mul_le_mul_left _ h
theorem fits {p : Par} {D : Nat} {g : S} (s : Std p D g) (o : ended g = false) (l : g.vals.length < p.L) {v : Rat} (hv : Vok p D g.top v) : Fits g v p.v p.c p.t p.z where
  vals := fun q hq => (s.vals q hq).sz
  vz := hv.sz
  len := by have := s.pk.L60; omega
  n := s.n1
  sum := sum_sz s.D0 s.Dd s.ts s.vals (by have := s.pk.L60; omega)
  top := s.ts
  ok := s.ok
  bb := s.pk.v90
  bc := s.pk.c1
  bt := s.pk.t2
  bz := s.pk.z1
  open_ := o
  few := s.few
  live := fun h => by
    have e1 := step_le (p := p) (n := g.vals.length + 1) (by omega)
    have e2 : p.s * g.vals.length ≤ p.s * (g.vals.length + 1) := Nat.mul_le_mul_left _ (by omega)
    have := s.pk.w8
    have all := s.pk.all
    refine ⟨p.m, p.a, p.s * (g.vals.length + 1) + 1, price_sz s o, stake_sz s o, (s.now h).mono (by omega), (s.most h).mono (by omega), behind_sz s h o hv, s.pk.m7, s.pk.a1, by omega, ?_⟩
    rcases all with a9 | ⟨ps, a9⟩
    · exact .inl (by omega)
    · refine .inr ⟨fun c => ?_, a9⟩
      have p0 : 0 < price g := by
        have := price_nn s h o
        grind
      have u := Ru.stake_unit s.ok g.vals (price g) g.top
      exact grow_ne u.1 u.2 (hv.ps ps) p0
theorem std_play {p : Par} {D : Nat} {g : S} (s : Std p D g) (o : ended g = false) (l : g.vals.length < p.L) {v : Rat} (hv : Vok p D g.top v) : Std p D (play g v) where
  pk := s.pk
  D0 := s.D0
  Dd := s.Dd
  t0 := s.t0
  ts := s.ts
  ok := s.ok
  n0 := s.n0
  n1 := s.n1
  len := by show (g.vals ++ [v]).length ≤ p.L; simp; omega
  vals := fun x hx => by
    rcases List.mem_append.mp (show x ∈ g.vals ++ [v] from hx) with h | h
    · exact s.vals x h
    · rw [List.mem_singleton.mp h]; exact hv
  few := fun e => by
    have e : g.ag = false := e
    have f := s.few e
    show (g.vals ++ [v]).length ≤ g.n
    have ne : g.vals.length ≠ g.n := fun z => by
      unfold ended at o
      rw [e, decide_eq_true z] at o
      cases o
    simp; omega
  cert := by
    show certBehind g v = (!g.ag && decide ((g.n : Rat) / 2 < Lw.sum (g.vals ++ [v])))
    unfold certBehind
    cases ha : g.ag with
    | true =>
      have := s.cert
      rw [ha] at this
      rw [this]; rfl
    | false =>
      cases hc : g.cert with
      | false => rfl
      | true =>
        have e := s.cert
        rw [ha, hc] at e
        have lt : (g.n : Rat) / 2 < Lw.sum g.vals := of_decide_eq_true (by simpa using e.symm)
        have : (g.n : Rat) / 2 < Lw.sum (g.vals ++ [v]) := by
          rw [Lw.sum_snoc]
          have := hv.nn
          grind
        rw [decide_eq_true this]; rfl
  now := fun h => by
    have h : certBehind g v = false := h
    have nc : g.cert = false := by
      unfold certBehind at h
      cases e : g.cert with
      | false => rfl
      | true => rw [e] at h; simp at h
    show Fr.Sz (p.s * (g.vals ++ [v]).length + 1) (if g.cert = true then g.now else behind g v)
    rw [if_neg (by rw [nc]; decide), List.length_append, List.length_singleton]
    exact behind_sz s nc o hv
  most := fun h => by
    have h : certBehind g v = false := h
    have nc : g.cert = false := by
      unfold certBehind at h
      cases e : g.cert with
      | false => rfl
      | true => rw [e] at h; simp at h
    have e1 : p.s * g.vals.length ≤ p.s * (g.vals.length + 1) := Nat.mul_le_mul_left _ (by omega)
    show Fr.Sz (p.s * (g.vals ++ [v]).length + 1) (if certBehind g v = true then g.most else if g.most < behind g v then behind g v else g.most)
    rw [if_neg (by rw [h]; decide), List.length_append, List.length_singleton]
    split
    · exact behind_sz s nc o hv
    · exact (s.most nc).mono (by omega)
  nn := by
    show 0 ≤ (if g.cert = true then g.now else behind g v)
    cases c : g.cert with
    | true => exact s.nn
    | false => exact behind_nn s c o hv
theorem most_sz {p : Par} {D : Nat} {g : S} (s : Std p D g) : g.cert = false → Fr.Sz (p.s * p.L + 1) g.most := fun c => by
  have := step_le s.len
  exact (s.most c).mono (by omega)
theorem std_plays {p : Par} {D : Nat} {g : S} : ∀ (vs : List Rat), Std p D g → (∀ v ∈ vs, Vok p D g.top v) → (g.ag = false → g.vals.length + vs.length ≤ g.n) → g.vals.length + vs.length ≤ p.L → Std p D (plays g vs) := fun vs => by
  induction vs generalizing g with
  | nil => intro s _ _ _; exact s
  | cons v r ih =>
    intro s hv hn hl
    have o : ended g = false := by
      unfold ended
      cases e : g.ag with
      | true => rfl
      | false =>
        have := hn e
        rw [decide_eq_false (by simp at this; omega)]
        rfl
    have s' := std_play s o (by simp at hl; omega) (hv v (List.mem_cons_self ..))
    refine ih s' (fun x hx => hv x (List.mem_cons_of_mem _ hx)) (fun e => ?_) ?_
    · have := hn e
      show (g.vals ++ [v]).length + r.length ≤ g.n
      simp at this ⊢
      omega
    · show (g.vals ++ [v]).length + r.length ≤ p.L
      simp at hl ⊢
      omega
theorem open_of {p : Par} {D : Nat} {g : S} (h : g.ag = false → g.vals.length < g.n) : ended g = false := by
  unfold ended
  cases e : g.ag with
  | true => rfl
  | false => rw [decide_eq_false (by have := h e; omega)]; rfl
/-! behind how many plays a limit is reached -/
def hit (x : Rat) (g : S) : Bool := atLim x (worthO g)
def turn (x : Rat) (g : S) (vs : List Rat) : Option Nat := (List.range (vs.length + 1)).find? fun k => hit x (plays g (vs.take k))
theorem turn_some {x : Rat} {g : S} {vs : List Rat} {k : Nat} (hk : k ≤ vs.length) (h : hit x (plays g (vs.take k)) = true) (n : ∀ j, j < k → hit x (plays g (vs.take j)) = false) : turn x g vs = some k := by
  unfold turn
  rw [List.find?_range_eq_some]
  exact ⟨h, by simp; omega, fun j hj => by rw [n j hj]; rfl⟩
theorem turn_none {x : Rat} {g : S} {vs : List Rat} (n : ∀ j, j ≤ vs.length → hit x (plays g (vs.take j)) = false) : turn x g vs = none := by
  unfold turn
  rw [List.find?_range_eq_none]
  exact fun j hj => by rw [n j (by omega)]; rfl
/-- the game has reached it just where it hits, where it did not before -/
theorem reached_hit {x : Rat} (x0 : 0 ≤ x) {g : S} (r0 : reached g x = hit x g) {vs : List Rat} : ∀ {k : Nat}, k ≤ vs.length → (∀ j, j < k → hit x (plays g (vs.take j)) = false) → reached (plays g (vs.take k)) x = hit x (plays g (vs.take k))
  | 0, _, _ => by rw [List.take_zero]; exact r0
  | k + 1, hk, n => by
    have ih := reached_hit x0 r0 (vs := vs) (k := k) (by omega) fun j hj => n j (by omega)
    have e : vs.take (k + 1) = vs.take k ++ [vs[k]] := Lw.take_snoc (List.getElem?_eq_getElem (by omega))
    rw [e, plays_snoc, reached_play x0, ih, n k (by omega)]
    rfl
end Gg
namespace Lw
open PySem PySem.Spec PyProof.Rows L2 Gx
def turnV : Option Nat → V
  | none => .non
  | some k => .int (k : Int)
def dens : List Rat → Nat
  | [] => 1
  | q :: r => q.den * dens r
theorem dens_pos : ∀ qs : List Rat, 0 < dens qs
  | [] => by decide
  | q :: r => Nat.mul_pos q.den_pos (dens_pos r)
theorem on_mul {D d : Nat} (h : 0 < d) {x : Rat} : Gm.On D x → Gm.On (d * D) x
  | ⟨n, e⟩ => ⟨(d : Int) * n, by rw [e]; push_cast; exact (Rat.divInt_mul_left (by omega)).symm⟩
theorem on_den {D : Nat} (h : 0 < D) (x : Rat) : Gm.On (x.den * D) x := ⟨x.num * (D : Int), by
  push_cast
  rw [Rat.divInt_mul_right (by omega)]
  exact (Rat.num_divInt_den x).symm⟩
theorem on_dens : ∀ {qs : List Rat} {q : Rat}, q ∈ qs → Gm.On (dens qs) q
  | q :: r, x, h => by
    rcases List.mem_cons.mp h with h | h
    · subst h; exact on_den (dens_pos r) x
    · exact on_mul q.den_pos (on_dens h)
theorem dens_le : ∀ {qs : List Rat}, (∀ q ∈ qs, Fr.Sz 14 q) → dens qs ≤ 2 ^ (14 * qs.length)
  | [], _ => by decide
  | q :: r, h => by
    have h1 := (h q (List.mem_cons_self ..)).2
    have h2 := dens_le (qs := r) fun x hx => h x (List.mem_cons_of_mem _ hx)
    show q.den * dens r ≤ 2 ^ (14 * (r.length + 1))
    rw [Nat.mul_succ, Nat.add_comm, Nat.pow_add]
    exact Nat.mul_le_mul (by omega) h2
/-- the games of these laws -/
def PG : Gg.Par := ⟨99, 7, 14, 7, 12, false⟩
theorem PG_ok : PG.Ok := ⟨by decide, by decide, by decide, by decide, by decide, by decide, by decide, .inl (by decide), by decide⟩
/-- a value of these laws -/
structure Val (top q : Rat) : Prop where
  nn : 0 ≤ q
  le : q ≤ top
  sz : Fr.Sz 14 q
theorem vals_ok {top : Rat} {qs : List Rat} (h : ∀ q ∈ qs, Val top q) : ∀ q ∈ qs, Gg.Vok PG (dens qs) top q := fun q hq => ⟨(h q hq).nn, (h q hq).le, on_dens hq, (h q hq).sz, fun z => absurd z (by decide)⟩
theorem std0 {top : Rat} {qs : List Rat} {m : Nat} {b : Bool} {R : Ru.R} (h : ∀ q ∈ qs, Val top q) (l7 : qs.length ≤ 7) (t0 : 0 < top) (ts : Fr.Sz 7 top) (ok : Ru.Ok 7 R) (m1 : 1 ≤ m) (m60 : m ≤ 60) : Gg.Std PG (dens qs) (Gm.init m b top R) :=
  Gg.std_init PG_ok (dens_pos qs) (Nat.lt_of_le_of_lt (dens_le fun q hq => (h q hq).sz) (Nat.lt_of_le_of_lt (Fr.pw (b := 98) (by omega)) (by decide))) t0 ts ok m1 m60
theorem sh_fq (q : Rat) : Dt.Sh 1 (Fr.fqd q) := Dt.sh_tup fun d hd => by
  simp at hd
  rcases hd with rfl | rfl <;> exact Dt.sh_int _
theorem sh_fqs (qs : List Rat) : Dt.Sh 2 (.list (qs.map Fr.fqd)) := Dt.sh_lst fun d hd => by
  obtain ⟨q, _, rfl⟩ := List.mem_map.mp hd
  exact sh_fq q
/-! lists or tuples -/
def SqU (K : PySem.W.Frag) (H : Hp) (a : Addr) (xs : List V) : Prop := SqL K H a xs ∨ SqT K H a xs
theorem SqU.same {K : PySem.W.Frag} {H H' : Hp} {a : Addr} {xs : List V} (e : Same H H') (h : SqU K H a xs) : SqU K H' a xs := h.elim (fun h => .inl (seqL_same e h)) fun h => .inr (seqT_same e h)
theorem k_ixE {K : PySem.W.Frag} {H : Hp} {Q : VK} {v : V} {p : Addr} {xs : List V} {i : Int} (h : SqU K H p xs) (ha : atI xs i = some v) (q : Q v H) : rIx K (.ref p) (.int i) H Q := h.elim (fun h => k_ixL h ha q) fun h => k_ixT h ha q
theorem k_lenE {K : PySem.W.Frag} {H : Hp} {Q : VK} {p : Addr} {xs : List V} (q : Q (.int xs.length) H) (h : SqU K H p xs) : rLenU K [.ref p] H Q := h.elim (fun h => k_lenL q h) fun h => k_lenT q h
/-- the values of a draw's ballots -/
def pick (qs : List Rat) (s : List Int) : List Rat := s.map fun i => qs.getD i.toNat 0
def trn (qs : List Rat) (b : Bool) (top x : Rat) (R : Ru.R) (s : List Int) : Option Nat := Gg.turn x (Gm.init qs.length b top R) (pick qs s)
/-- so many are drawn at most -/
def nw (m n : Nat) (b : Bool) : Nat := if b then n else min n m
def trns (qs : List Rat) (b : Bool) (top x : Rat) (R : Ru.R) (n : Nat) : List (Option Nat) := (Al.al qs.length b (nw qs.length n b)).map (trn qs b top x R)
/-- what a plan is of -/
structure Plan (K : PySem.W.Frag) (H : Hp) (t lp : Addr) (us : List V) (qs : List Rat) (top x : Rat) (R : Ru.R) (b : Bool) (n : Nat) : Prop where
  fq : Fqs K H us qs
  l1 : 1 ≤ qs.length
  l7 : qs.length ≤ 7
  val : ∀ q ∈ qs, Val top q
  tp : SqT K H t (Fr.fq top)
  t0 : 0 < top
  ts : Fr.Sz 7 top
  ok : Ru.Ok 7 R
  lim : SqT K H lp (Fr.fq x)
  x0 : 0 < x
  sx : Fr.Sz 20 x
  n12 : n ≤ 12
  c40 : Cn.cnt (qs.length : Int) b (nw qs.length n b) ≤ 40
  c0 : Cn.cnt (qs.length : Int) b (nw qs.length n b) ≠ 0
theorem Plan.imm {K : PySem.W.Frag} {H H' : Hp} {t lp : Addr} {us : List V} {qs : List Rat} {top x : Rat} {R : Ru.R} {b : Bool} {n : Nat} (h : Plan K H t lp us qs top x R b n) (e : Imm H H') : Plan K H' t lp us qs top x R b n :=
  { h with fq := h.fq.imm e, tp := seqT_imm e h.tp, lim := seqT_imm e h.lim }
theorem Plan.same {K : PySem.W.Frag} {H H' : Hp} {t lp : Addr} {us : List V} {qs : List Rat} {top x : Rat} {R : Ru.R} {b : Bool} {n : Nat} (h : Plan K H t lp us qs top x R b n) (e : Same H H') : Plan K H' t lp us qs top x R b n := h.imm (imm_same e)
theorem nw12 {m n : Nat} {b : Bool} (h : n ≤ 12) : nw m n b ≤ 12 := by unfold nw; split <;> omega
theorem nw_few {m n : Nat} {b : Bool} (h : b = false) : nw m n b ≤ m := by subst h; exact Nat.min_le_right ..
theorem pick_len (qs : List Rat) (s : List Int) : (pick qs s).length = s.length := by unfold pick; simp
theorem pick_vals {top : Rat} {qs : List Rat} {s : List Int} (h : ∀ q ∈ qs, Val top q) (hs : ∀ i ∈ s, 0 ≤ i ∧ i < (qs.length : Int)) : ∀ q ∈ pick qs s, q ∈ qs := fun q hq => by
  obtain ⟨i, hi, rfl⟩ := List.mem_map.mp hq
  have := hs i hi
  rw [List.getD_eq_getElem?_getD, List.getElem?_eq_getElem (by omega)]
  exact List.getElem_mem _
section
variable {K : PySem.W.Frag} {H : Hp} {t lp : Addr} {us : List V} {qs : List Rat} {top x : Rat} {R : Ru.R} {b : Bool} {n : Nat}
theorem Plan.std (h : Plan K H t lp us qs top x R b n) : Gg.Std PG (dens qs) (Gm.init qs.length b top R) := std0 h.val h.l7 h.t0 h.ts h.ok h.l1 (by have := h.l7; omega)
theorem Plan.len (h : Plan K H t lp us qs top x R b n) : ((trns qs b top x R n).length : Int) = Cn.cnt (qs.length : Int) b (nw qs.length n b) := by
  unfold trns
  rw [List.length_map]
  exact Al.al_len _
theorem Plan.len40 (h : Plan K H t lp us qs top x R b n) : (trns qs b top x R n).length ≤ 40 ∧ 1 ≤ (trns qs b top x R n).length := by
  have h1 := h.len
  have h2 := h.c40
  have h3 := h.c0
  omega
end
/-! how surely a limit is reached by some turn -/
def by_ (k : Nat) : Option Nat → Bool
  | none => false
  | some j => decide (j ≤ k)
def sure (ts : List (Option Nat)) (k : Nat) : Rat := Rat.divInt (((ts.filter (by_ k)).length : Nat) : Int) ((ts.length : Nat) : Int)
def sures (ts : List (Option Nat)) (n : Nat) : List Rat := (List.range n).map (sure ts)
theorem sures_len (ts : List (Option Nat)) (n : Nat) : (sures ts n).length = n := by unfold sures; simp
theorem sures_snoc (ts : List (Option Nat)) (n : Nat) : sures ts (n + 1) = sures ts n ++ [sure ts n] := by unfold sures; simp [List.range_succ]
theorem sures_at {ts : List (Option Nat)} {n k : Nat} (h : k < n) : (sures ts n)[k]? = some (sure ts k) := by unfold sures; simp [h]
theorem sure_sz {ts : List (Option Nat)} (h : ts.length ≤ 40) (h1 : 1 ≤ ts.length) (k : Nat) : Fr.Sz 6 (sure ts k) := by
  have := List.length_filter_le (by_ k) ts
  exact Fr.sz_divInt (by omega) (by show _ < 64; omega) (by show _ < 64; omega)
theorem sure_mono {ts : List (Option Nat)} (h1 : 1 ≤ ts.length) (k : Nat) : ¬ sure ts (k + 1) < sure ts k := by
  have l : (ts.filter (by_ k)).length ≤ (ts.filter (by_ (k + 1))).length := by
    rw [← List.countP_eq_length_filter, ← List.countP_eq_length_filter]
    refine List.countP_mono_left fun x _ hx => ?_
    cases x with
    | none => exact hx
    | some j => have := of_decide_eq_true hx; exact decide_eq_true (by omega)
  unfold sure
  rw [Rat.divInt_eq_div, Rat.divInt_eq_div]
  simp only [Rat.intCast_natCast]
  have hp := Gm.nat_pos (n := ts.length) (by omega)
  have c : (((ts.filter (by_ k)).length : Nat) : Rat) ≤ (((ts.filter (by_ (k + 1))).length : Nat) : Rat) := Rat.natCast_le_natCast.mpr l
  intro z
  rw [Rat.div_lt_iff hp, Rat.div_def, Rat.mul_assoc, Rat.inv_mul_cancel _ (by grind), Rat.mul_one] at z
  grind
/-! what a plan costs -/
def one_ (N : Nat) : Option Nat → Nat
  | none => N
  | some k => k
def madeN (N : Nat) (ts : List (Option Nat)) : Nat := (ts.map (one_ N)).sum
def nonN (ts : List (Option Nat)) : Nat := ts.countP Option.isNone
def somes (ts : List (Option Nat)) : List Nat := ts.filterMap id
def drawQ (N : Nat) (ts : List (Option Nat)) : Rat := Rat.divInt ((madeN N ts : Nat) : Int) ((ts.length : Nat) : Int)
def cntQ (ts : List (Option Nat)) : Rat := Rat.divInt ((nonN ts : Nat) : Int) ((ts.length : Nat) : Int)
def costQ (N : Nat) (ts : List (Option Nat)) (e w : Rat) : Rat := drawQ N ts * e + cntQ ts * w
theorem made_snoc (N : Nat) (ts : List (Option Nat)) (o : Option Nat) : madeN N (ts ++ [o]) = madeN N ts + one_ N o := by unfold madeN; simp
theorem non_snoc (ts : List (Option Nat)) (o : Option Nat) : nonN (ts ++ [o]) = nonN ts + (if o.isNone = true then 1 else 0) := by
  unfold nonN
  rw [List.countP_append, List.countP_cons, List.countP_nil, Nat.zero_add]
theorem somes_snoc (ts : List (Option Nat)) (o : Option Nat) : somes (ts ++ [o]) = somes ts ++ (match o with | none => [] | some k => [k]) := by
  unfold somes
  cases o <;> simp
theorem made_eq (N : Nat) : ∀ ts : List (Option Nat), madeN N ts = (somes ts).sum + N * nonN ts
  | [] => by simp [madeN, somes, nonN]
  | none :: r => by
    have ih := made_eq N r
    have e1 : madeN N (none :: r) = N + madeN N r := by simp [madeN, one_]
    have e2 : somes (none :: r) = somes r := by simp [somes]
    have e3 : nonN (none :: r) = nonN r + 1 := by simp [nonN]
    rw [e1, e2, e3, ih, Nat.mul_add]
    omega
  | some k :: r => by
    have ih := made_eq N r
    have e1 : madeN N (some k :: r) = k + madeN N r := by simp [madeN, one_]
    have e2 : somes (some k :: r) = k :: somes r := by simp [somes]
    have e3 : nonN (some k :: r) = nonN r := by simp [nonN]
    rw [e1, e2, e3, ih, List.sum_cons]
    omega
theorem made_le {N : Nat} : ∀ {ts : List (Option Nat)}, (∀ o ∈ ts, one_ N o ≤ 12) → madeN N ts ≤ 12 * ts.length
  | [], _ => by simp [madeN]
  | o :: r, h => by
    have ih := made_le (ts := r) fun x hx => h x (List.mem_cons_of_mem _ hx)
    have := h o (List.mem_cons_self ..)
    have e1 : madeN N (o :: r) = one_ N o + madeN N r := by simp [madeN]
    rw [e1, List.length_cons]
    omega
theorem non_le (ts : List (Option Nat)) : nonN ts ≤ ts.length := List.countP_le_length
theorem turn_le {x : Rat} {g : Gm.S} {vs : List Rat} {k : Nat} (h : Gg.turn x g vs = some k) : k ≤ vs.length := by
  unfold Gg.turn at h
  have := List.mem_of_find?_eq_some h
  have := List.mem_range.mp this
  omega
theorem trns_le {qs : List Rat} {b : Bool} {top x : Rat} {R : Ru.R} {n : Nat} (h : n ≤ 12) : ∀ o ∈ trns qs b top x R n, one_ (nw qs.length n b) o ≤ 12 := fun o ho => by
  obtain ⟨s, hs, rfl⟩ := List.mem_map.mp ho
  have sl := (Al.al_ok hs).2
  have n12 := nw12 (m := qs.length) (b := b) h
  cases e : trn qs b top x R s with
  | none => exact n12
  | some k =>
    have := turn_le e
    rw [pick_len, sl] at this
    show k ≤ 12
    omega
theorem draw_sz {N : Nat} {ts : List (Option Nat)} (h : ts.length ≤ 40) (h1 : 1 ≤ ts.length) (hs : ∀ o ∈ ts, one_ N o ≤ 12) : Fr.Sz 9 (drawQ N ts) := by
  have := made_le hs
  exact Fr.sz_divInt (by omega) (by show _ < 512; omega) (by show _ < 512; omega)
theorem cnt_sz {ts : List (Option Nat)} (h : ts.length ≤ 40) (h1 : 1 ≤ ts.length) : Fr.Sz 9 (cntQ ts) := by
  have := non_le ts
  exact Fr.sz_divInt (by omega) (by show _ < 512; omega) (by show _ < 512; omega)
theorem dp_turn {K : PySem.W.Frag} {H : Hp} : ∀ ts : List (Option Nat), DpAll K H (ts.map turnV) (ts.map fun o => match o with | none => PyData.none | some k => .int (k : Int))
  | [] => .nil
  | none :: r => .cons .non (dp_turn r)
  | some k :: r => .cons (.int _) (dp_turn r)
theorem cnt_none : ∀ ts : List (Option Nat), (ts.map fun o => match o with | none => PyData.none | some k => .int (k : Int)).countP (fun z => PyData.eqv z .none) = nonN ts
  | [] => rfl
  | none :: r => by
    have ih := cnt_none r
    unfold nonN at *
    simp only [List.map_cons, List.countP_cons, ih]
    simp [PyData.eqv]
  | some k :: r => by
    have ih := cnt_none r
    unfold nonN at *
    simp only [List.map_cons, List.countP_cons, ih]
    simp [PyData.eqv]
theorem plain_turns : ∀ ts : List (Option Nat), PyData.plainAll (ts.map fun o => match o with | none => PyData.none | some k => .int (k : Int)) = true ∧ PyData.depthAll (ts.map fun o => match o with | none => PyData.none | some k => .int (k : Int)) ≤ 0
  | [] => ⟨by simp [PyData.plainAll], by simp [PyData.depthAll]⟩
  | none :: r => by
    have ih := plain_turns r
    exact ⟨by simp only [List.map_cons, PyData.plainAll, ih.1]; simp [PyData.plain], by simp only [List.map_cons, PyData.depthAll]; have := ih.2; simp [PyData.depth]; omega⟩
  | some k :: r => by
    have ih := plain_turns r
    exact ⟨by simp only [List.map_cons, PyData.plainAll, ih.1]; simp [PyData.plain], by simp only [List.map_cons, PyData.depthAll]; have := ih.2; simp [PyData.depth]; omega⟩
/-! the first of the least -/
def bst (cs : List Rat) : Nat → Nat
  | 0 => 0
  | i + 1 => if cs.getD i 0 < cs.getD (bst cs i) 0 then i else bst cs i
theorem bst_lt (cs : List Rat) : ∀ i : Nat, bst cs (i + 1) ≤ i
  | 0 => by
    show (if _ then 0 else 0) ≤ 0
    split <;> exact Nat.le_refl _
  | i + 1 => by
    show (if _ then i + 1 else bst cs (i + 1)) ≤ i + 1
    split
    · exact Nat.le_refl _
    · exact Nat.le_trans (bst_lt cs i) (Nat.le_succ _)
theorem bst_in {cs : List Rat} {i : Nat} (h : i < cs.length) : bst cs i < cs.length := by
  cases i with
  | zero => exact h
  | succ i => have := bst_lt cs i; omega
theorem Fqs.getD {K : PySem.W.Frag} {H : Hp} {vs : List V} {qs : List Rat} {i : Nat} (h : Fqs K H vs qs) (hi : i < qs.length) : ∃ p, atI vs (i : Int) = some (.ref p) ∧ vs[i]? = some (.ref p) ∧ SqT K H p (Fr.fq (qs.getD i 0)) := by
  have hl := h.len
  obtain ⟨p, q, e, hq, hp⟩ := h.get (i := i) (v := vs[i]'(by omega)) (by simp)
  refine ⟨p, by rw [← e]; exact atI_nat (by simp), by rw [← e]; simp, ?_⟩
  rw [List.getD_eq_getElem?_getD, hq]
  exact hp
end Lw
namespace Lw
open PySem PySem.Spec PyProof.Rows L2 Gx
/-! one value played again and again -/
def PA : Gg.Par := ⟨58, 60, 58, 7, 60, true⟩
theorem PA_ok : PA.Ok := ⟨by decide, by decide, by decide, by decide, by decide, by decide, by decide, .inr (by decide), by decide⟩
def PV : Gg.Par := ⟨12, 12, 12, 7, 12, false⟩
/-- what the values of a claim are parts of -/
def dnm : Cm.C → Nat
  | .over _ s => 2 * s.num.natAbs
  | .under _ s => 2 * (1 - s).num.natAbs
  | _ => 2
theorem on_half {k : Nat} (h : 0 < k) : Gm.On (2 * k) (1/2) := ⟨(k : Int), by
  have e : (1/2 : Rat) = Rat.divInt 1 2 := by rw [Rat.divInt_eq_div]; rfl
  rw [e, show ((2 * k : Nat) : Int) = 2 * (k : Int) by push_cast; rfl, show ((k : Nat) : Int) = 1 * (k : Int) by omega]
  conv => rhs; rw [Int.one_mul, show (k : Int) = 1 * (k : Int) by omega, show 2 * (1 * (k : Int)) = 2 * (k : Int) by omega]
  exact (Rat.divInt_mul_right (by omega)).symm⟩
theorem on_over {s : Rat} (h : 0 < s) : Gm.On (2 * s.num.natAbs) ((1/2) / s) := ⟨(s.den : Int), by
  have := Cm.num_pos h
  rw [show ((2 * s.num.natAbs : Nat) : Int) = 2 * s.num by omega]
  exact (Cm.half_over s).symm⟩
theorem nat_ne {s : Rat} (h : 0 < s) : 0 < s.num.natAbs := by
  have := Cm.num_pos h
  omega
theorem sz_one_sub {s : Rat} (h : Fr.Sz 7 s) : Fr.Sz 10 (1 - s) := ((Ru.sz1 (n := 2) (by decide)).sub h).mono (by decide)
theorem on_one : Gm.On 2 1 := ⟨2, by decide +kernel⟩
theorem on_val {c : Cm.C} (ok : Cm.Ok 7 c) (m : Option Str) : Gm.On (dnm c) (Cm.value c m) ∧ 0 < dnm c ∧ dnm c < 2 ^ 12 := by
  cases c with
  | claim =>
    refine ⟨?_, by decide, by decide⟩
    unfold Cm.value Cm.valueOf
    split
    · exact Gm.on_zero _
    · exact on_half (k := 1) (by decide)
  | beats o t =>
    refine ⟨?_, by show 0 < 2; decide, by show 2 < 2 ^ 12; decide⟩
    unfold Cm.value Cm.valueOf
    split
    · exact Gm.on_zero _
    · show Gm.On 2 (if _ then _ else if _ then _ else _)
      split
      · exact on_one
      · split
        · exact Gm.on_zero _
        · exact on_half (k := 1) (by decide)
  | over k s =>
    have n1 := ok.2.2.1
    have n0 := nat_ne ok.1
    refine ⟨?_, by show 0 < 2 * _; omega, by show 2 * s.num.natAbs < 2 ^ 12; omega⟩
    unfold Cm.value Cm.valueOf
    split
    · exact Gm.on_zero _
    · show Gm.On (2 * s.num.natAbs) (if _ then _ else if _ then _ else _)
      split
      · exact on_half n0
      · split
        · exact on_over ok.1
        · exact Gm.on_zero _
  | under k s =>
    have n1 := (sz_one_sub ok.2.2).1
    have p1 := (Cm.sub_pos ok.2.1).1
    have n0 := nat_ne p1
    refine ⟨?_, by show 0 < 2 * _; omega, by show 2 * (1 - s).num.natAbs < 2 ^ 12; omega⟩
    unfold Cm.value Cm.valueOf
    split
    · exact Gm.on_zero _
    · show Gm.On (2 * (1 - s).num.natAbs) (if _ then _ else if _ then _ else _)
      split
      · exact on_half n0
      · split
        · exact Gm.on_zero _
        · exact on_over p1
theorem sum30 {c : Cm.C} (ok : Cm.Ok 7 c) {ms : List (Option Str)} (l : ms.length ≤ 60) : Fr.Sz 30 (sum (ms.map (Cm.value c))) := by
  have o := on_val ok none
  refine Gg.sum_sz (p := PV) (D := dnm c) (top := Cm.greatest c) o.2.1 o.2.2 (Cm.sz_greatest ok) (fun q hq => ?_) (by rw [List.length_map]; omega)
  obtain ⟨m, _, rfl⟩ := List.mem_map.mp hq
  exact ⟨(Cm.val_nn c ok m).1, (Cm.val_nn c ok m).2, (on_val ok m).1, Cm.sz_value c ok m, fun z => absurd z (by decide)⟩
theorem scale_sz {c : Cm.C} (ok : Cm.Ok 7 c) {ms : List (Option Str)} (l1 : 1 ≤ ms.length) (l : ms.length ≤ 60) : Fr.Sz 57 (Wy.scale c ms) := by
  have z1 := sum30 ok l
  have z2 : Fr.Sz 36 (Wy.mean c ms) := z1.div (Wy.szn (k := 6) (by omega) (by decide))
  have z3 := (Wy.sz2.mul z2).sub (Ru.sz1 (n := 1) (by decide))
  have z4 := z3.div (Cm.sz_greatest ok)
  exact (Wy.sz2.sub z4).mono (by decide)
/-- the value that is played, and the greatest -/
def alv (c : Cm.C) (ms : List (Option Str)) : Rat := 1 / Wy.scale c ms
def alt (c : Cm.C) (ms : List (Option Str)) : Rat := 2 / Wy.scale c ms
def alN (ms : List (Option Str)) (b : Bool) : Nat := if b then 60 else min 60 ms.length
def alturn (c : Cm.C) (ms : List (Option Str)) (x : Rat) (R : Ru.R) (b : Bool) : Option Nat := Gg.turn x (Gm.init ms.length b (alt c ms) R) (List.replicate (alN ms b) (alv c ms))
section
variable {c : Cm.C} (ok : Cm.Ok 7 c) {ms : List (Option Str)} (l1 : 1 ≤ ms.length) (l : ms.length ≤ 60)
include ok l1
theorem al_pos : 0 < alv c ms ∧ 0 < alt c ms ∧ alv c ms ≤ alt c ms := by
  have p := Wy.scale_pos ok l1
  have ip := Rat.inv_pos.mpr p
  unfold alv alt
  rw [Rat.div_def, Rat.div_def, Rat.one_mul]
  grind
include l
theorem al_szs : Fr.Sz 58 (alv c ms) ∧ Fr.Sz 60 (alt c ms) :=
  ⟨((Ru.sz1 (n := 1) (by decide)).div (scale_sz ok l1 l)).mono (by decide), ((Wy.sz2).div (scale_sz ok l1 l)).mono (by decide)⟩
theorem al_vok : Gg.Vok PA (alv c ms).den (alt c ms) (alv c ms) := ⟨Rat.le_of_lt (al_pos ok l1).1, (al_pos ok l1).2.2, ⟨(alv c ms).num, (Rat.num_divInt_den _).symm⟩, (al_szs ok l1 l).1, fun _ => (al_pos ok l1).1⟩
theorem al_std {b : Bool} {R : Ru.R} (okR : Ru.Ok 7 R) : Gg.Std PA (alv c ms).den (Gm.init ms.length b (alt c ms) R) :=
  Gg.std_init PA_ok (alv c ms).den_pos (al_szs ok l1 l).1.2 (al_pos ok l1).2.1 (al_szs ok l1 l).2 okR l1 l
end
theorem alN_le {ms : List (Option Str)} {b : Bool} : alN ms b ≤ 60 := by unfold alN; split <;> omega
theorem alN_few {ms : List (Option Str)} {b : Bool} (h : b = false) : alN ms b ≤ ms.length := by subst h; exact Nat.min_le_right ..
/-- the margin -/
def marg (c : Cm.C) (ms : List (Option Str)) : Rat := 2 * Wy.mean c ms - 1
theorem marg_sz {c : Cm.C} (ok : Cm.Ok 7 c) {ms : List (Option Str)} (l1 : 1 ≤ ms.length) (l : ms.length ≤ 60) : Fr.Sz 41 (marg c ms) := by
  have z1 := sum30 ok l
  have z2 : Fr.Sz 36 (Wy.mean c ms) := z1.div (Wy.szn (k := 6) (by omega) (by decide))
  exact (Wy.sz2.mul z2).sub (Ru.sz1 (n := 1) (by decide))
theorem two_sub_form {x : Rat} : Rat.divInt (2 * (x.den : Int) - x.num) (x.den : Int) = 2 - x := by
  have e1 := Gm.mul_den x
  rw [Rat.divInt_eq_div, Rat.intCast_sub, Rat.intCast_mul, Rat.intCast_natCast, ← e1]
  have c1 := Gm.nat_pos (n := x.den) x.den_pos
  have e2 : ((2 : Int) : Rat) = 2 := rfl
  rw [e2]
  generalize (x.den : Rat) = d at *
  grind
theorem inv_form {x : Rat} : Rat.divInt (x.den : Int) x.num = 1 / x := by rw [Rat.div_def, Rat.inv_def, Rat.one_mul]
theorem alt_form (c : Cm.C) (ms : List (Option Str)) : Rat.divInt 2 1 * alv c ms = alt c ms := by
  have e : Rat.divInt 2 1 = 2 := by decide +kernel
  rw [e]
  unfold alv alt
  rw [Rat.div_def, Rat.div_def, Rat.one_mul]
/-- what is due: the turn, or that there is no margin -/
def dueV (c : Cm.C) (ms : List (Option Str)) (x : Rat) (R : Ru.R) (b : Bool) : V := if decide (Cm.holds c ms) = true then turnV (alturn c ms x R b) else .str (Str.ofString "margin")
end Lw
namespace Au
open PySem PySem.Spec PyProof.Rows L2 Gx
/-- a way: looked at alone, or compared with some marks -/
structure W where
  b : Bool
  c : Cm.C
  ts : List (Option Str)
def W.val (w : W) (i : Nat) (m : Option Str) : Rat := if w.b = true then Cm.value w.c m else Wy.cmp w.c w.ts (w.ts.getD i none) m
def W.top (w : W) : Rat := if w.b = true then Cm.greatest w.c else 2 / Wy.scale w.c w.ts
/-- a contest's games -/
structure Sh where
  names : List Str
  lim : Rat
  ws : List W
  gs : List Gm.S
structure A where
  ss : List Sh
  n : Nat
  ag : Bool
  most : Nat
  nums : List Int
def Sh.sure (s : Sh) : Bool := s.gs.all fun g => Gm.reached g s.lim
def playW (i : Nat) (m : Option Str) (ws : List W) (gs : List Gm.S) : List Gm.S := List.zipWith (fun w g => Gm.play g (w.val i m)) ws gs
def Sh.play (s : Sh) (i : Nat) (m : Option Str) : Sh := { s with gs := playW i m s.ws s.gs }
def A.sure (a : A) : List Bool := a.ss.map Sh.sure
def A.full (a : A) : Bool := decide (a.nums.length = a.most) || (!a.ag && decide (a.nums.length = a.n))
def A.verdict (a : A) : Str := if (a.sure.all id) = true then Str.ofString "sure" else if a.full = true then Str.ofString "count" else Str.ofString "on"
def q : Option Str := some (Str.ofString "?")
/-- a ballot's marks, those of one that lacks -/
def marksOf (k : Nat) : Option (List (Option Str)) → List (Option Str)
  | none => List.replicate k q
  | some ms => ms
def A.draw (a : A) (i : Nat) (o : Option (List (Option Str))) : A := { a with ss := List.zipWith (fun s m => s.play i m) a.ss (marksOf a.ss.length o), nums := a.nums ++ [(i : Int)] }
/-- the audit as it begins -/
def Sh.init (names : List Str) (lim : Rat) (ws : List W) (n : Nat) (ag : Bool) (R : Ru.R) : Sh := ⟨names, lim, ws, ws.map fun w => Gm.init n ag w.top R⟩
theorem verdict_eq {a : A} : a.verdict = Str.ofString "on" ↔ (a.sure.all id) = false ∧ a.full = false := by
  unfold A.verdict
  have n1 : Str.ofString "sure" ≠ Str.ofString "on" := by decide +kernel
  have n2 : Str.ofString "count" ≠ Str.ofString "on" := by decide +kernel
  cases h : a.sure.all id <;> cases g : a.full <;> simp [n1, n2]
end Au
namespace Au
open PySem PySem.Spec PyProof.Rows L2 Gx
/-- what asking for a limit wants of sizes -/
def LOk (x : Rat) (g : Gm.S) : Prop := ∃ m n, (g.cert = false → Fr.Sz m g.most) ∧ Fr.Sz n x ∧ (m + n ≤ 9000 ∨ (m + n ≤ 1000000 ∧ x ≠ 0 ∧ 2 * n ≤ 9000))
end Au
namespace Au
open PySem PySem.Spec PyProof.Rows L2 Gx
def Sh.worths (s : Sh) : List (Option Rat) := s.gs.map Gm.worthO
def A.worths (a : A) : List (List (Option Rat)) := a.ss.map Sh.worths
def free (a : A) (i : Int) : Bool := a.ag || !decide (i ∈ a.nums)
theorem in_ints (i : Int) : ∀ ns : List Int, inV (.int i) (ns.map V.int) = decide (i ∈ ns)
  | [] => rfl
  | n :: r => by
    have ih := in_ints i r
    unfold inV at ih ⊢
    rw [List.map_cons, List.any_cons, ih]
    have e : eqV (V.int n) (V.int i) = decide (n = i) := by
      show (n == i) = _
      by_cases h : n = i
      · simp [h]
      · rw [decide_eq_false h, beq_eq_false_iff_ne.mpr h]
    rw [e]
    by_cases h : n = i
    · simp [h]
    · have h2 : ¬ i = n := fun z => h z.symm
      simp [h, h2]
end Au
namespace Au
open PySem PySem.Spec PyProof.Rows L2 Gx
/-- a ballot's marks are the contests' -/
def BOk (ss : List Sh) : Option (List (Option Str)) → Prop
  | none => True
  | some ms => ms.length = ss.length ∧ ∀ (i : Nat) (s : Sh) (m : Option Str), ss[i]? = some s → ms[i]? = some m → (m = none ∨ m = some (Str.ofString "") ∨ ∃ n ∈ s.names, m = some n)
/-- what a draw wants of an audit -/
structure DOk (a : A) (i : Nat) (o : Option (List (Option Str))) : Prop where
  len : a.ss.length ≤ 60
  pos : 1 ≤ a.ss.length
  num : i < a.n
  free : free a i = true
  bal : BOk a.ss o
  few : a.nums.length ≤ 1000
  gs : ∀ s ∈ a.ss, s.ws.length = s.gs.length ∧ s.gs.length ≤ 1000
  lim : ∀ s ∈ a.ss, ∀ g ∈ s.gs, LOk s.lim g
  lim2 : ∀ s ∈ (a.draw i o).ss, ∀ g ∈ s.gs, LOk s.lim g
  fits : ∀ (j k : Nat) (s : Sh) (m : Option Str) (w : W) (g : Gm.S), a.ss[j]? = some s → (marksOf a.ss.length o)[j]? = some m → s.ws[k]? = some w → s.gs[k]? = some g → ∃ b c t z, Gm.Fits g (W.val w i m) b c t z
theorem marks_len {ss : List Sh} {o : Option (List (Option Str))} (h : BOk ss o) : (marksOf ss.length o).length = ss.length := by
  cases o with
  | none => exact List.length_replicate ..
  | some ms => exact h.1
theorem play_len {i : Nat} {m : Option Str} {ws : List W} {gs : List Gm.S} (h : ws.length = gs.length) : (playW i m ws gs).length = gs.length := by
  unfold playW
  rw [List.length_zipWith]
  omega
theorem draw_get {a : A} {i : Nat} {o : Option (List (Option Str))} {j : Nat} {s : Sh} {m : Option Str} (h : a.ss[j]? = some s) (g : (marksOf a.ss.length o)[j]? = some m) : (a.draw i o).ss[j]? = some (s.play i m) := by
  show (List.zipWith _ a.ss (marksOf a.ss.length o))[j]? = _
  rw [List.getElem?_zipWith, h, g]
theorem draw_nums (a : A) (i : Nat) (o : Option (List (Option Str))) : (a.draw i o).nums = a.nums ++ [(i : Int)] := rfl
/-! as an audit begins, looking -/
def look (cs : List Cm.C) : List W := cs.map fun c => ⟨true, c, []⟩
/-- a contest, the told outcome, the limit -/
abbrev T3 : Type := Co.C × List Str × Rat
def mkSh (n : Nat) (ag : Bool) (R : Ru.R) (t : T3) : Sh := Sh.init (Co.names t.1) t.2.2 (look (Co.claimsC t.1 t.2.1)) n ag R
def A.init (ts : List T3) (n : Nat) (ag : Bool) (most : Nat) (R : Ru.R) : A := ⟨ts.map (mkSh n ag R), n, ag, most, []⟩
def Out3 (K : PySem.W.Frag) (H : Hp) (ws : List V) (ts : List T3) : Prop := Paired (fun v (t : T3) => Co.Out K H v (some t.2.1)) ws ts
theorem Out3.same {K : PySem.W.Frag} {H H' : Hp} (e : Same H H') : ∀ {ws : List V} {ts : List T3}, Out3 K H ws ts → Out3 K H' ws ts
  | _, _, .nil => .nil
  | _, _, .cons h r => .cons (h.same e) (Out3.same e r)
/-- a contest and an outcome that could be -/
structure TOk (t : T3) : Prop where
  g : Co.Good (Co.names t.1) t.1
  n60 : (Co.names t.1).length ≤ 60
  nm : ∀ s ∈ Co.names t.1, Pl.Nm s
  fit : Co.fitC t.1 t.2.1
theorem no_claim {c : Co.C} {os : List Str} : ∀ x ∈ Co.claimsC c os, x ≠ .claim := fun x hx => by
  cases c with
  | bare ns => cases hx
  | most ns k =>
    obtain ⟨o, _, h⟩ := List.mem_flatMap.mp hx
    obtain ⟨t, _, rfl⟩ := List.mem_map.mp h
    intro z; cases z
  | part ns s =>
    have hx : x ∈ Co.partC ns s os := hx
    unfold Co.partC at hx
    split at hx <;> (obtain ⟨t, _, rfl⟩ := List.mem_map.mp hx; intro z; cases z)
end Au
namespace Au
open PySem PySem.Spec PyProof.Rows L2 Gx
/-- a way whose values a game can be played with -/
def WGood (p : Gg.Par) (D n : Nat) (w : W) : Prop := 0 < D ∧ D < 2 ^ p.d ∧ 0 < w.top ∧ Fr.Sz p.t w.top ∧ ∀ i m, i < n → Gg.Vok p D w.top (w.val i m)
/-- an audit whose games stand well -/
structure Fin (p : Gg.Par) (a : A) : Prop where
  pk : p.Ok
  len : ∀ s ∈ a.ss, s.ws.length = s.gs.length
  l2 : ∀ s ∈ a.ss, s.gs.length ≤ 1000
  gs : ∀ s ∈ a.ss, ∀ (k : Nat) (w : W) (g : Gm.S), s.ws[k]? = some w → s.gs[k]? = some g → ∃ D, Gg.Std p D g ∧ g.n = a.n ∧ g.ag = a.ag ∧ g.top = w.top ∧ g.vals.length = a.nums.length ∧ ∀ i m, i < a.n → Gg.Vok p D w.top (w.val i m)
/-- room for a further draw -/
structure Op (p : Gg.Par) (a : A) : Prop where
  few : a.ag = false → a.nums.length < a.n
  l : a.nums.length < p.L
theorem op_game {p : Gg.Par} {a : A} {D : Nat} {g : Gm.S} (o : Op p a) (s : Gg.Std p D g) (e1 : g.n = a.n) (e2 : g.ag = a.ag) (e3 : g.vals.length = a.nums.length) : Gm.ended g = false ∧ g.vals.length < p.L :=
  ⟨Gg.open_of (p := p) (D := D) fun h => by rw [e2] at h; have := o.few h; omega, by have := o.l; omega⟩
theorem draw_mem {a : A} {i : Nat} {o : Option (List (Option Str))} {s : Sh} (h : s ∈ (a.draw i o).ss) : ∃ (j : Nat) (s0 : Sh) (m : Option Str), a.ss[j]? = some s0 ∧ (marksOf a.ss.length o)[j]? = some m ∧ s = s0.play i m := by
  have h : s ∈ List.zipWith (fun s m => s.play i m) a.ss (marksOf a.ss.length o) := h
  obtain ⟨j, hj, e⟩ := List.getElem_of_mem h
  rw [List.length_zipWith] at hj
  rw [List.getElem_zipWith] at e
  exact ⟨j, _, _, List.getElem?_eq_getElem (by omega), List.getElem?_eq_getElem (by omega), e.symm⟩
theorem play_get {i : Nat} {m : Option Str} {ws : List W} {gs : List Gm.S} {k : Nat} {g : Gm.S} (h : (playW i m ws gs)[k]? = some g) : ∃ w g0, ws[k]? = some w ∧ gs[k]? = some g0 ∧ g = Gm.play g0 (w.val i m) := by
  unfold playW at h
  rw [List.getElem?_zipWith] at h
  cases h1 : ws[k]? with
  | none => rw [h1] at h; cases h
  | some w =>
    cases h2 : gs[k]? with
    | none => rw [h1, h2] at h; cases h
    | some g0 =>
      rw [h1, h2] at h
      exact ⟨w, g0, rfl, rfl, (Option.some.inj h).symm⟩
theorem fin_draw {p : Gg.Par} {a : A} (f : Fin p a) {i : Nat} {o : Option (List (Option Str))} (hi : i < a.n) (op : Op p a) : Fin p (a.draw i o) where
  pk := f.pk
  len := fun s hs => by
    obtain ⟨j, s0, m, h1, h2, rfl⟩ := draw_mem hs
    have h := f.len s0 (List.mem_of_getElem? h1)
    show s0.ws.length = (playW i m s0.ws s0.gs).length
    rw [play_len h, h]
  l2 := fun s hs => by
    obtain ⟨j, s0, m, h1, h2, rfl⟩ := draw_mem hs
    have h := f.len s0 (List.mem_of_getElem? h1)
    show (playW i m s0.ws s0.gs).length ≤ 1000
    rw [play_len h]
    exact f.l2 s0 (List.mem_of_getElem? h1)
  gs := fun s hs k w g hw hg => by
    obtain ⟨j, s0, m, h1, h2, rfl⟩ := draw_mem hs
    obtain ⟨w', g0, e1, e2, rfl⟩ := play_get (show (playW i m s0.ws s0.gs)[k]? = some g from hg)
    have hw : s0.ws[k]? = some w := hw
    rw [hw] at e1
    obtain rfl := Option.some.inj e1
    obtain ⟨D, st, n1, n2, n3, n4, vk⟩ := f.gs s0 (List.mem_of_getElem? h1) k w g0 hw e2
    obtain ⟨oe, ol⟩ := op_game op st n1 n2 n4
    refine ⟨D, Gg.std_play st oe ol (by rw [n3]; exact vk i m hi), n1, n2, n3, ?_, vk⟩
    show (g0.vals ++ [_]).length = (a.nums ++ [_]).length
    rw [List.length_append, List.length_append, n4]
    rfl
/-- the limits' sizes beside the games' -/
def LimOk (p : Gg.Par) (x : Rat) : Prop := ∃ b, Fr.Sz b x ∧ (p.s * p.L + 1 + b ≤ 9000 ∨ (p.s * p.L + 1 + b ≤ 1000000 ∧ x ≠ 0 ∧ 2 * b ≤ 9000))
theorem fin_lok {p : Gg.Par} {a : A} (f : Fin p a) (hl : ∀ s ∈ a.ss, LimOk p s.lim) : ∀ s ∈ a.ss, ∀ g ∈ s.gs, LOk s.lim g := fun s hs g hg => by
  obtain ⟨k, hk, e⟩ := List.getElem_of_mem hg
  have lw := f.len s hs
  obtain ⟨D, st, _⟩ := f.gs s hs k _ g (List.getElem?_eq_getElem (by omega)) (by rw [List.getElem?_eq_getElem hk, e])
  obtain ⟨b, sb, h⟩ := hl s hs
  exact ⟨_, b, Gg.most_sz st, sb, h⟩
theorem lim_draw {p : Gg.Par} {a : A} {i : Nat} {o : Option (List (Option Str))} (hl : ∀ s ∈ a.ss, LimOk p s.lim) : ∀ s ∈ (a.draw i o).ss, LimOk p s.lim := fun s hs => by
  obtain ⟨j, s0, m, h1, h2, rfl⟩ := draw_mem hs
  exact hl s0 (List.mem_of_getElem? h1)
theorem fin_dok {p : Gg.Par} {a : A} (f : Fin p a) (hl : ∀ s ∈ a.ss, LimOk p s.lim) (l0 : 1 ≤ a.ss.length) (l1 : a.ss.length ≤ 60) {i : Nat} {o : Option (List (Option Str))} (hi : i < a.n) (op : Op p a) (fr : free a i = true) (bal : BOk a.ss o) : DOk a i o where
  len := l1
  pos := l0
  num := hi
  free := fr
  bal := bal
  few := by have := op.l; have := f.pk.L60; omega
  gs := fun s hs => ⟨f.len s hs, f.l2 s hs⟩
  lim := fin_lok f hl
  lim2 := fin_lok (fin_draw f hi op) (lim_draw hl)
  fits := fun j k s m w g h1 h2 h3 h4 => by
    obtain ⟨D, st, n1, n2, n3, n4, vk⟩ := f.gs s (List.mem_of_getElem? h1) k w g h3 h4
    obtain ⟨oe, ol⟩ := op_game op st n1 n2 n4
    exact ⟨_, _, _, _, Gg.fits st oe ol (by rw [n3]; exact vk i m hi)⟩
/-! many draws -/
abbrev Dr : Type := Nat × Option (List (Option Str))
def A.draws (a : A) (ds : List Dr) : A := ds.foldl (fun a d => a.draw d.1 d.2) a
theorem draws_snoc (a : A) (ds : List Dr) (d : Dr) : a.draws (ds ++ [d]) = (a.draws ds).draw d.1 d.2 := by simp [A.draws]
theorem draw_len {a : A} {i : Nat} {o : Option (List (Option Str))} (h : BOk a.ss o) : (a.draw i o).ss.length = a.ss.length := by
  show (List.zipWith _ a.ss (marksOf a.ss.length o)).length = _
  rw [List.length_zipWith, marks_len h]
  omega
theorem bok_draw {a : A} {i : Nat} {o o' : Option (List (Option Str))} (h : BOk a.ss o) (h' : BOk a.ss o') : BOk (a.draw i o).ss o' := by
  cases o' with
  | none => trivial
  | some ms =>
    refine ⟨by rw [draw_len h]; exact h'.1, fun j s m hs hm => ?_⟩
    have hs : (List.zipWith (fun s m => s.play i m) a.ss (marksOf a.ss.length o))[j]? = some s := hs
    rw [List.getElem?_zipWith] at hs
    cases h1 : a.ss[j]? with
    | none => rw [h1] at hs; cases hs
    | some s0 =>
      cases h2 : (marksOf a.ss.length o)[j]? with
      | none => rw [h1, h2] at hs; cases hs
      | some m0 =>
        rw [h1, h2] at hs
        cases Option.some.inj hs
        exact h'.2 j s0 m h1 hm
def markAt (k : Nat) : Option (List (Option Str)) → Option Str
  | none => q
  | some ms => ms.getD k none
theorem marks_at {n j : Nat} {o : Option (List (Option Str))} {m : Option Str} (h : (marksOf n o)[j]? = some m) : m = markAt j o := by
  cases o with
  | none =>
    have h : (List.replicate n q)[j]? = some m := h
    rw [List.getElem?_replicate] at h
    split at h
    · exact (Option.some.inj h).symm
    · cases h
  | some ms =>
    have h : ms[j]? = some m := h
    show m = ms.getD j none
    rw [List.getD_eq_getElem?_getD, h]
    rfl
/-- a sheet's games behind some draws -/
def Sh.plays (k : Nat) (s : Sh) (ds : List Dr) : Sh := { s with gs := List.zipWith (fun w g => Gm.plays g (ds.map fun d => W.val w d.1 (markAt k d.2))) s.ws s.gs }
theorem zip_nil {α β : Type} : ∀ {as : List α} {bs : List β}, as.length = bs.length → List.zipWith (fun _ b => b) as bs = bs
  | [], [], _ => rfl
  | _ :: as, b :: bs, h => by rw [List.zipWith_cons_cons, zip_nil (by simpa using h)]
theorem plays_nil {k : Nat} {s : Sh} (h : s.ws.length = s.gs.length) : Sh.plays k s [] = s := by
  obtain ⟨n, x, ws, gs⟩ := s
  unfold Sh.plays
  simp only [List.map_nil]
  rw [show (fun (w : W) (g : Gm.S) => Gm.plays g []) = fun _ g => g from rfl, zip_nil h]
theorem draw_at {a : A} {i : Nat} {o : Option (List (Option Str))} (h : BOk a.ss o) (k : Nat) : (a.draw i o).ss[k]? = (a.ss[k]?).map fun s => s.play i (markAt k o) := by
  show (List.zipWith (fun s m => s.play i m) a.ss (marksOf a.ss.length o))[k]? = _
  rw [List.getElem?_zipWith]
  cases h1 : a.ss[k]? with
  | none => rfl
  | some s =>
    have hk := (List.getElem?_eq_some_iff.mp h1).1
    have hm : k < (marksOf a.ss.length o).length := by rw [marks_len h]; exact hk
    rw [List.getElem?_eq_getElem hm, Option.map_some, ← marks_at (List.getElem?_eq_getElem hm)]
theorem plays_cons {k : Nat} {s : Sh} {d : Dr} {ds : List Dr} : Sh.plays k (s.play d.1 (markAt k d.2)) ds = Sh.plays k s (d :: ds) := by
  obtain ⟨n, x, ws, gs⟩ := s
  unfold Sh.plays Sh.play playW
  simp only [List.map_cons]
  congr 1
  apply List.ext_getElem?
  intro j
  simp only [List.getElem?_zipWith]
  cases ws[j]? with
  | none => rfl
  | some w =>
    cases gs[j]? with
    | none => rfl
    | some g => rfl
theorem draws_get : ∀ {ds : List Dr} {a : A}, (∀ d ∈ ds, BOk a.ss d.2) → (∀ s ∈ a.ss, s.ws.length = s.gs.length) → ∀ (k : Nat), (a.draws ds).ss[k]? = (a.ss[k]?).map fun s => Sh.plays k s ds
  | [], a, _, hl, k => by
    show a.ss[k]? = _
    cases h : a.ss[k]? with
    | none => rfl
    | some s => rw [Option.map_some, plays_nil (hl s (List.mem_of_getElem? h))]
  | d :: ds, a, hb, hl, k => by
    have h0 := hb d (List.mem_cons_self ..)
    have ih := draws_get (ds := ds) (a := a.draw d.1 d.2) (fun e he => bok_draw h0 (hb e (List.mem_cons_of_mem _ he))) (fun s hs => by
      obtain ⟨j, s0, m, h1, h2, rfl⟩ := draw_mem hs
      have h := hl s0 (List.mem_of_getElem? h1)
      show s0.ws.length = (playW _ m s0.ws s0.gs).length
      rw [play_len h, h]) k
    show ((a.draw d.1 d.2).draws ds).ss[k]? = _
    rw [ih, draw_at h0]
    cases a.ss[k]? with
    | none => rfl
    | some s => rw [Option.map_some, Option.map_some, Option.map_some, plays_cons]
theorem draws_nums (a : A) : ∀ (ds : List Dr), (a.draws ds).nums = a.nums ++ ds.map fun d => (d.1 : Int) := fun ds => by
  induction ds generalizing a with
  | nil => simp [A.draws]
  | cons d ds ih =>
    show ((a.draw d.1 d.2).draws ds).nums = _
    rw [ih, draw_nums, List.append_assoc]
    rfl
theorem draws_stay (a : A) : ∀ (ds : List Dr), (a.draws ds).n = a.n ∧ (a.draws ds).ag = a.ag ∧ (a.draws ds).most = a.most := fun ds => by
  induction ds generalizing a with
  | nil => exact ⟨rfl, rfl, rfl⟩
  | cons d ds ih => exact ih (a.draw d.1 d.2)
theorem draws_len {a : A} {ds : List Dr} (hb : ∀ d ∈ ds, BOk a.ss d.2) (hl : ∀ s ∈ a.ss, s.ws.length = s.gs.length) : (a.draws ds).ss.length = a.ss.length := by
  rcases Nat.lt_trichotomy (a.draws ds).ss.length a.ss.length with h | h | h
  · have e := draws_get hb hl (a.draws ds).ss.length
    rw [List.getElem?_eq_none (Nat.le_refl _), List.getElem?_eq_getElem h] at e
    cases e
  · exact h
  · have e := draws_get hb hl a.ss.length
    rw [List.getElem?_eq_none (l := a.ss) (Nat.le_refl _), List.getElem?_eq_getElem h] at e
    cases e
/-! the audit as it begins -/
theorem fin_init {p : Gg.Par} {ts : List T3} {n : Nat} {ag : Bool} {most : Nat} {R : Ru.R} (pk : p.Ok) (ok : Ru.Ok p.z R) (n0 : 1 ≤ n) (n1 : n ≤ 60) (hc : ∀ t ∈ ts, (Co.claimsC t.1 t.2.1).length ≤ 1000 ∧ ∀ c ∈ Co.claimsC t.1 t.2.1, ∃ D, WGood p D n ⟨true, c, []⟩) : Fin p (A.init ts n ag most R) where
  pk := pk
  len := fun s hs => by
    obtain ⟨t, ht, rfl⟩ := List.mem_map.mp hs
    show (look _).length = ((look _).map _).length
    rw [List.length_map]
  l2 := fun s hs => by
    obtain ⟨t, ht, rfl⟩ := List.mem_map.mp hs
    show ((look _).map _).length ≤ 1000
    unfold look
    rw [List.length_map, List.length_map]
    exact (hc t ht).1
  gs := fun s hs k w g hw hg => by
    obtain ⟨t, ht, rfl⟩ := List.mem_map.mp hs
    have hw : (look (Co.claimsC t.1 t.2.1))[k]? = some w := hw
    have hg : ((look (Co.claimsC t.1 t.2.1)).map fun w => Gm.init n ag w.top R)[k]? = some g := hg
    rw [List.getElem?_map, hw] at hg
    obtain rfl := (Option.some.inj hg).symm
    unfold look at hw
    rw [List.getElem?_map] at hw
    cases hcc : (Co.claimsC t.1 t.2.1)[k]? with
    | none => rw [hcc] at hw; cases hw
    | some c =>
      rw [hcc] at hw
      obtain rfl := (Option.some.inj hw).symm
      obtain ⟨D, d0, d1, t0, tz, vk⟩ := (hc t ht).2 c (List.mem_of_getElem? hcc)
      exact ⟨D, Gg.std_init pk d0 d1 t0 tz ok n0 n1, rfl, rfl, rfl, rfl, vk⟩
end Au
namespace Co
open PySem PySem.Spec PyProof.Rows L2 Gx
/-! some names, going round -/
def round (ns : List Str) (f k : Nat) : List Str := (List.range k).map fun i => ns.getD ((f + i) % ns.length) (Str.ofString "")
theorem round_len (ns : List Str) (f k : Nat) : (round ns f k).length = k := by unfold round; rw [List.length_map, List.length_range]
theorem round_get {ns : List Str} {f k i : Nat} (h : i < k) (h0 : 0 < ns.length) : ∃ hj : (f + i) % ns.length < ns.length, (round ns f k)[i]? = some (ns[(f + i) % ns.length]'hj) := by
  have hj := Nat.mod_lt (f + i) h0
  refine ⟨hj, ?_⟩
  unfold round
  rw [List.getElem?_map, List.getElem?_range h, Option.map_some, List.getD_eq_getElem?_getD, List.getElem?_eq_getElem hj]
  rfl
theorem mod_inj {n f i j : Nat} (hi : i < n) (hj : j < n) (e : (f + i) % n = (f + j) % n) : i = j := by
  have h1 := Nat.div_add_mod (f + i) n
  have h2 := Nat.div_add_mod (f + j) n
  rw [e] at h1
  generalize (f + i) / n = a at h1
  generalize (f + j) / n = b at h2
  generalize (f + j) % n = r at h1 h2
  rcases Nat.lt_trichotomy a b with c | c | c
  · have : n * (a + 1) ≤ n * b := Nat.mul_le_mul_left _ c
    rw [Nat.mul_add, Nat.mul_one] at this
    omega
  · subst c; omega
  · have : n * (b + 1) ≤ n * a := Nat.mul_le_mul_left _ c
    rw [Nat.mul_add, Nat.mul_one] at this
    omega
theorem round_mem {ns : List Str} {f k : Nat} (h0 : 0 < ns.length) : ∀ s ∈ round ns f k, s ∈ ns := fun s hs => by
  obtain ⟨i, hi, e⟩ := List.getElem_of_mem hs
  rw [round_len] at hi
  obtain ⟨hj, g⟩ := round_get (f := f) hi h0
  have : (round ns f k)[i]? = some s := by rw [← e]; exact List.getElem?_eq_getElem _
  rw [g] at this
  rw [← Option.some.inj this]
  exact List.getElem_mem _
theorem round_nd {ns : List Str} (nd : ns.Nodup) {f k : Nat} (hk : k ≤ ns.length) (h0 : 0 < ns.length) : (round ns f k).Nodup := by
  refine List.pairwise_iff_getElem.mpr fun i j hi hj hij e => ?_
  rw [round_len] at hi hj
  obtain ⟨h1, g1⟩ := round_get (f := f) hi h0
  obtain ⟨h2, g2⟩ := round_get (f := f) hj h0
  have e1 : (round ns f k)[i]? = (round ns f k)[j]? := by rw [List.getElem?_eq_getElem (by rw [round_len]; exact hi), List.getElem?_eq_getElem (by rw [round_len]; exact hj), e]
  rw [g1, g2] at e1
  have e2 := Option.some.inj e1
  have h3 : (f + i) % ns.length = (f + j) % ns.length := by
    rcases Nat.lt_trichotomy ((f + i) % ns.length) ((f + j) % ns.length) with c | c | c
    · exact absurd e2 (List.pairwise_iff_getElem.mp nd _ _ h1 h2 c)
    · exact c
    · exact absurd e2.symm (List.pairwise_iff_getElem.mp nd _ _ h2 h1 c)
  have := mod_inj (by omega) (by omega) h3
  omega
theorem filter_len {ns sm : List Str} (nd : ns.Nodup) (ns2 : sm.Nodup) (h : ∀ s ∈ sm, s ∈ ns) : (ns.filter (has sm)).length = sm.length := by
  refine List.Perm.length_eq ((List.perm_ext_iff_of_nodup (nd.filter _) ns2).mpr fun s => ?_)
  rw [List.mem_filter, has_iff]
  exact ⟨fun z => z.2, fun z => ⟨h s z, z⟩⟩
/-- the names met going round, in the contest's order, are an outcome -/
theorem round_fit {ns : List Str} (nd : ns.Nodup) {f k : Nat} (hk : k < ns.length) : fit ns k (ns.filter (has (round ns f k))) := by
  have h0 : 0 < ns.length := by omega
  refine ⟨?_, ?_⟩
  · rw [filter_len nd (round_nd nd (by omega) h0) (round_mem h0), round_len]
  · exact sub_filter List.filter_sublist nd
end Co
namespace Ag
open PySem PySem.Spec PyProof.Rows L2 Gx
/-! contests told as names and seats -/
abbrev C : Type := List Str × Nat
def Kq (K : PySem.W.Frag) (H : Hp) (p : Addr) (c : C) : Prop := ∃ q, SqT K H p [.ref q, .int (c.2 : Int)] ∧ SqT K H q (c.1.map V.str)
theorem Kq.imm {K : PySem.W.Frag} {H H' : Hp} (e : Imm H H') {p : Addr} {c : C} : Kq K H p c → Kq K H' p c
  | ⟨q, h, g⟩ => ⟨q, seqT_imm e h, seqT_imm e g⟩
def Kqs (K : PySem.W.Frag) (H : Hp) (vs : List V) (cs : List C) : Prop := Paired (fun v c => ∃ p, v = V.ref p ∧ Kq K H p c) vs cs
theorem Kqs.imm {K : PySem.W.Frag} {H H' : Hp} (e : Imm H H') : ∀ {vs : List V} {cs : List C}, Kqs K H vs cs → Kqs K H' vs cs
  | _, _, .nil => .nil
  | _, _, .cons ⟨p, h, g⟩ r => .cons ⟨p, h, g.imm e⟩ (Kqs.imm e r)
theorem Kqs.len {K : PySem.W.Frag} {H : Hp} {vs : List V} {cs : List C} (h : Kqs K H vs cs) : vs.length = cs.length := Paired.length h
theorem Kqs.get {K : PySem.W.Frag} {H : Hp} : ∀ {vs : List V} {cs : List C} {i : Nat}, Kqs K H vs cs → i < vs.length → ∃ p c, vs[i]? = some (.ref p) ∧ cs[i]? = some c ∧ Kq K H p c
  | _, _, 0, .cons ⟨p, h, g⟩ r, _ => ⟨p, _, by rw [h]; rfl, rfl, g⟩
  | _, _, i + 1, .cons _ r, l => Kqs.get (i := i) r (by simpa using l)
theorem Kqs.snoc {K : PySem.W.Frag} {H : Hp} {p : Addr} {c : C} (h : Kq K H p c) : ∀ {vs : List V} {cs : List C}, Kqs K H vs cs → Kqs K H (vs ++ [.ref p]) (cs ++ [c])
  | _, _, .nil => .cons ⟨p, rfl, h⟩ .nil
  | _, _, .cons x r => .cons x (Kqs.snoc h r)
structure Fit (c : C) : Prop where
  k1 : 1 ≤ c.2
  kn : c.2 < c.1.length
  n8 : c.1.length ≤ 8
  nd : c.1.Nodup
  nm : ∀ s ∈ c.1, Pl.Nm s
def BalOk (cs : List C) (o : Option (List (Option Str))) : Prop := ∀ ms, o = some ms → ms.length = cs.length ∧ ∀ (i : Nat) (c : C) (m : Option Str), cs[i]? = some c → ms[i]? = some m → Cm.Mk c.1 false m
/-- what a draw brings a game -/
def gr (s v : Rat) : Rat := (1 - s) + s * (2 * v)
def wor (s : Rat) (vs : List Rat) : Rat := vs.foldl (fun w v => w * gr s v) 1
theorem wor_snoc (s : Rat) (vs : List Rat) (v : Rat) : wor s (vs ++ [v]) = wor s vs * gr s v := by simp [wor]
theorem wor_perm {s : Rat} {as bs : List Rat} (h : as.Perm bs) : wor s as = wor s bs := by
  unfold wor
  have key : ∀ (l : List Rat) (w : Rat), l.foldl (fun w v => w * gr s v) w = w * l.foldl (fun w v => w * gr s v) 1 := fun l => by
    induction l with
    | nil => intro w; simp
    | cons a l ih => intro w; rw [List.foldl_cons, List.foldl_cons, ih (w * gr s a), ih (1 * gr s a), Rat.one_mul, Rat.mul_assoc]
  induction h with
  | nil => rfl
  | cons x _ ih => rw [List.foldl_cons, List.foldl_cons, key _ (1 * gr s x), ih, ← key _ (1 * gr s x)]
  | swap x y l =>
    rw [List.foldl_cons, List.foldl_cons, List.foldl_cons, List.foldl_cons]
    congr 1
    rw [Rat.one_mul, Rat.one_mul, Rat.mul_comm]
  | trans _ _ a b => rw [a, b]
/-- a game of a fixed stake, put back -/
structure Fx (s : Rat) (g : Gm.S) : Prop where
  ag : g.ag = true
  cert : g.cert = false
  R : g.R = .fixed s
theorem fx_step {s : Rat} {g : Gm.S} (h : Fx s g) (v : Rat) : Fx s (Gm.play g v) ∧ (Gm.play g v).now = g.now * gr s v ∧ (Gm.play g v).most = if g.most < g.now * gr s v then g.now * gr s v else g.most := by
  have pr : Gm.price g = 1/2 := if_pos h.ag
  have st : Gm.stake g = s := by unfold Gm.stake; rw [h.R]; rfl
  have cb : Gm.certBehind g v = false := by unfold Gm.certBehind; rw [h.cert, h.ag]; rfl
  have be : Gm.behind g v = g.now * gr s v := by
    unfold Gm.behind
    rw [pr, if_neg (by decide +kernel), st]
    unfold Gm.grow gr
    congr 2
    grind
  refine ⟨⟨h.ag, cb, h.R⟩, ?_, ?_⟩
  · show (if g.cert = true then g.now else Gm.behind g v) = _
    rw [if_neg (by rw [h.cert]; decide), be]
  · show (if Gm.certBehind g v = true then g.most else if g.most < Gm.behind g v then Gm.behind g v else g.most) = _
    rw [if_neg (by rw [cb]; decide), be]
theorem fx_now {s : Rat} : ∀ (vs : List Rat) (g : Gm.S), Fx s g → Fx s (Gm.plays g vs) ∧ (Gm.plays g vs).now = vs.foldl (fun w v => w * gr s v) g.now
  | [], g, h => ⟨h, rfl⟩
  | v :: vs, g, h => by
    obtain ⟨h1, h2, _⟩ := fx_step h v
    have := fx_now vs (Gm.play g v) h1
    rw [h2] at this
    exact this
theorem fx_most {s : Rat} (s0 : 0 ≤ s) (s1 : s ≤ 1) : ∀ (vs : List Rat) (g : Gm.S) (M : Rat), Fx s g → (∀ v ∈ vs, 0 ≤ v ∧ v ≤ 1) → 0 ≤ g.now → g.now ≤ M → g.most ≤ M → (Gm.plays g vs).most ≤ M * 2 ^ vs.length
  | [], g, M, _, _, _, _, h => by rw [show M * 2 ^ ([] : List Rat).length = M by simp [Rat.mul_one]]; exact h
  | v :: vs, g, M, fx, hv, n0, n1, m1 => by
    obtain ⟨h1, h2, h3⟩ := fx_step fx v
    obtain ⟨v0, v1⟩ := hv v (List.mem_cons_self ..)
    have g0 : 0 ≤ gr s v := by
      unfold gr
      have : 0 ≤ s * v := Rat.mul_nonneg s0 v0
      grind
    have g2 : gr s v ≤ 2 := by
      unfold gr
      have a1 : s * v ≤ s * 1 := Rat.mul_le_mul_of_nonneg_left v1 s0
      grind
    have M0 : 0 ≤ M := Rat.le_trans n0 n1
    have b1 : g.now * gr s v ≤ M * 2 := by
      have a1 : g.now * gr s v ≤ g.now * 2 := Rat.mul_le_mul_of_nonneg_left g2 n0
      have a2 : g.now * 2 ≤ M * 2 := by
        have := Rat.mul_le_mul_of_nonneg_left n1 (show (0 : Rat) ≤ 2 by decide)
        grind
      exact Rat.le_trans a1 a2
    have ih := fx_most s0 s1 vs (Gm.play g v) (M * 2) h1 (fun x hx => hv x (List.mem_cons_of_mem _ hx)) (by rw [h2]; exact Rat.mul_nonneg n0 g0) (by rw [h2]; exact b1) (by
      rw [h3]
      split
      · exact b1
      · grind)
    show (Gm.plays (Gm.play g v) vs).most ≤ _
    rw [List.length_cons, Rat.pow_succ, show M * (2 ^ vs.length * 2) = M * 2 * 2 ^ vs.length by grind]
    exact ih
/-- so the limit of these laws is not reached in twelve draws -/
theorem not_reached {s : Rat} (s0 : 0 ≤ s) (s1 : s ≤ 1) {n : Nat} {top : Rat} {vs : List Rat} (l : vs.length ≤ 12) (hv : ∀ v ∈ vs, 0 ≤ v ∧ v ≤ 1) : Gm.reached (Gm.plays (Gm.init n true top (.fixed s)) vs) (Rat.divInt 1 999999) = false := by
  have fx : Fx s (Gm.init n true top (.fixed s)) := ⟨rfl, rfl, rfl⟩
  have m := fx_most s0 s1 vs _ 1 fx hv (show (0 : Rat) ≤ 1 by decide) (show (1 : Rat) ≤ 1 by decide) (show (1 : Rat) ≤ 1 by decide)
  have c := (fx_now vs _ fx).1.cert
  have p2 : (2 : Rat) ^ vs.length ≤ 4096 := by
    have : ∀ k : Nat, k ≤ 12 → (2 : Rat) ^ k ≤ 4096 := by decide +kernel
    exact this _ l
  unfold Gm.reached
  rw [c]
  have h : (Gm.plays (Gm.init n true top (.fixed s)) vs).most ≤ 4096 := by
    rw [Rat.one_mul] at m
    exact Rat.le_trans m p2
  generalize (Gm.plays (Gm.init n true top (.fixed s)) vs).most = x at h
  have e : Rat.divInt 1 999999 = 1 / 999999 := by rw [Rat.divInt_eq_div]; rfl
  have : x * Rat.divInt 1 999999 < 1 := by rw [e]; grind
  rw [decide_eq_true this]
  rfl
end Ag
namespace Ag
open PySem PySem.Spec PyProof.Rows L2 Gx
def lim : Rat := Rat.divInt 1 999999
def ts (cs : List C) (oss : List (List Str)) : List Au.T3 := (cs.zip oss).map fun p => (Co.C.most p.1.1 p.1.2, p.2, lim)
def P49 : Gg.Par := ⟨2, 2, 5, 7, 12, false⟩
theorem P49_ok : P49.Ok := ⟨by decide, by decide, by decide, by decide, by decide, by decide, by decide, .inl (by decide), by decide⟩
theorem lim_ok : Au.LimOk P49 lim := ⟨20, Fr.sz_divInt (by decide) (by decide) (by decide), .inl (by decide)⟩
theorem wgood (n : Nat) (o t : Str) : Au.WGood P49 2 n ⟨true, .beats o t, []⟩ :=
  ⟨by decide, by decide, (by decide : (0 : Rat) < 1), Ru.sz1 (by decide), fun i m _ => by
    obtain ⟨h1, h2⟩ := Cm.val_nn (n := 7) (.beats o t) trivial m
    exact ⟨h1, h2, (Lw.on_val (c := .beats o t) trivial m).1, Cm.sz_value (n := 0) (.beats o t) trivial m, fun z => by cases z⟩⟩
/-- what these laws' audits are of -/
structure Set (cs : List C) (oss : List (List Str)) (n : Nat) (s : Rat) : Prop where
  c1 : 1 ≤ cs.length
  c2 : cs.length ≤ 10
  ol : oss.length = cs.length
  fit : ∀ c ∈ cs, Fit c
  ofit : ∀ (k : Nat) (c : C) (os : List Str), cs[k]? = some c → oss[k]? = some os → Co.fit c.1 c.2 os
  n1 : 1 ≤ n
  n60 : n ≤ 60
  s0 : 0 ≤ s
  s1 : s ≤ 1
  sz : Fr.Sz 7 s
def A0 (cs : List C) (oss : List (List Str)) (n : Nat) (s : Rat) : Au.A := Au.A.init (ts cs oss) n true 60 (.fixed s)
theorem ts_len {cs : List C} {oss : List (List Str)} {n : Nat} {s : Rat} (h : Set cs oss n s) : (ts cs oss).length = cs.length := by
  unfold ts
  rw [List.length_map, List.length_zip, h.ol]
  omega
theorem ts_get {cs : List C} {oss : List (List Str)} {n : Nat} {s : Rat} (h : Set cs oss n s) {k : Nat} {c : C} (hc : cs[k]? = some c) : ∃ os, oss[k]? = some os ∧ (ts cs oss)[k]? = some (Co.C.most c.1 c.2, os, lim) := by
  have hk := (List.getElem?_eq_some_iff.mp hc).1
  have ho : oss[k]? = some (oss[k]'(by rw [h.ol]; exact hk)) := List.getElem?_eq_getElem _
  refine ⟨_, ho, ?_⟩
  unfold ts
  have hz : (cs.zip oss)[k]? = some (c, oss[k]'(by rw [h.ol]; exact hk)) := List.getElem?_zip_eq_some.mpr ⟨hc, ho⟩
  rw [List.getElem?_map, hz]
  rfl
theorem ts_mem {cs : List C} {oss : List (List Str)} {n : Nat} {s : Rat} (h : Set cs oss n s) {t : Au.T3} (ht : t ∈ ts cs oss) : ∃ c os, c ∈ cs ∧ t = (Co.C.most c.1 c.2, os, lim) ∧ Fit c ∧ Co.fit c.1 c.2 os := by
  obtain ⟨k, hk, e⟩ := List.getElem_of_mem ht
  have hk' := hk
  rw [ts_len h] at hk'
  obtain ⟨os, ho, g⟩ := ts_get h (List.getElem?_eq_getElem hk')
  rw [List.getElem?_eq_getElem hk, e] at g
  exact ⟨_, os, List.getElem_mem hk', Option.some.inj g, h.fit _ (List.getElem_mem _), h.ofit k _ os (List.getElem?_eq_getElem hk') ho⟩
theorem tok {cs : List C} {oss : List (List Str)} {n : Nat} {s : Rat} (h : Set cs oss n s) : ∀ t ∈ ts cs oss, Au.TOk t := fun t ht => by
  obtain ⟨c, os, _, rfl, f, g⟩ := ts_mem h ht
  have := f.n8
  exact ⟨.inl ⟨c.2, rfl, f.k1, f.kn⟩, by show c.1.length ≤ 60; omega, f.nm, g⟩
theorem claims_len {ns os : List Str} {k : Nat} (f : Co.fit ns k os) (kn : k < ns.length) (n8 : ns.length ≤ 8) : (Co.mostC ns os).length ≤ 1000 := by
  refine Nat.le_trans Co.most_len ?_
  have := Nat.mul_le_mul (show os.length ≤ 8 by have := f.1; omega) n8
  omega
theorem claims_ne {ns os : List Str} {k : Nat} (f : Co.fit ns k os) (k1 : 1 ≤ k) (kn : k < ns.length) : ∃ o t, (Co.mostC ns os)[0]? = some (Cm.C.beats o t) := by
  cases os with
  | nil => have := f.1; simp at this; omega
  | cons o r =>
    have : ∃ t ∈ ns, Co.has (o :: r) t = false := by
      refine Classical.byContradiction fun z => ?_
      have all : ∀ t ∈ ns, Co.has (o :: r) t = true := fun t ht => by
        cases e : Co.has (o :: r) t with
        | true => rfl
        | false => exact absurd ⟨t, ht, e⟩ z
      have e := f.2
      rw [List.filter_eq_self.mpr all] at e
      have := f.1
      rw [e] at this
      omega
    obtain ⟨t, ht, nt⟩ := this
    have hm : t ∈ ns.filter fun t => !Co.has (o :: r) t := List.mem_filter.mpr ⟨ht, by rw [nt]; rfl⟩
    unfold Co.mostC Co.mostA
    rw [List.flatMap_cons]
    cases hl : (ns.filter fun t => !Co.has (o :: r) t) with
    | nil => rw [hl] at hm; cases hm
    | cons u v => exact ⟨o, u, rfl⟩
theorem fin0 {cs : List C} {oss : List (List Str)} {n : Nat} {s : Rat} (h : Set cs oss n s) : Au.Fin P49 (A0 cs oss n s) := Au.fin_init P49_ok ⟨h.s0, h.s1, h.sz⟩ h.n1 h.n60 fun t ht => by
  obtain ⟨c, os, _, rfl, f, g⟩ := ts_mem h ht
  refine ⟨claims_len g f.kn f.n8, fun x hx => ?_⟩
  obtain ⟨o, _, hx⟩ := List.mem_flatMap.mp (show x ∈ Co.mostA c.1 os os from hx)
  obtain ⟨u, _, rfl⟩ := List.mem_map.mp hx
  exact ⟨2, wgood n o u⟩
theorem a0_get {cs : List C} {oss : List (List Str)} {n : Nat} {s : Rat} (k : Nat) : (A0 cs oss n s).ss[k]? = ((ts cs oss)[k]?).map (Au.mkSh n true (.fixed s)) := List.getElem?_map ..
theorem bok {cs : List C} {oss : List (List Str)} {n : Nat} {s : Rat} (h : Set cs oss n s) {o : Option (List (Option Str))} (b : BalOk cs o) : Au.BOk (A0 cs oss n s).ss o := by
  cases o with
  | none => trivial
  | some ms =>
    obtain ⟨hl, hm⟩ := b ms rfl
    have e : (A0 cs oss n s).ss.length = cs.length := by
      show ((ts cs oss).map _).length = _
      rw [List.length_map, ts_len h]
    refine ⟨by rw [e, hl], fun i sh m hs hi => ?_⟩
    rw [a0_get] at hs
    have hk : i < cs.length := by
      have := (List.getElem?_eq_some_iff.mp hi).1
      omega
    obtain ⟨os, _, g⟩ := ts_get h (List.getElem?_eq_getElem hk)
    rw [g] at hs
    obtain rfl := (Option.some.inj hs).symm
    rcases hm i _ m (List.getElem?_eq_getElem hk) hi with ⟨x, hx, e⟩ | e | e | ⟨z, _⟩
    · exact .inr (.inr ⟨x, hx, e⟩)
    · exact .inr (.inl e)
    · exact .inl e
    · cases z
/-- draws of these laws -/
def DsOk (cs : List C) (n : Nat) (ds : List Au.Dr) : Prop := ds.length ≤ 12 ∧ ∀ d ∈ ds, d.1 < n ∧ BalOk cs d.2
theorem lens {cs : List C} {oss : List (List Str)} {n : Nat} {s : Rat} (h : Set cs oss n s) : ∀ sh ∈ (A0 cs oss n s).ss, sh.ws.length = sh.gs.length := (fin0 h).len
theorem lims {cs : List C} {oss : List (List Str)} {n : Nat} {s : Rat} (h : Set cs oss n s) {ds : List Au.Dr} (d : DsOk cs n ds) : ∀ sh ∈ ((A0 cs oss n s).draws ds).ss, Au.LimOk P49 sh.lim := fun sh hs => by
  obtain ⟨k, hk, e⟩ := List.getElem_of_mem hs
  have g := Au.draws_get (fun x hx => bok h (d.2 x hx).2) (lens h) (ds := ds) k
  rw [List.getElem?_eq_getElem hk, e, a0_get] at g
  cases q : (ts cs oss)[k]? with
  | none => rw [q] at g; cases g
  | some t =>
    rw [q] at g
    obtain ⟨c, os, _, rfl, _⟩ := ts_mem h (List.mem_of_getElem? q)
    rw [Option.some.inj g]
    exact lim_ok
theorem fin_d {cs : List C} {oss : List (List Str)} {n : Nat} {s : Rat} (h : Set cs oss n s) : ∀ (ds : List Au.Dr), DsOk cs n ds → Au.Fin P49 ((A0 cs oss n s).draws ds) := fun ds => by
  have key : ∀ (ds : List Au.Dr) (a : Au.A), Au.Fin P49 a → a.ag = true → a.n = n → a.nums.length + ds.length ≤ 12 → (∀ d ∈ ds, d.1 < n) → Au.Fin P49 (a.draws ds) := fun ds => by
    induction ds with
    | nil => intro a f _ _ _ _; exact f
    | cons d ds ih =>
      intro a f ea en l hd
      rw [List.length_cons] at l
      refine ih (a.draw d.1 d.2) (Au.fin_draw f (by rw [en]; exact hd d (List.mem_cons_self ..)) ⟨(fun z => by rw [ea] at z; cases z), (by show a.nums.length < 12; omega)⟩) ea en ?_ fun x hx => hd x (List.mem_cons_of_mem _ hx)
      rw [Au.draw_nums, List.length_append]
      show a.nums.length + 1 + ds.length ≤ 12
      omega
  exact fun d => key ds _ (fin0 h) rfl rfl (by show 0 + _ ≤ 12; have := d.1; omega) fun x hx => (d.2 x hx).1
theorem vals_unit (ds : List Au.Dr) (k : Nat) (o t : Str) : ∀ v ∈ ds.map (fun d => Cm.value (.beats o t) (Au.markAt k d.2)), 0 ≤ v ∧ v ≤ 1 := fun v hv => by
  obtain ⟨d, _, rfl⟩ := List.mem_map.mp hv
  exact Cm.val_nn (n := 7) (.beats o t) trivial _
theorem on_ {cs : List C} {oss : List (List Str)} {n : Nat} {s : Rat} (h : Set cs oss n s) {ds : List Au.Dr} (d : DsOk cs n ds) : ((A0 cs oss n s).draws ds).verdict = Str.ofString "on" := by
  refine Au.verdict_eq.mpr ⟨?_, ?_⟩
  · have c1 := h.c1
    obtain ⟨os, ho, g⟩ := ts_get h (k := 0) (List.getElem?_eq_getElem (by omega))
    have g2 := Au.draws_get (fun x hx => bok h (d.2 x hx).2) (lens h) (ds := ds) 0
    rw [a0_get, g] at g2
    have ft := h.fit _ (List.getElem_mem (show 0 < cs.length by omega))
    obtain ⟨o, t, e⟩ := claims_ne (h.ofit 0 _ os (List.getElem?_eq_getElem (by omega)) ho) ft.k1 ft.kn
    generalize hc : cs[0]'(by omega) = c at g2 e
    have ns : (Au.Sh.plays 0 (Au.mkSh n true (.fixed s) (Co.C.most c.1 c.2, os, lim)) ds).sure = false := by
      cases q : (Au.Sh.plays 0 (Au.mkSh n true (.fixed s) (Co.C.most c.1 c.2, os, lim)) ds).sure with
      | false => rfl
      | true =>
        have hw : (Au.look (Co.mostC c.1 os))[0]? = some ⟨true, .beats o t, []⟩ := by unfold Au.look; rw [List.getElem?_map, e]; rfl
        have hg : (Au.Sh.plays 0 (Au.mkSh n true (.fixed s) (Co.C.most c.1 c.2, os, lim)) ds).gs[0]? = some (Gm.plays (Gm.init n true 1 (.fixed s)) (ds.map fun d => Cm.value (.beats o t) (Au.markAt 0 d.2))) := by
          show (List.zipWith _ (Au.look (Co.mostC c.1 os)) ((Au.look (Co.mostC c.1 os)).map fun w => Gm.init n true w.top (.fixed s)))[0]? = _
          rw [List.getElem?_zipWith, List.getElem?_map, hw]
          rfl
        have := List.all_eq_true.mp q _ (List.mem_of_getElem? hg)
        rw [show (Au.Sh.plays 0 (Au.mkSh n true (.fixed s) (Co.C.most c.1 c.2, os, lim)) ds).lim = Rat.divInt 1 999999 from rfl, not_reached h.s0 h.s1 (by rw [List.length_map]; exact d.1) (vals_unit ds 0 o t)] at this
        cases this
    have hm : (Au.Sh.plays 0 (Au.mkSh n true (.fixed s) (Co.C.most c.1 c.2, os, lim)) ds) ∈ ((A0 cs oss n s).draws ds).ss := List.mem_of_getElem? g2
    cases q : ((A0 cs oss n s).draws ds).sure.all id with
    | false => rfl
    | true =>
      have := List.all_eq_true.mp q _ (List.mem_map.mpr ⟨_, hm, rfl⟩)
      rw [id, ns] at this
      cases this
  · have e1 := (Au.draws_stay (A0 cs oss n s) ds).2.1
    have e2 := (Au.draws_stay (A0 cs oss n s) ds).2.2
    unfold Au.A.full
    rw [e1, e2, Au.draws_nums, List.length_append, List.length_map]
    have h12 := d.1
    have e3 : (A0 cs oss n s).nums = [] := rfl
    have e4 : (A0 cs oss n s).most = 60 := rfl
    have e5 : (A0 cs oss n s).ag = true := rfl
    rw [e3, e4, e5, decide_eq_false (by show ¬ (0 + ds.length = 60); omega)]
    rfl
theorem dok {cs : List C} {oss : List (List Str)} {n : Nat} {s : Rat} (h : Set cs oss n s) {ds : List Au.Dr} {d : Au.Dr} (hd : DsOk cs n (ds ++ [d])) : Au.DOk ((A0 cs oss n s).draws ds) d.1 d.2 := by
  have hd' : DsOk cs n ds := ⟨by have := hd.1; rw [List.length_append] at this; omega, fun x hx => hd.2 x (List.mem_append_left _ hx)⟩
  have hl : ((A0 cs oss n s).draws ds).ss.length = cs.length := by
    rw [Au.draws_len (fun x hx => bok h (hd'.2 x hx).2) (lens h)]
    show ((ts cs oss).map _).length = _
    rw [List.length_map, ts_len h]
  have dl := hd.2 d (List.mem_append_right _ (List.mem_singleton.mpr rfl))
  have st := Au.draws_stay (A0 cs oss n s) ds
  have c1 := h.c1
  have c2 := h.c2
  refine Au.fin_dok (fin_d h ds hd') (lims h hd') (by omega) (by omega) (by rw [st.1]; exact dl.1) ⟨(fun z => by rw [st.2.1] at z; cases z), ?_⟩ (by unfold Au.free; rw [st.2.1]; rfl) ?_
  · rw [Au.draws_nums, List.length_append, List.length_map]
    have := hd.1
    rw [List.length_append] at this
    show 0 + ds.length < 12
    simp at this
    omega
  · have key : ∀ (ds : List Au.Dr) (a : Au.A), (∀ x ∈ ds, Au.BOk a.ss x.2) → Au.BOk a.ss d.2 → Au.BOk (a.draws ds).ss d.2 := fun ds => by
      induction ds with
      | nil => intro a _ b; exact b
      | cons x ds ih => exact fun a hb b => ih (a.draw x.1 x.2) (fun y hy => Au.bok_draw (hb x (List.mem_cons_self ..)) (hb y (List.mem_cons_of_mem _ hy))) (Au.bok_draw (hb x (List.mem_cons_self ..)) b)
    exact key ds _ (fun x hx => bok h (hd'.2 x hx).2) (bok h dl.2)
/-- the claims behind are of these -/
theorem ways {cs : List C} {oss : List (List Str)} {n : Nat} {s : Rat} (h : Set cs oss n s) {ds : List Au.Dr} (d : DsOk cs n ds) : ∀ sh ∈ ((A0 cs oss n s).draws ds).ss, ∀ w ∈ sh.ws, ∃ o t, w = ⟨true, .beats o t, []⟩ := fun sh hs w hw => by
  obtain ⟨k, hk, e⟩ := List.getElem_of_mem hs
  have g := Au.draws_get (fun x hx => bok h (d.2 x hx).2) (lens h) (ds := ds) k
  rw [List.getElem?_eq_getElem hk, e, a0_get] at g
  cases q : (ts cs oss)[k]? with
  | none => rw [q] at g; cases g
  | some t =>
    rw [q] at g
    obtain ⟨c, os, _, rfl, _⟩ := ts_mem h (List.mem_of_getElem? q)
    rw [Option.some.inj g] at hw
    have hw : w ∈ Au.look (Co.mostC c.1 os) := hw
    obtain ⟨x, hx, rfl⟩ := List.mem_map.mp hw
    obtain ⟨o, _, hx⟩ := List.mem_flatMap.mp (show x ∈ Co.mostA c.1 os os from hx)
    obtain ⟨u, _, rfl⟩ := List.mem_map.mp hx
    exact ⟨o, u, rfl⟩
/-- in whichever order, the same worths -/
theorem worths {cs : List C} {oss : List (List Str)} {n : Nat} {s : Rat} (h : Set cs oss n s) {ds ds' : List Au.Dr} (d : DsOk cs n ds') (pm : ds'.Perm ds) : ((A0 cs oss n s).draws ds').worths = (List.range cs.length).map fun k => (Co.mostC (cs.getD k ([], 0)).1 (oss.getD k [])).map fun c => some (wor s (ds.map fun d => Cm.value c (Au.markAt k d.2))) := by
  have bk : ∀ x ∈ ds', Au.BOk (A0 cs oss n s).ss x.2 := fun x hx => bok h (d.2 x hx).2
  have hl : ((A0 cs oss n s).draws ds').ss.length = cs.length := by
    rw [Au.draws_len bk (lens h)]
    show ((ts cs oss).map _).length = _
    rw [List.length_map, ts_len h]
  unfold Au.A.worths
  apply List.ext_getElem?
  intro k
  rw [List.getElem?_map, List.getElem?_map]
  rcases Nat.lt_or_ge k cs.length with hk | hk
  · obtain ⟨os, ho, g⟩ := ts_get h (List.getElem?_eq_getElem hk)
    rw [Au.draws_get bk (lens h), a0_get, g, List.getElem?_range hk, Option.map_some, Option.map_some, Option.map_some, Option.map_some]
    rw [List.getD_eq_getElem?_getD, List.getD_eq_getElem?_getD, List.getElem?_eq_getElem hk, ho]
    congr 1
    show (List.zipWith _ (Au.look (Co.mostC (cs[k]'hk).1 os)) ((Au.look (Co.mostC (cs[k]'hk).1 os)).map fun w => Gm.init n true w.top (.fixed s))).map Gm.worthO = (Co.mostC (cs[k]'hk).1 os).map _
    apply List.ext_getElem?
    intro j
    rw [List.getElem?_map, List.getElem?_zipWith, List.getElem?_map, List.getElem?_map]
    unfold Au.look
    rw [List.getElem?_map]
    cases hc : (Co.mostC (cs[k]'hk).1 os)[j]? with
    | none => rfl
    | some c =>
      rw [Option.map_some, Option.map_some, Option.map_some]
      show some (Gm.worthO (Gm.plays (Gm.init n true (Au.W.top ⟨true, c, []⟩) (.fixed s)) (ds'.map fun d => Cm.value c (Au.markAt k d.2)))) = some (some (wor s (ds.map fun d => Cm.value c (Au.markAt k d.2))))
      obtain ⟨fx, nw⟩ := fx_now (s := s) (ds'.map fun d => Cm.value c (Au.markAt k d.2)) (Gm.init n true (Au.W.top ⟨true, c, []⟩) (.fixed s)) ⟨rfl, rfl, rfl⟩
      unfold Gm.worthO
      rw [if_neg (by rw [fx.cert]; decide), nw]
      congr 2
      exact wor_perm (pm.map _)
  · rw [List.getElem?_eq_none (by omega), List.getElem?_eq_none (by rw [List.length_range]; exact hk)]
    rfl
end Ag
namespace Lw
open PySem PySem.Spec PyProof.Rows L2 Gx
/-- no function is told here -/
def Tells (K : PySem.W.Frag) (H : Hp) (f : Addr) (φ : List Rat → Rat) : Prop := False
theorem Tells.mono {K : PySem.W.Frag} {H H' : Hp} {f : Addr} {φ : List Rat → Rat} (h : Tells K H f φ) (e : Imm H H') : Tells K H' f φ := h

/-- a rule at a -/
def RAt (K : PySem.W.Frag) (H : Hp) (a : Addr) : Ru.R → Prop
  | .none => ∃ dx, H a = some (.ins (He.ga K "Rule") dx [])
  | .fixed q => ∃ dx p, H a = some (.ins (He.ga K "Fixed") dx [("part", .ref p)]) ∧ SqT K H p (Fr.fq q)
  | .learn g w => False
  | .told φ => ∃ dx f, H a = some (.ins (He.ga K "Asked") dx [("function", .ref f)]) ∧ Tells K H f φ
/-- kept, where what may change is none of a rule -/
theorem RAt.mono {K : PySem.W.Frag} {H H' : Hp} {a : Addr} {r : Ru.R} (h : RAt K H a r) (e : Imm H H') (i : ∀ C dx fs, fs.length ≤ 2 → H a = some (.ins C dx fs) → H' a = some (.ins C dx fs)) : RAt K H' a r := by
  cases r with
  | none => obtain ⟨dx, h⟩ := h; exact ⟨dx, i _ _ _ (by simp) h⟩
  | fixed q => obtain ⟨dx, p, h, g⟩ := h; exact ⟨dx, p, i _ _ _ (by simp) h, seqT_imm e g⟩
  | learn q w => exact h.elim
  | told φ => obtain ⟨dx, f, h, g⟩ := h; exact ⟨dx, f, i _ _ _ (by simp) h, g.mono e⟩
theorem RAt.same {K : PySem.W.Frag} {H H' : Hp} {a : Addr} {r : Ru.R} (h : RAt K H a r) (e : Same H H') : RAt K H' a r := h.mono (imm_same e) fun _ _ _ _ h => e _ _ h
theorem RAt.but {K : PySem.W.Frag} {H H' : Hp} {a l : Addr} {r : Ru.R} {ys : List V} (h : RAt K H a r) (e : But l H H') (hl : H l = some (.lst ys)) : RAt K H' a r := h.mono (imm_but e hl) fun _ _ _ _ h => e _ _ (ne_of h hl (by intro z; cases z)) h
theorem RAt.butI {K : PySem.W.Frag} {H H' : Hp} {a l C dx : Addr} {r : Ru.R} {fs : List (Str × V)} (h : RAt K H a r) (e : But l H H') (hl : H l = some (.ins C dx fs)) (hf : 3 ≤ fs.length) : RAt K H' a r := h.mono (imm_butI e hl) fun C' dx' fs' hf' h => e _ _ (ne_of h hl (by intro z; cases z; omega)) h
theorem RAt.there {K : PySem.W.Frag} {H : Hp} {a : Addr} {r : Ru.R} (h : RAt K H a r) : H a ≠ none := fun e => by
  cases r with
  | none => obtain ⟨dx, h⟩ := h; rw [e] at h; cases h
  | fixed q => obtain ⟨dx, p, h, g⟩ := h; rw [e] at h; cases h
  | learn q w => exact h.elim
  | told φ => obtain ⟨dx, f, h, g⟩ := h; rw [e] at h; cases h

/-- a game at a, its list at l -/
structure GA (K : PySem.W.Frag) (H : Hp) (a l dx t r s : Addr) (now : V) (m : Addr) (vs : List V) (g : Gm.S) : Prop where
  ins : H a = some (.ins (He.ga K "Game") dx [("many", .int (g.n : Int)), ("again", .bl g.ag), ("highest", .ref t), ("rule", .ref r), ("drawn_values", .ref l), ("sum_so_far", .ref s), ("now", now), ("most", .ref m), ("certain", .bl g.cert)])
  top : SqT K H t (Fr.fq g.top)
  rule : RAt K H r g.R
  lst : H l = some (.lst vs)
  vals : Fqs K H vs g.vals
  sum : SqT K H s (Fr.fq (Lw.sum g.vals))
  now_ : if g.cert = true then now = .non else ∃ p, now = .ref p ∧ SqT K H p (Fr.fq g.now)
  most : SqT K H m (Fr.fq g.most)
def GAt (K : PySem.W.Frag) (H : Hp) (a l : Addr) (g : Gm.S) : Prop := ∃ dx t r s now m vs, GA K H a l dx t r s now m vs g
theorem GA.same {K : PySem.W.Frag} {H H' : Hp} {a l dx t r s m : Addr} {now : V} {vs : List V} {g : Gm.S} (h : GA K H a l dx t r s now m vs g) (e : Same H H') : GA K H' a l dx t r s now m vs g :=
  ⟨e _ _ h.ins, seqT_same e h.top, h.rule.same e, e _ _ h.lst, h.vals.same e, seqT_same e h.sum, by
    have n := h.now_
    split at n
    · rw [if_pos ‹_›]; exact n
    · rw [if_neg ‹_›]; obtain ⟨p, h1, h2⟩ := n; exact ⟨p, h1, seqT_same e h2⟩, seqT_same e h.most⟩
theorem GAt.same {K : PySem.W.Frag} {H H' : Hp} {a l : Addr} {g : Gm.S} (h : GAt K H a l g) (e : Same H H') : GAt K H' a l g := let ⟨dx, t, r, s, now, m, vs, h⟩ := h; ⟨dx, t, r, s, now, m, vs, h.same e⟩
/-- kept while other things change -/
theorem GAt.mono {K : PySem.W.Frag} {H H' : Hp} {a l : Addr} {g : Gm.S} (h : GAt K H a l g) (e : Imm H H') (ha : ∀ o, H a = some o → H' a = some o) (hl : ∀ o, H l = some o → H' l = some o) (hr : ∀ r C dx fs, fs.length ≤ 2 → H r = some (.ins C dx fs) → H' r = some (.ins C dx fs)) : GAt K H' a l g := by
  obtain ⟨dx, t, r, s, now, m, vs, h⟩ := h
  refine ⟨dx, t, r, s, now, m, vs, ha _ h.ins, seqT_imm e h.top, h.rule.mono e (hr r), hl _ h.lst, Fqs.imm e h.vals, seqT_imm e h.sum, ?_, seqT_imm e h.most⟩
  have n := h.now_
  split at n
  · rw [if_pos ‹_›]; exact n
  · rw [if_neg ‹_›]; obtain ⟨p, h1, h2⟩ := n; exact ⟨p, h1, seqT_imm e h2⟩
theorem GAt.lst {K : PySem.W.Frag} {H : Hp} {a l : Addr} {g : Gm.S} (h : GAt K H a l g) : ∃ vs, H l = some (.lst vs) := let ⟨_, _, _, _, _, _, vs, h⟩ := h; ⟨vs, h.lst⟩
theorem GAt.ins {K : PySem.W.Frag} {H : Hp} {a l : Addr} {g : Gm.S} (h : GAt K H a l g) : ∃ dx fs, 3 ≤ fs.length ∧ H a = some (.ins (He.ga K "Game") dx fs) := let ⟨dx, _, _, _, _, _, _, h⟩ := h; ⟨dx, _, by simp, h.ins⟩
theorem GAt.ne {K : PySem.W.Frag} {H : Hp} {a l : Addr} {g : Gm.S} (h : GAt K H a l g) : a ≠ l := let ⟨_, _, _, _, _, _, _, h⟩ := h; ne_of h.ins h.lst (by intro z; cases z)
/-- None, or a fraction -/
def PrO (K : PySem.W.Frag) (H : Hp) (v : V) : Option Rat → Prop
  | none => v = .non
  | some q => ∃ p, v = .ref p ∧ SqT K H p (Fr.fq q)
theorem PrO.same {K : PySem.W.Frag} {H H' : Hp} (e : Same H H') {v : V} : ∀ {o : Option Rat}, PrO K H v o → PrO K H' v o
  | none, h => h
  | some _, ⟨p, h, g⟩ => ⟨p, h, seqT_same e g⟩
theorem PrO.imm {K : PySem.W.Frag} {H H' : Hp} (e : Imm H H') {v : V} : ∀ {o : Option Rat}, PrO K H v o → PrO K H' v o
  | none, h => h
  | some _, ⟨p, h, g⟩ => ⟨p, h, seqT_imm e g⟩
theorem GAt.ext {K : PySem.W.Frag} {H H' : Hp} {a l : Addr} {g : Gm.S} (h : GAt K H a l g) (e : ∀ b o, H b = some o → (∀ ps, o ≠ .tbl ps) → H' b = some o) : GAt K H' a l g := by
  obtain ⟨dx, fs, _, hi⟩ := h.ins
  obtain ⟨vs, hv⟩ := h.lst
  exact h.mono (fun b o h f => e b o h (by rintro ps rfl; exact f)) (fun o q => by rw [hi] at q; cases q; exact e _ _ hi (by intro ps z; cases z)) (fun o q => by rw [hv] at q; cases q; exact e _ _ hv (by intro ps z; cases z)) fun r C dx fs _ q => e _ _ q (by intro ps z; cases z)
theorem GAt.but2 {K : PySem.W.Frag} {H H' : Hp} {a l : Addr} {g : Gm.S} (h : GAt K H a l g) (b : But2 a l H H') : Imm H H' := by
  obtain ⟨dx, fs, _, hi⟩ := h.ins
  obtain ⟨vs, hv⟩ := h.lst
  exact b.imm hi hv
theorem GAt.look {K : PySem.W.Frag} {H : Hp} {a l dx : Addr} {g : Gm.S} {fs : List (Str × V)} {m : Str} (h : GAt K H a l g) (hi : H a = some (.ins (He.ga K "Game") dx fs)) (n : (["many", "again", "highest", "rule", "drawn_values", "sum_so_far", "now", "most", "certain"] : List Str).contains m = false) : fs.lookup m = none := by
  obtain ⟨dx', t, r, s, now, mm, vs, G⟩ := h
  rw [G.ins] at hi
  cases hi
  have h : ∀ x ∈ (["many", "again", "highest", "rule", "drawn_values", "sum_so_far", "now", "most", "certain"] : List Str), (m == x) = false := fun x hx => by
    cases e : (m == x) with
    | false => rfl
    | true =>
      rw [beq_iff_eq.mp e, List.contains_iff_mem.mpr hx] at n
      cases n
  exact lkz (h _ (by simp)) (lkz (h _ (by simp)) (lkz (h _ (by simp)) (lkz (h _ (by simp)) (lkz (h _ (by simp)) (lkz (h _ (by simp)) (lkz (h _ (by simp)) (lkz (h _ (by simp)) (lkz (h _ (by simp)) lk0))))))))
/-- worths at some values -/
def PrOs (K : PySem.W.Frag) (H : Hp) (vs : List V) (ws : List (Option Rat)) : Prop := Paired (fun v w => PrO K H v w) vs ws
theorem PrOs.same {K : PySem.W.Frag} {H H' : Hp} (e : Same H H') : ∀ {vs : List V} {ws : List (Option Rat)}, PrOs K H vs ws → PrOs K H' vs ws
  | _, _, .nil => .nil
  | _, _, .cons h r => .cons (h.same e) (PrOs.same e r)
theorem PrOs.imm {K : PySem.W.Frag} {H H' : Hp} (e : Imm H H') : ∀ {vs : List V} {ws : List (Option Rat)}, PrOs K H vs ws → PrOs K H' vs ws
  | _, _, .nil => .nil
  | _, _, .cons h r => .cons (h.imm e) (PrOs.imm e r)
theorem PrOs.snoc {K : PySem.W.Frag} {H : Hp} {v : V} {w : Option Rat} (h : PrO K H v w) : ∀ {vs : List V} {ws : List (Option Rat)}, PrOs K H vs ws → PrOs K H (vs ++ [v]) (ws ++ [w])
  | _, _, .nil => .cons h .nil
  | _, _, .cons a r => .cons a (PrOs.snoc h r)
theorem PrOs.len {K : PySem.W.Frag} {H : Hp} {vs : List V} {ws : List (Option Rat)} (h : PrOs K H vs ws) : vs.length = ws.length := Paired.length h
theorem PrOs.take {K : PySem.W.Frag} {H : Hp} : ∀ (n : Nat) {vs : List V} {ws : List (Option Rat)}, PrOs K H vs ws → PrOs K H (vs.take n) (ws.take n)
  | 0, _, _, _ => .nil
  | _ + 1, _, _, .nil => .nil
  | n + 1, _, _, .cons a r => .cons a (PrOs.take n r)
/-- a game stands as another is played -/
theorem GAt.beside {K : PySem.W.Frag} {H H' : Hp} {a l b m : Addr} {g g' : Gm.S} (h : GAt K H a l g) (h' : GAt K H b m g') (c : But2 b m H H') (n1 : a ≠ b) (n2 : l ≠ m) : GAt K H' a l g := by
  obtain ⟨dx, fs, f3, hi⟩ := h'.ins
  obtain ⟨vs, hv⟩ := h'.lst
  obtain ⟨dx1, fs1, f1, hi1⟩ := h.ins
  obtain ⟨vs1, hv1⟩ := h.lst
  exact h.mono (c.imm hi hv) (fun o q => c _ _ n1 (ne_of hi1 hv (by intro z; cases z)) q) (fun o q => c _ _ (ne_of hv1 hi (by intro z; cases z)) n2 q) fun r C d f lf q => c _ _ (ne_of q hi (by intro z; cases z; omega)) (ne_of q hv (by intro z; cases z)) q

abbrev OnlyL : Prop := True
/-- the claims that these laws have -/
def Fam : Cm.C → Prop
  | .claim => True
  | .beats _ _ => True
  | _ => False
theorem k_mF {K : PySem.W.Frag} {σ : L2.St} {H : Hp} {Q : VK} {ta : TE} {t : TA} {m : Str} {sp1 sp2 : Sp} {E : L2.St → XK} {a : Addr} {c : Cm.C} (fam : Fam c) (hev : ∀ Q : VK, Q (.ref a) H → ta σ H Q) (hc : Cm.At K H a c) (q : t σ H fun vs H2 => (Cm.pick c sp1 sp2 sp2 sp2) (.ref a :: vs) H2 Q (E σ))
    (h1 : (m == (Str.ofString "one")) = false := by decide +kernel) (h2 : (m == (Str.ofString "other")) = false := by decide +kernel) :
    tOr2 (tMethS (He.ga K "Claim") m sp1 E ta t) (tMethS (He.ga K "Beats") m sp2 E ta t) σ H Q := by
  cases c with
  | claim =>
    obtain ⟨dx, hi⟩ := hc
    exact k_o1 (k_meth (hev _ (k_methx hi lk0 q)))
  | beats o u =>
    obtain ⟨dx, hi⟩ := hc
    exact k_o2 (k_meth (hev _ (k_methx hi (lkz h1 (lkz h2 lk0)) q)))
  | over n s => exact fam.elim
  | under n s => exact fam.elim
/-- the contests that these laws have -/
def CFam : Co.C → Prop
  | .most _ _ => True
  | _ => False
/-! ### audits in the heap -/
/-- a way at a value; its told list is among ours -/
def WAt (K : PySem.W.Frag) (H : Hp) (F : Addr → Prop) (v : V) (w : Au.W) : Prop :=
  (w.b = true ∧ ∃ a dx q, v = .ref a ∧ H a = some (.ins (He.ga K "Looking") dx [("claim", .ref q)]) ∧ Cm.At K H q w.c) ∨
  (w.b = false ∧ ∃ a dx q l r ys, v = .ref a ∧ H a = some (.ins (He.ga K "Comparing") dx [("claim", .ref q), ("told", .ref l), ("scale", .ref r)]) ∧ Cm.At K H q w.c ∧ H l = some (.lst ys) ∧ Fqs K H ys (w.ts.map (Cm.value w.c)) ∧ SqT K H r (Fr.fq (Wy.scale w.c w.ts)) ∧ Fr.Sz 5000 (Wy.scale w.c w.ts) ∧ F l)
/-- what is ours stays, and what never changes, and all instances but sheets -/
structure Kp (F : Addr → Prop) (H H' : Hp) : Prop where
  imm : Imm H H'
  own : ∀ x o, F x → H x = some o → H' x = some o
  ins : ∀ x C dx fs, fs.length ≠ 4 → H x = some (.ins C dx fs) → H' x = some (.ins C dx fs)
theorem Kp.same {F : Addr → Prop} {H H' : Hp} (e : Same H H') : Kp F H H' := ⟨imm_same e, fun x o _ h => e _ _ h, fun x C dx fs _ h => e _ _ h⟩
theorem Kp.but {F : Addr → Prop} {H H' : Hp} {l : Addr} {xs : List V} (e : But l H H') (h : H l = some (.lst xs)) (n : ¬ F l) : Kp F H H' := ⟨imm_but e h, fun x o f g => e _ _ (fun z => n (z ▸ f)) g, fun x C dx fs _ g => e _ _ (ne_of g h (by intro z; cases z)) g⟩
theorem Kp.trans {F : Addr → Prop} {H H1 H2 : Hp} (a : Kp F H H1) (b : Kp F H1 H2) : Kp F H H2 := ⟨a.imm.trans b.imm, fun x o f h => b.own x o f (a.own x o f h), fun x C dx fs n h => b.ins x C dx fs n (a.ins x C dx fs n h)⟩
theorem Kp.mono {F G : Addr → Prop} {H H' : Hp} (a : Kp F H H') (s : ∀ x, G x → F x) : Kp G H H' := ⟨a.imm, fun x o f h => a.own x o (s x f) h, a.ins⟩
theorem at_kp {K : PySem.W.Frag} {H H' : Hp} {F : Addr → Prop} (e : Kp F H H') {a : Addr} : ∀ {c : Cm.C}, Cm.At K H a c → Cm.At K H' a c
  | .claim, ⟨dx, h⟩ => ⟨dx, e.ins _ _ _ _ (by simp) h⟩
  | .beats _ _, ⟨dx, h⟩ => ⟨dx, e.ins _ _ _ _ (by simp) h⟩
  | .over _ _, ⟨dx, q, h, g⟩ => ⟨dx, q, e.ins _ _ _ _ (by simp) h, seqT_imm e.imm g⟩
  | .under _ _, ⟨dx, q, h, g⟩ => ⟨dx, q, e.ins _ _ _ _ (by simp) h, seqT_imm e.imm g⟩
theorem WAt.kp {K : PySem.W.Frag} {H H' : Hp} {F : Addr → Prop} {v : V} {w : Au.W} (e : Kp F H H') : WAt K H F v w → WAt K H' F v w
  | .inl ⟨b, a, dx, q, h1, h2, h3⟩ => .inl ⟨b, a, dx, q, h1, e.ins _ _ _ _ (by simp) h2, at_kp e h3⟩
  | .inr ⟨b, a, dx, q, l, r, ys, h1, h2, h3, h4, h5, h6, h7, h8⟩ => .inr ⟨b, a, dx, q, l, r, ys, h1, e.ins _ _ _ _ (by simp) h2, at_kp e h3, e.own _ _ h8 h4, h5.imm e.imm, seqT_imm e.imm h6, h7, h8⟩
theorem WAt.sub {K : PySem.W.Frag} {H : Hp} {F G : Addr → Prop} {v : V} {w : Au.W} (s : ∀ x, F x → G x) : WAt K H F v w → WAt K H G v w
  | .inl h => .inl h
  | .inr ⟨b, a, dx, q, l, r, ys, h1, h2, h3, h4, h5, h6, h7, h8⟩ => .inr ⟨b, a, dx, q, l, r, ys, h1, h2, h3, h4, h5, h6, h7, s _ h8⟩
theorem WAt.wx {K : PySem.W.Frag} {H : Hp} {F : Addr → Prop} {v : V} {w : Au.W} : WAt K H F v w → ∃ a, v = .ref a ∧ Wy.Wx K H a w.b w.c w.ts
  | .inl ⟨b, a, dx, q, h1, h2, h3⟩ => ⟨a, h1, .inl ⟨b, dx, q, h2, h3⟩⟩
  | .inr ⟨b, a, dx, q, l, r, ys, h1, h2, h3, h4, h5, h6, h7, h8⟩ => ⟨a, h1, .inr ⟨b, dx, q, l, r, ys, h2, h3, h4, h5, h6, h7⟩⟩
/-- a game at a value; its list is among ours -/
def GmAt (K : PySem.W.Frag) (H : Hp) (F : Addr → Prop) (v : V) (g : Gm.S) : Prop := ∃ a l, v = .ref a ∧ GAt K H a l g ∧ F l
theorem GAt.kp {K : PySem.W.Frag} {H H' : Hp} {F : Addr → Prop} (e : Kp F H H') {a l : Addr} {g : Gm.S} (h : GAt K H a l g) (f : F l) : GAt K H' a l g := by
  obtain ⟨dx, t, r, s, now, m, vs, G⟩ := id h
  exact h.mono e.imm (fun o q => by rw [G.ins] at q; cases q; exact e.ins _ _ _ _ (by simp) G.ins) (fun o q => e.own _ _ f q) fun r C dx fs hf q => e.ins _ _ _ _ (by omega) q
theorem GmAt.kp {K : PySem.W.Frag} {H H' : Hp} {F : Addr → Prop} {v : V} {g : Gm.S} (e : Kp F H H') : GmAt K H F v g → GmAt K H' F v g
  | ⟨a, l, h1, h2, h3⟩ => ⟨a, l, h1, h2.kp e h3, h3⟩
theorem GmAt.sub {K : PySem.W.Frag} {H : Hp} {F G : Addr → Prop} {v : V} {g : Gm.S} (s : ∀ x, F x → G x) : GmAt K H F v g → GmAt K H G v g
  | ⟨a, l, h1, h2, h3⟩ => ⟨a, l, h1, h2, s _ h3⟩
theorem paired_map {α β : Type} {R S : α → β → Prop} (f : ∀ a b, R a b → S a b) : ∀ {as : List α} {bs : List β}, Paired R as bs → Paired S as bs
  | _, _, .nil => .nil
  | _, _, .cons h r => .cons (f _ _ h) (paired_map f r)
theorem paired_at {α β : Type} {R : α → β → Prop} : ∀ {as : List α} {bs : List β} {i : Nat}, Paired R as bs → i < as.length → ∃ a b, as[i]? = some a ∧ bs[i]? = some b ∧ R a b
  | _, _, 0, .cons h _, _ => ⟨_, _, rfl, rfl, h⟩
  | _, _, i + 1, .cons _ r, l => paired_at (i := i) r (by simpa using l)
theorem paired_add {α β : Type} {R : α → β → Prop} {a : α} {b : β} (h : R a b) : ∀ {as : List α} {bs : List β}, Paired R as bs → Paired R (as ++ [a]) (bs ++ [b])
  | _, _, .nil => .cons h .nil
  | _, _, .cons g r => .cons g (paired_add h r)
theorem paired_take {α β : Type} {R : α → β → Prop} : ∀ {as : List α} {bs : List β} (n : Nat), Paired R as bs → Paired R (as.take n) (bs.take n)
  | _, _, 0, _ => .nil
  | _, _, _ + 1, .nil => .nil
  | _, _, n + 1, .cons g r => .cons g (paired_take n r)
/-- a sheet at a -/
structure SA (K : PySem.W.Frag) (H : Hp) (F : Addr → Prop) (a : Addr) (s : Au.Sh) (dx p q lw lg : Addr) (wv gv : List V) : Prop where
  ins : H a = some (.ins (He.ga K "Sheet") dx [("names", .ref p), ("limit", .ref q), ("ways", .ref lw), ("games", .ref lg)])
  names : SqT K H p (s.names.map V.str)
  lim : SqT K H q (Fr.fq s.lim)
  wl : H lw = some (.lst wv)
  ws : Paired (WAt K H F) wv s.ws
  gl : H lg = some (.lst gv)
  gs : Paired (GmAt K H F) gv s.gs
  fa : F a
  fw : F lw
  fg : F lg
def SAt (K : PySem.W.Frag) (H : Hp) (F : Addr → Prop) (v : V) (s : Au.Sh) : Prop := ∃ a dx p q lw lg wv gv, v = .ref a ∧ SA K H F a s dx p q lw lg wv gv
theorem SA.kp {K : PySem.W.Frag} {H H' : Hp} {F : Addr → Prop} {a : Addr} {s : Au.Sh} {dx p q lw lg : Addr} {wv gv : List V} (h : SA K H F a s dx p q lw lg wv gv) (e : Kp F H H') : SA K H' F a s dx p q lw lg wv gv :=
  ⟨e.own _ _ h.fa h.ins, seqT_imm e.imm h.names, seqT_imm e.imm h.lim, e.own _ _ h.fw h.wl, paired_map (fun _ _ h => h.kp e) h.ws, e.own _ _ h.fg h.gl, paired_map (fun _ _ h => h.kp e) h.gs, h.fa, h.fw, h.fg⟩
theorem SA.sub {K : PySem.W.Frag} {H : Hp} {F G : Addr → Prop} {a : Addr} {s : Au.Sh} {dx p q lw lg : Addr} {wv gv : List V} (h : SA K H F a s dx p q lw lg wv gv) (e : ∀ x, F x → G x) : SA K H G a s dx p q lw lg wv gv :=
  ⟨h.ins, h.names, h.lim, h.wl, paired_map (fun _ _ h => h.sub e) h.ws, h.gl, paired_map (fun _ _ h => h.sub e) h.gs, e _ h.fa, e _ h.fw, e _ h.fg⟩
theorem SAt.kp {K : PySem.W.Frag} {H H' : Hp} {F : Addr → Prop} {v : V} {s : Au.Sh} (e : Kp F H H') : SAt K H F v s → SAt K H' F v s
  | ⟨a, dx, p, q, lw, lg, wv, gv, h, g⟩ => ⟨a, dx, p, q, lw, lg, wv, gv, h, g.kp e⟩
theorem SAt.sub {K : PySem.W.Frag} {H : Hp} {F G : Addr → Prop} {v : V} {s : Au.Sh} (e : ∀ x, F x → G x) : SAt K H F v s → SAt K H G v s
  | ⟨a, dx, p, q, lw, lg, wv, gv, h, g⟩ => ⟨a, dx, p, q, lw, lg, wv, gv, h, g.sub e⟩
/-- an audit at a; F: what is its own of lists and sheets -/
structure AA (K : PySem.W.Frag) (H : Hp) (F : Addr → Prop) (a : Addr) (A : Au.A) (dx l ln : Addr) (sv : List V) : Prop where
  ins : H a = some (.ins (He.ga K "Audit") dx [("sheets", .ref l), ("many", .int (A.n : Int)), ("again", .bl A.ag), ("most", .int (A.most : Int)), ("numbers", .ref ln)])
  sl : H l = some (.lst sv)
  ss : Paired (SAt K H fun x => F x ∧ x ≠ ln) sv A.ss
  nd : sv.Nodup
  nl : H ln = some (.lst (A.nums.map V.int))
  fl : F l ∧ l ≠ ln
  fn : F ln
  live : ∀ x, F x → H x ≠ none
def AAt (K : PySem.W.Frag) (H : Hp) (F : Addr → Prop) (a : Addr) (A : Au.A) : Prop := ∃ dx l ln sv, AA K H F a A dx l ln sv
theorem AA.kp {K : PySem.W.Frag} {H H' : Hp} {F : Addr → Prop} {a : Addr} {A : Au.A} {dx l ln : Addr} {sv : List V} (h : AA K H F a A dx l ln sv) (e : Kp F H H') : AA K H' F a A dx l ln sv :=
  ⟨e.ins _ _ _ _ (by simp) h.ins, e.own _ _ h.fl.1 h.sl, paired_map (fun _ _ h => h.kp (e.mono fun _ z => z.1)) h.ss, h.nd, e.own _ _ h.fn h.nl, h.fl, h.fn, fun x f z => by
    cases g : H x with
    | none => exact h.live x f g
    | some o => rw [e.own x o f g] at z; cases z⟩
theorem AAt.kp {K : PySem.W.Frag} {H H' : Hp} {F : Addr → Prop} {a : Addr} {A : Au.A} (e : Kp F H H') : AAt K H F a A → AAt K H' F a A
  | ⟨dx, l, ln, sv, h⟩ => ⟨dx, l, ln, sv, h.kp e⟩
theorem AAt.same {K : PySem.W.Frag} {H H' : Hp} {F : Addr → Prop} {a : Addr} {A : Au.A} (h : AAt K H F a A) (e : Same H H') : AAt K H' F a A := h.kp (Kp.same e)
/-- what a draw changes -/
structure Chg (F : Addr → Prop) (H H' : Hp) : Prop where
  imm : Imm H H'
  oth : ∀ x o, ¬ F x → H x = some o → H' x = some o
  ins : ∀ x C dx fs, fs.length ≠ 4 → H x = some (.ins C dx fs) → H' x = some (.ins C dx fs)
theorem Chg.same {F : Addr → Prop} {H H' : Hp} (e : Same H H') : Chg F H H' := ⟨imm_same e, fun x o _ h => e _ _ h, fun x C dx fs _ h => e _ _ h⟩
theorem Chg.trans {F : Addr → Prop} {H H1 H2 : Hp} (a : Chg F H H1) (b : Chg F H1 H2) : Chg F H H2 := ⟨a.imm.trans b.imm, fun x o f h => b.oth x o f (a.oth x o f h), fun x C dx fs n h => b.ins x C dx fs n (a.ins x C dx fs n h)⟩
/-- another's things stay -/
theorem Chg.kp {F G : Addr → Prop} {H H' : Hp} (c : Chg F H H') (d : ∀ x, G x → ¬ F x) : Kp G H H' := ⟨c.imm, fun x o g h => c.oth x o (d x g) h, c.ins⟩
/-- worths of contests -/
def Wos (K : PySem.W.Frag) (H : Hp) (us : List V) (ws : List (List (Option Rat))) : Prop := Paired (fun v w => ∃ r zs, v = V.ref r ∧ SqT K H r zs ∧ PrOs K H zs w) us ws
theorem Wos.imm {K : PySem.W.Frag} {H H' : Hp} {us : List V} {ws : List (List (Option Rat))} (h : Wos K H us ws) (e : Imm H H') : Wos K H' us ws := paired_map (fun _ _ ⟨r, zs, a, b, c⟩ => ⟨r, zs, a, seqT_imm e b, c.imm e⟩) h
theorem Wos.same {K : PySem.W.Frag} {H H' : Hp} {us : List V} {ws : List (List (Option Rat))} (h : Wos K H us ws) (e : Same H H') : Wos K H' us ws := h.imm (imm_same e)

/-- of what a way is, in a law's draws -/
def WayOk (i : Nat) (w : Au.W) : Prop := Fam w.c ∧ (∃ n, Cm.Ok n w.c ∧ n ≤ 50) ∧ (OnlyL → w.b = true) ∧ (w.b = false → i < w.ts.length ∧ 1 ≤ w.ts.length)
/-! lists, and what is known by them -/
def IsL (H : Hp) (x : Addr) : Prop := ∃ xs, H x = some (.lst xs)
theorem WAt.toL {K : PySem.W.Frag} {H : Hp} {F : Addr → Prop} {v : V} {w : Au.W} : WAt K H F v w → WAt K H (fun x => F x ∧ IsL H x) v w
  | .inl h => .inl h
  | .inr ⟨b, a, dx, q, l, r, ys, h1, h2, h3, h4, h5, h6, h7, h8⟩ => .inr ⟨b, a, dx, q, l, r, ys, h1, h2, h3, h4, h5, h6, h7, h8, ys, h4⟩
theorem GmAt.toL {K : PySem.W.Frag} {H : Hp} {F : Addr → Prop} {v : V} {g : Gm.S} : GmAt K H F v g → GmAt K H (fun x => F x ∧ IsL H x) v g
  | ⟨a, l, h1, h2, h3⟩ => ⟨a, l, h1, h2, h3, h2.lst⟩
theorem kpL {H H' : Hp} {sa C dx : Addr} {fs : List (Str × V)} (e : But sa H H') (h : H sa = some (.ins C dx fs)) (f4 : fs.length = 4) : Kp (IsL H) H H' :=
  ⟨imm_butI e h, fun x o ⟨xs, q⟩ g => e _ _ (ne_of q h (by intro z; cases z)) g, fun x C' dx' fs' n g => e _ _ (ne_of g h (by intro z; cases z; exact n f4)) g⟩
/-- what of a sheet does not hang on its own fields -/
structure SB (K : PySem.W.Frag) (H : Hp) (F : Addr → Prop) (s : Au.Sh) (p q lw lg : Addr) (wv gv : List V) : Prop where
  names : SqT K H p (s.names.map V.str)
  lim : SqT K H q (Fr.fq s.lim)
  wl : H lw = some (.lst wv)
  ws : Paired (WAt K H F) wv s.ws
  gl : H lg = some (.lst gv)
  gs : Paired (GmAt K H F) gv s.gs
  fw : F lw
  fg : F lg
theorem SA.sb {K : PySem.W.Frag} {H : Hp} {F : Addr → Prop} {a : Addr} {s : Au.Sh} {dx p q lw lg : Addr} {wv gv : List V} (h : SA K H F a s dx p q lw lg wv gv) : SB K H F s p q lw lg wv gv := ⟨h.names, h.lim, h.wl, h.ws, h.gl, h.gs, h.fw, h.fg⟩
theorem SB.kp {K : PySem.W.Frag} {H H' : Hp} {F : Addr → Prop} {s : Au.Sh} {p q lw lg : Addr} {wv gv : List V} (h : SB K H F s p q lw lg wv gv) (e : Kp (IsL H) H H') : SB K H' F s p q lw lg wv gv :=
  ⟨seqT_imm e.imm h.names, seqT_imm e.imm h.lim, e.own _ _ ⟨_, h.wl⟩ h.wl, paired_map (fun _ _ h => (h.toL.kp (e.mono fun _ z => z.2)).sub fun _ z => z.1) h.ws, e.own _ _ ⟨_, h.gl⟩ h.gl, paired_map (fun _ _ h => (h.toL.kp (e.mono fun _ z => z.2)).sub fun _ z => z.1) h.gs, h.fw, h.fg⟩
theorem SB.sa {K : PySem.W.Frag} {H : Hp} {F : Addr → Prop} {a : Addr} {s : Au.Sh} {dx p q lw lg : Addr} {wv gv : List V} (h : SB K H F s p q lw lg wv gv) (i : H a = some (.ins (He.ga K "Sheet") dx [("names", .ref p), ("limit", .ref q), ("ways", .ref lw), ("games", .ref lg)])) (f : F a) : SA K H F a s dx p q lw lg wv gv :=
  ⟨i, h.names, h.lim, h.wl, h.ws, h.gl, h.gs, f, h.fw, h.fg⟩
/-- another sheet stays -/
theorem SAt.beside {K : PySem.W.Frag} {H H' : Hp} {F : Addr → Prop} {sa C dx : Addr} {fs : List (Str × V)} {v : V} {s : Au.Sh} (h : SAt K H F v s) (e : But sa H H') (hi : H sa = some (.ins C dx fs)) (f4 : fs.length = 4) (n : v ≠ .ref sa) : SAt K H' F v s := by
  obtain ⟨a, dx', p, q, lw, lg, wv, gv, rfl, S⟩ := h
  exact ⟨a, dx', p, q, lw, lg, wv, gv, rfl, (S.sb.kp (kpL e hi f4)).sa (e _ _ (fun z => n (by rw [z])) S.ins) S.fa⟩
/-- rows of games, played -/
def Rows (K : PySem.W.Frag) (H0 H : Hp) (D : Addr) (i : Nat) (ys : List V) (sm : List (Au.Sh × Option Str)) : Prop :=
  Paired (fun v p => ∃ d gv, v = V.ref d ∧ H d = some (.lst gv) ∧ H0 d = none ∧ d ≠ D ∧ Paired (GmAt K H fun x => H0 x = none ∧ x ≠ D ∧ H x ≠ none) gv (Au.playW i p.2 p.1.ws p.1.gs)) ys sm
theorem Kp.some {F : Addr → Prop} {H H' : Hp} (e : Kp F H H') {x : Addr} (f : F x) (h : H x ≠ none) : H' x ≠ none := fun z => by
  cases q : H x with
  | none => exact h q
  | some o => rw [e.own x o f q] at z; cases z
theorem Rows.kp {K : PySem.W.Frag} {H0 H H' : Hp} {D : Addr} {i : Nat} {ys : List V} {sm : List (Au.Sh × Option Str)} (e : Kp (fun x => x ≠ D) H H') (h : Rows K H0 H D i ys sm) : Rows K H0 H' D i ys sm :=
  paired_map (fun _ _ ⟨d, gv, h1, h2, h3, h4, h5⟩ => ⟨d, gv, h1, e.own _ _ h4 h2, h3, h4, paired_map (fun _ _ h => (h.kp (e.mono fun _ z => z.2.1)).sub fun _ z => ⟨z.1, z.2.1, e.some z.2.1 z.2.2⟩) h5⟩) h
theorem zip_take {α β : Type} {as : List α} {bs : List β} {j : Nat} {a : α} {b : β} (h : as[j]? = some a) (g : bs[j]? = some b) : (as.take (j + 1)).zip (bs.take (j + 1)) = (as.take j).zip (bs.take j) ++ [(a, b)] := by
  have h1 := (List.getElem?_eq_some_iff.mp h).1
  have h2 := (List.getElem?_eq_some_iff.mp g).1
  rw [take_snoc h, take_snoc g, List.zip_append (by rw [List.length_take, List.length_take]; omega)]
  rfl

theorem paired_mem {α β : Type} {R S : α → β → Prop} : ∀ {as : List α} {bs : List β}, (∀ a b, a ∈ as → R a b → S a b) → Paired R as bs → Paired S as bs
  | _, _, _, .nil => .nil
  | _, _, f, .cons h r => .cons (f _ _ (List.mem_cons_self ..) h) (paired_mem (fun a b m => f a b (List.mem_cons_of_mem _ m)) r)
theorem nodup_inj {α : Type} {l : List α} (h : l.Nodup) {i j : Nat} (hi : i < l.length) (hj : j < l.length) (e : l[i]'hi = l[j]'hj) : i = j := by
  rcases Nat.lt_trichotomy i j with c | c | c
  · exact absurd e (List.pairwise_iff_getElem.mp h i j hi hj c)
  · exact c
  · exact absurd e.symm (List.pairwise_iff_getElem.mp h j i hj hi c)
/-! while an audit is made: its own fields change -/
theorem ne_sheets {H : Hp} {a C dx x C' dx' : Addr} {v : V} {fs : List (Str × V)} (hi : H a = some (.ins C dx [((Str.ofString "sheets"), v)])) (h : H x = some (.ins C' dx' fs)) (n : ∀ u, fs ≠ [((Str.ofString "sheets"), u)]) : x ≠ a := fun e => by
  subst e
  rw [h] at hi
  cases hi
  exact n _ rfl
theorem key_ne {f g : Str} {u v : V} (h : (f == g) = false) : [(f, u)] ≠ [(g, v)] := fun z => by
  injection z with z _
  injection z with z _
  rw [z] at h
  simp at h
section
variable {K : PySem.W.Frag} {H H' : Hp} {a C dx : Addr} {u : V}
theorem at_butA (e : But a H H') (hi : H a = some (.ins C dx [((Str.ofString "sheets"), u)])) {x : Addr} : ∀ {c : Cm.C}, Cm.At K H x c → Cm.At K H' x c
  | .claim, ⟨d, h⟩ => ⟨d, e _ _ (ne_sheets hi h (by simp)) h⟩
  | .beats _ _, ⟨d, h⟩ => ⟨d, e _ _ (ne_sheets hi h (by simp)) h⟩
  | .over _ _, ⟨d, q, h, g⟩ => ⟨d, q, e _ _ (ne_sheets hi h (by simp)) h, seqT_imm (imm_butI e hi) g⟩
  | .under _ _, ⟨d, q, h, g⟩ => ⟨d, q, e _ _ (ne_sheets hi h (by simp)) h, seqT_imm (imm_butI e hi) g⟩
theorem rat_butA (e : But a H H') (hi : H a = some (.ins C dx [((Str.ofString "sheets"), u)])) {r : Addr} {R : Ru.R} (h : RAt K H r R) : RAt K H' r R := by
  have im := imm_butI e hi
  cases R with
  | none => first | exact h.elim | (obtain ⟨d, h⟩ := h; exact ⟨d, e _ _ (ne_sheets hi h (by simp)) h⟩)
  | fixed q => first | exact h.elim | (obtain ⟨d, p, h, g⟩ := h; exact ⟨d, p, e _ _ (ne_sheets hi h fun u => key_ne (by decide +kernel)) h, seqT_imm im g⟩)
  | learn q w => first | exact h.elim | (obtain ⟨d, p, h, g⟩ := h; exact ⟨d, p, e _ _ (ne_sheets hi h (by simp)) h, seqT_imm im g⟩)
  | told φ => first | exact h.elim | (obtain ⟨d, f, h, g⟩ := h; exact ⟨d, f, e _ _ (ne_sheets hi h fun u => key_ne (by decide +kernel)) h, g.mono im⟩)
theorem WAt.butA (e : But a H H') (hi : H a = some (.ins C dx [((Str.ofString "sheets"), u)])) {F : Addr → Prop} {v : V} {w : Au.W} : WAt K H F v w → WAt K H' F v w
  | .inl ⟨b, y, d, q, h1, h2, h3⟩ => .inl ⟨b, y, d, q, h1, e _ _ (ne_sheets hi h2 fun u => key_ne (by decide +kernel)) h2, at_butA e hi h3⟩
  | .inr ⟨b, y, d, q, l, r, ys, h1, h2, h3, h4, h5, h6, h7, h8⟩ => .inr ⟨b, y, d, q, l, r, ys, h1, e _ _ (ne_sheets hi h2 (by simp)) h2, at_butA e hi h3, e _ _ (ne_of h4 hi (by intro z; cases z)) h4, h5.imm (imm_butI e hi), seqT_imm (imm_butI e hi) h6, h7, h8⟩
theorem GmAt.butA (e : But a H H') (hi : H a = some (.ins C dx [((Str.ofString "sheets"), u)])) {F : Addr → Prop} {v : V} {g : Gm.S} : GmAt K H F v g → GmAt K H' F v g := by
  rintro ⟨y, l, h1, ⟨d, t, r, s, now, m, vs, G⟩, h3⟩
  have im := imm_butI e hi
  refine ⟨y, l, h1, ⟨d, t, r, s, now, m, vs, e _ _ (ne_sheets hi G.ins (by simp)) G.ins, seqT_imm im G.top, rat_butA e hi G.rule, e _ _ (ne_of G.lst hi (by intro z; cases z)) G.lst, G.vals.imm im, seqT_imm im G.sum, ?_, seqT_imm im G.most⟩, h3⟩
  have n := G.now_
  split at n
  · rw [if_pos ‹_›]; exact n
  · rw [if_neg ‹_›]; obtain ⟨p, h1, h2⟩ := n; exact ⟨p, h1, seqT_imm im h2⟩
theorem SAt.butA (e : But a H H') (hi : H a = some (.ins C dx [((Str.ofString "sheets"), u)])) {F : Addr → Prop} {v : V} {s : Au.Sh} : SAt K H F v s → SAt K H' F v s := by
  rintro ⟨y, d, p, q, lw, lg, wv, gv, h1, S⟩
  have im := imm_butI e hi
  have ll : ∀ {x : Addr} {xs : List V}, H x = some (.lst xs) → H' x = some (.lst xs) := fun h => e _ _ (ne_of h hi (by intro z; cases z)) h
  exact ⟨y, d, p, q, lw, lg, wv, gv, h1, e _ _ (ne_sheets hi S.ins (by simp)) S.ins, seqT_imm im S.names, seqT_imm im S.lim, ll S.wl, paired_map (fun _ _ h => h.butA e hi) S.ws, ll S.gl, paired_map (fun _ _ h => h.butA e hi) S.gs, S.fa, S.fw, S.fg⟩
end
theorem paired_memb {α β : Type} {R S : α → β → Prop} : ∀ {as : List α} {bs : List β}, (∀ a b, b ∈ bs → R a b → S a b) → Paired R as bs → Paired S as bs
  | _, _, _, .nil => .nil
  | _, _, f, .cons h r => .cons (f _ _ (List.mem_cons_self ..) h) (paired_memb (fun a b m => f a b (List.mem_cons_of_mem _ m)) r)
/-- a claim with fields stays while an empty instance changes -/
theorem cls_but0 {K : PySem.W.Frag} {H H' : Hp} {a C dx : Addr} (e : But a H H') (hi : H a = some (.ins C dx [])) {vs : List V} {cs : List Cm.C} (n : ∀ c ∈ cs, c ≠ .claim) (h : Co.Cls K H vs cs) : Co.Cls K H' vs cs :=
  paired_memb (fun v c hc ⟨x, hx, hy⟩ => ⟨x, hx, by
    have im := imm_butI e hi
    have nc := n c hc
    cases c with
    | claim => exact absurd rfl nc
    | beats o t => obtain ⟨d, h⟩ := hy; exact ⟨d, e _ _ (ne_of h hi (by intro z; cases z)) h⟩
    | over k s => obtain ⟨d, q, h, g⟩ := hy; exact ⟨d, q, e _ _ (ne_of h hi (by intro z; cases z)) h, seqT_imm im g⟩
    | under k s => obtain ⟨d, q, h, g⟩ := hy; exact ⟨d, q, e _ _ (ne_of h hi (by intro z; cases z)) h, seqT_imm im g⟩⟩) h

def sp_in_common (K : PySem.W.Frag) : Sp := fun vs H Q _ => ∃ (a b : Int), vs = [.int a, .int b] ∧ Q (.int (Int.gcd a b : Int)) H
def sp_lowest (K : PySem.W.Frag) : Sp := fun vs H Q E => ∃ (a b : Int), vs = [.int a, .int b] ∧ (b = 0 → E (.ref (He.ga K "NoFraction")) none H) ∧ (b ≠ 0 → Okd a b ∧ ∀ p H', Same H H' → SqT K H' p (Fr.fq (Rat.divInt a b)) → Q (.ref p) H')
def sp_plus (K : PySem.W.Frag) : Sp := fun vs H Q _ => ∃ (p q : Addr) (x y : Rat) (m n : Nat), vs = [.ref p, .ref q] ∧ SqT K H p (Fr.fq x) ∧ SqT K H q (Fr.fq y) ∧ Fr.Sz m x ∧ Fr.Sz n y ∧ m + n ≤ 9000 ∧ ∀ r H', Same H H' → SqT K H' r (Fr.fq (x + y)) → Fr.Sz (m + n + 1) (x + y) → Q (.ref r) H'
def sp_minus (K : PySem.W.Frag) : Sp := fun vs H Q _ => ∃ (p q : Addr) (x y : Rat) (m n : Nat), vs = [.ref p, .ref q] ∧ SqT K H p (Fr.fq x) ∧ SqT K H q (Fr.fq y) ∧ Fr.Sz m x ∧ Fr.Sz n y ∧ m + n ≤ 9000 ∧ ∀ r H', Same H H' → SqT K H' r (Fr.fq (x - y)) → Fr.Sz (m + n + 1) (x - y) → Q (.ref r) H'
def sp_times (K : PySem.W.Frag) : Sp := fun vs H Q _ => ∃ (p q : Addr) (x y : Rat) (m n : Nat), vs = [.ref p, .ref q] ∧ SqT K H p (Fr.fq x) ∧ SqT K H q (Fr.fq y) ∧ Fr.Sz m x ∧ Fr.Sz n y ∧ (m + n ≤ 9000 ∨ (m + n ≤ 1000000 ∧ y ≠ 0 ∧ 2 * n ≤ 9000)) ∧ ∀ r H', Same H H' → SqT K H' r (Fr.fq (x * y)) → Fr.Sz (m + n) (x * y) → Q (.ref r) H'
def sp_over (K : PySem.W.Frag) : Sp := fun vs H Q E => ∃ (p q : Addr) (x y : Rat) (m n : Nat), vs = [.ref p, .ref q] ∧ SqT K H p (Fr.fq x) ∧ SqT K H q (Fr.fq y) ∧ Fr.Sz m x ∧ Fr.Sz n y ∧ m + n ≤ 9000 ∧ (y = 0 → E (.ref (He.ga K "NoFraction")) none H) ∧ (y ≠ 0 → ∀ r H', Same H H' → SqT K H' r (Fr.fq (x / y)) → Fr.Sz (m + n) (x / y) → Q (.ref r) H')
def sp_below (K : PySem.W.Frag) : Sp := fun vs H Q _ => ∃ (p q : Addr) (x y : Rat) (m n : Nat), vs = [.ref p, .ref q] ∧ SqT K H p (Fr.fq x) ∧ SqT K H q (Fr.fq y) ∧ Fr.Sz m x ∧ Fr.Sz n y ∧ m + n ≤ 134217728 ∧ Q (.bl (decide (x < y))) H
def sp_Game___init__ (K : PySem.W.Frag) : Sp := fun vs H Q _ => ∃ (a dx t r : Addr) (n : Nat) (ag : Bool) (top : Rat) (R : Ru.R), vs = [.ref a, .int (n : Int), .bl ag, .ref t, .ref r] ∧ H a = some (.ins (He.ga K "Game") dx []) ∧ SqT K H t (Fr.fq top) ∧ RAt K H r R ∧ r ≠ a ∧
  ∀ l H', But a H H' → H l = none → GAt K H' a l (Gm.init n ag top R) → Q .non H'
def sp_Game_twin (K : PySem.W.Frag) : Sp := fun vs H Q _ => ∃ (a l : Addr) (g : Gm.S), vs = [.ref a] ∧ GAt K H a l g ∧ ∀ b m H', Same H H' → H b = none → H m = none → GAt K H' b m g → Q (.ref b) H'
def sp_Game_ended (K : PySem.W.Frag) : Sp := fun vs H Q _ => ∃ (a l : Addr) (g : Gm.S), vs = [.ref a] ∧ GAt K H a l g ∧ Q (.bl (Gm.ended g)) H
def sp_Game_price (K : PySem.W.Frag) : Sp := fun vs H Q _ => ∃ (a l : Addr) (g : Gm.S) (c : Nat), vs = [.ref a] ∧ GAt K H a l g ∧ Fr.Sz c (Lw.sum g.vals) ∧ c ≤ 1000 ∧ g.n ≤ 60 ∧ (g.ag = false → g.vals.length ≤ g.n) ∧ ∀ v H', Same H H' → PrO K H' v (Gm.priceO g) → Q v H'
def sp_Game_worth_behind (K : PySem.W.Frag) : Sp := fun vs H Q _ => ∃ (a l p : Addr) (g : Gm.S) (v : Rat) (b c t z : Nat), vs = [.ref a, .ref p] ∧ GAt K H a l g ∧ SqT K H p (Fr.fq v) ∧ Gm.Fits g v b c t z ∧ g.cert = false ∧ ∀ r H', Same H H' → SqT K H' r (Fr.fq (Gm.behind g v)) → Q (.ref r) H'
def sp_Game_play (K : PySem.W.Frag) : Sp := fun vs H Q E => ∃ (a l p : Addr) (g : Gm.S) (v : Rat), vs = [.ref a, .ref p] ∧ GAt K H a l g ∧ SqT K H p (Fr.fq v) ∧ ((Gm.ended g = true ∧ E (.ref (He.ga K "Ended")) none H) ∨ ∃ b c t z, Gm.Fits g v b c t z ∧ ∀ H', But2 a l H H' → GAt K H' a l (Gm.play g v) → Q .non H')
def sp_Game_worth (K : PySem.W.Frag) : Sp := fun vs H Q _ => ∃ (a l : Addr) (g : Gm.S), vs = [.ref a] ∧ GAt K H a l g ∧ ∀ v, PrO K H v (Gm.worthO g) → Q v H
def sp_Game_reached (K : PySem.W.Frag) : Sp := fun vs H Q _ => ∃ (a l p : Addr) (g : Gm.S) (x : Rat) (m n : Nat), vs = [.ref a, .ref p] ∧ GAt K H a l g ∧ SqT K H p (Fr.fq x) ∧ (g.cert = false → Fr.Sz m g.most) ∧ Fr.Sz n x ∧ (m + n ≤ 9000 ∨ (m + n ≤ 1000000 ∧ x ≠ 0 ∧ 2 * n ≤ 9000)) ∧ ∀ H', Same H H' → Q (.bl (Gm.reached g x)) H'
def sp_Way___init__ (K : PySem.W.Frag) : Sp := fun vs H Q _ => ∃ (a C dx : Addr) (u : V), vs = [.ref a, u] ∧ H a = some (.ins C dx []) ∧ Cls K C ∧ NoAttr K C "claim" ∧ ∀ H', But a H H' → H' a = some (.ins C dx [("claim", u)]) → Q .non H'
def sp_Looking_value (K : PySem.W.Frag) : Sp := fun vs H Q _ => ∃ (a dx w : Addr) (u : V) (m : Option Str) (c : Cm.C) (n : Nat), vs = [.ref a, u, Cm.mv m] ∧ H a = some (.ins (He.ga K "Looking") dx [("claim", .ref w)]) ∧ Cm.At K H w c ∧ Fam c ∧ Cm.Ok n c ∧ n ≤ 1000 ∧ ∀ p H', Same H H' → SqT K H' p (Fr.fq (Cm.value c m)) → Q (.ref p) H'
def sp_Looking_top (K : PySem.W.Frag) : Sp := fun vs H Q _ => ∃ (a dx w : Addr) (c : Cm.C) (n : Nat), vs = [.ref a] ∧ H a = some (.ins (He.ga K "Looking") dx [("claim", .ref w)]) ∧ Cm.At K H w c ∧ Fam c ∧ Cm.Ok n c ∧ n ≤ 1000 ∧ ∀ p H', Same H H' → SqT K H' p (Fr.fq (Cm.greatest c)) → Q (.ref p) H'
def sp_way_of (K : PySem.W.Frag) : Sp := fun vs H Q _ => ∃ (w : Addr) (u : V), vs = [.ref w, .non, u] ∧ ∀ a dx H', H a = none → Same H H' → H' a = some (.ins (He.ga K "Looking") dx [("claim", .ref w)]) → Q (.ref a) H'
def sp_is_mark (K : PySem.W.Frag) : Sp := fun vs H Q _ => ∃ (m : Option Str) (p : Addr) (ns : List Str), vs = [Cm.mv m, .ref p] ∧ SqT K H p (ns.map V.str) ∧ Q (.bl (decide (m = none ∨ m = some (Str.ofString "") ∨ ∃ n ∈ ns, m = some n))) H
def sp_Sheet___init__ (K : PySem.W.Frag) : Sp := fun vs H Q _ => ∃ (a dx : Addr) (u v : V), vs = [.ref a, u, v] ∧ H a = some (.ins (He.ga K "Sheet") dx []) ∧
  ∀ lw lg H', But a H H' → H lw = none → H lg = none → lw ≠ lg → H' a = some (.ins (He.ga K "Sheet") dx [("names", u), ("limit", v), ("ways", .ref lw), ("games", .ref lg)]) → H' lw = some (.lst []) → H' lg = some (.lst []) → Q .non H'
def sp_Sheet_add (K : PySem.W.Frag) : Sp := fun vs H Q _ => ∃ (a dx lw lg : Addr) (u v w g : V) (ws gs : List V), vs = [.ref a, w, g] ∧ H a = some (.ins (He.ga K "Sheet") dx [("names", u), ("limit", v), ("ways", .ref lw), ("games", .ref lg)]) ∧ H lw = some (.lst ws) ∧ H lg = some (.lst gs) ∧ lw ≠ lg ∧ ws.length ≤ 4000 ∧ gs.length ≤ 4000 ∧
  ∀ H', But2 lw lg H H' → H' lw = some (.lst (ws ++ [w])) → H' lg = some (.lst (gs ++ [g])) → Q .non H'
def sp_Sheet_is_sure (K : PySem.W.Frag) : Sp := fun vs H Q _ => ∃ (v : V) (F : Addr → Prop) (s : Au.Sh), vs = [v] ∧ SAt K H F v s ∧ s.gs.length ≤ 1000 ∧ (∀ g ∈ s.gs, Au.LOk s.lim g) ∧ ∀ H', Same H H' → Q (.bl s.sure) H'
def sp_Sheet_played (K : PySem.W.Frag) : Sp := fun vs H Q _ => ∃ (v : V) (F : Addr → Prop) (s : Au.Sh) (i : Nat) (m : Option Str), vs = [v, .int (i : Int), Cm.mv m] ∧ SAt K H F v s ∧ s.ws.length = s.gs.length ∧ s.gs.length ≤ 1000 ∧ (∀ w ∈ s.ws, WayOk i w) ∧
  (∀ (k : Nat) (w : Au.W) (g : Gm.S), s.ws[k]? = some w → s.gs[k]? = some g → ∃ b c t z, Gm.Fits g (w.val i m) b c t z) ∧ ∀ D gv H', Same H H' → H D = none → H' D = some (.lst gv) → Paired (GmAt K H' fun x => H x = none ∧ x ≠ D ∧ H' x ≠ none) gv (Au.playW i m s.ws s.gs) → Q (.ref D) H'
def sp_Audit___init__ (K : PySem.W.Frag) : Sp := fun vs H Q _ => ∃ (a dx p q lp r : Addr) (us ws ls : List V) (ts : List Au.T3) (n most : Nat) (ag : Bool) (R : Ru.R) (H0 : Hp), vs = [.ref a, .ref p, .ref q, .ref lp, .int (n : Int), .non, .ref r, .bl ag, .int (most : Int)] ∧ Same H0 H ∧ H0 a = none ∧ H a = some (.ins (He.ga K "Audit") dx []) ∧
  SqT K H0 p us ∧ Co.Cts K H0 us (ts.map (·.1)) ∧ SqT K H0 q ws ∧ Au.Out3 K H0 ws ts ∧ SqT K H0 lp ls ∧ Fqs K H0 ls (ts.map (·.2.2)) ∧ RAt K H0 r R ∧ ts.length ≤ 60 ∧ (∀ t ∈ ts, Au.TOk t ∧ CFam t.1) ∧ (∀ t ∈ ts, ∀ c ∈ Co.claimsC t.1 t.2.1, Fam c) ∧
  ∀ H' F, Same H0 H' → (∀ x, F x → H0 x = none) → AAt K H' F a (Au.A.init ts n ag most R) → Q .non H'
def sp_Audit_sure_of (K : PySem.W.Frag) : Sp := fun vs H Q _ => ∃ (a : Addr) (F : Addr → Prop) (A : Au.A), vs = [.ref a] ∧ AAt K H F a A ∧ A.ss.length ≤ 1000 ∧ (∀ s ∈ A.ss, s.gs.length ≤ 1000 ∧ ∀ g ∈ s.gs, Au.LOk s.lim g) ∧ ∀ r H', Same H H' → H' r = some (.tup (A.sure.map V.bl)) → Q (.ref r) H'
def sp_Audit_worths (K : PySem.W.Frag) : Sp := fun vs H Q _ => ∃ (a : Addr) (F : Addr → Prop) (A : Au.A), vs = [.ref a] ∧ AAt K H F a A ∧ A.ss.length ≤ 1000 ∧ (∀ s ∈ A.ss, s.gs.length ≤ 1000) ∧ ∀ r us H', Same H H' → SqT K H' r us → Wos K H' us A.worths → Q (.ref r) H'
def sp_Audit_verdict (K : PySem.W.Frag) : Sp := fun vs H Q _ => ∃ (a : Addr) (F : Addr → Prop) (A : Au.A), vs = [.ref a] ∧ AAt K H F a A ∧ A.ss.length ≤ 1000 ∧ (∀ s ∈ A.ss, s.gs.length ≤ 1000 ∧ ∀ g ∈ s.gs, Au.LOk s.lim g) ∧ ∀ H', Same H H' → Q (.str A.verdict) H'
def sp_Audit_is_number (K : PySem.W.Frag) : Sp := fun vs H Q _ => ∃ (a : Addr) (F : Addr → Prop) (A : Au.A) (i : Nat), vs = [.ref a, .int (i : Int)] ∧ AAt K H F a A ∧ i < A.n ∧ Q (.bl (Au.free A i)) H
def sp_Audit_is_ballot (K : PySem.W.Frag) : Sp := fun vs H Q _ => ∃ (a : Addr) (F : Addr → Prop) (A : Au.A) (v : V) (o : Option (List (Option Str))), vs = [.ref a, v] ∧ AAt K H F a A ∧ Co.Bal K H v o ∧ Au.BOk A.ss o ∧ A.ss.length ≤ 1000 ∧ ∀ H', Same H H' → Q (.bl true) H'
def sp_Audit_draw (K : PySem.W.Frag) : Sp := fun vs H Q E => ∃ (a : Addr) (F : Addr → Prop) (A : Au.A) (i : Nat) (v : V) (o : Option (List (Option Str))), vs = [.ref a, .int (i : Int), v] ∧ AAt K H F a A ∧ Co.Bal K H v o ∧ Au.DOk A i o ∧ (∀ s ∈ A.ss, ∀ w ∈ s.ws, WayOk i w) ∧
  ((A.verdict ≠ Str.ofString "on" ∧ ∀ H', Same H H' → E (.ref (He.ga K "Ended")) none H') ∨
    (A.verdict = Str.ofString "on" ∧ ∀ H' G, Chg F H H' → (∀ x, G x → F x ∨ H x = none) → AAt K H' G a (A.draw i o) → Q (.str (A.draw i o).verdict) H'))
def sp_Claim_value (K : PySem.W.Frag) : Sp := fun vs H Q _ => ∃ (a : Addr) (m : Option Str) (c : Cm.C) (n : Nat), vs = [.ref a, Cm.mv m] ∧ Cm.At K H a c ∧ Fam c ∧ Cm.Ok n c ∧ n ≤ 1000 ∧ ∀ p H', Same H H' → SqT K H' p (Fr.fq (Cm.value c m)) → Q (.ref p) H'
def sp_Claim_value_of (K : PySem.W.Frag) : Sp := fun vs H Q _ => ∃ (a : Addr) (m : Option Str) (c : Cm.C) (n : Nat), vs = [.ref a, Cm.mv m] ∧ Cm.At K H a c ∧ Cm.Ok n c ∧ n ≤ 1000 ∧ c = .claim ∧ ∀ p H', Same H H' → SqT K H' p (Fr.fq (Cm.valueOf c m)) → Q (.ref p) H'
def sp_Claim_greatest (K : PySem.W.Frag) : Sp := fun vs H Q _ => ∃ (a : Addr) (c : Cm.C) (n : Nat), vs = [.ref a] ∧ Cm.At K H a c ∧ Cm.Ok n c ∧ n ≤ 1000 ∧ c = .claim ∧ ∀ p H', Same H H' → SqT K H' p (Fr.fq (Cm.greatest c)) → Q (.ref p) H'
def sp_Beats___init__ (K : PySem.W.Frag) : Sp := fun vs H Q _ => ∃ (a dx : Addr) (u0 u1 : V), vs = [.ref a, u0, u1] ∧ H a = some (.ins (He.ga K "Beats") dx []) ∧ ∀ H', But a H H' → H' a = some (.ins (He.ga K "Beats") dx [("one", u0), ("other", u1)]) → Q .non H'
def sp_Beats_value_of (K : PySem.W.Frag) : Sp := fun vs H Q _ => ∃ (a : Addr) (m : Option Str) (c : Cm.C) (n : Nat), vs = [.ref a, Cm.mv m] ∧ Cm.At K H a c ∧ Cm.Ok n c ∧ n ≤ 1000 ∧ (∃ o t, c = .beats o t) ∧ ∀ p H', Same H H' → SqT K H' p (Fr.fq (Cm.valueOf c m)) → Q (.ref p) H'
def sp_Beats_greatest (K : PySem.W.Frag) : Sp := fun vs H Q _ => ∃ (a : Addr) (c : Cm.C) (n : Nat), vs = [.ref a] ∧ Cm.At K H a c ∧ Cm.Ok n c ∧ n ≤ 1000 ∧ (∃ o t, c = .beats o t) ∧ ∀ p H', Same H H' → SqT K H' p (Fr.fq (Cm.greatest c)) → Q (.ref p) H'
def sp_Contest___init__ (K : PySem.W.Frag) : Sp := fun vs H Q _ => ∃ (a C dx : Addr) (u : V), vs = [.ref a, u] ∧ H a = some (.ins C dx []) ∧ Cls K C ∧ NoAttr K C "names" ∧ ∀ H', But a H H' → H' a = some (.ins C dx [("names", u)]) → Q .non H'
def sp_Contest_named (K : PySem.W.Frag) : Sp := fun vs H Q _ => ∃ (a C dx : Addr) (fs : List (Str × V)) (v : V), vs = [.ref a] ∧ H a = some (.ins C dx fs) ∧ Cls K C ∧ NoAttr K C "names" ∧ fs.lookup ("names" : Str) = some v ∧ Q v H
def sp_Most___init__ (K : PySem.W.Frag) : Sp := fun vs H Q _ => ∃ (a dx : Addr) (u0 u1 : V), vs = [.ref a, u0, u1] ∧ H a = some (.ins (He.ga K "Most") dx []) ∧ ∀ H', But a H H' → H' a = some (.ins (He.ga K "Most") dx [("names", u0), ("seats", u1)]) → Q .non H'
def sp_Most_claims (K : PySem.W.Frag) : Sp := fun vs H Q E => ∃ (a dx p q : Addr) (ns os : List Str) (k : Nat), vs = [.ref a, .ref q] ∧ H a = some (.ins (He.ga K "Most") dx [("names", .ref p), ("seats", .int (k : Int))]) ∧
  SqT K H p (ns.map V.str) ∧ SqT K H q (os.map V.str) ∧ ns.length ≤ 60 ∧ os.length ≤ 60 ∧ (∀ s ∈ ns, Pl.Nm s) ∧ (∀ s ∈ os, PyData.strOk s = true) ∧
  (Co.fit ns k os → ∀ l vs' H', H l = none → Same H H' → H' l = some (.lst vs') → Co.Cls K H' vs' (Co.mostC ns os) → Q (.ref l) H') ∧
  (¬ Co.fit ns k os → ∀ H', Same H H' → E (.ref (He.ga K "NoOutcome")) none H')
def sp_Rule_stake (K : PySem.W.Frag) : Sp := fun vs H Q _ => ∃ a b c d : V, vs = [a, b, c, d] ∧ ∀ p, SqT K H p (Fr.fq 0) → Q (.ref p) H
def sp_Fixed___init__ (K : PySem.W.Frag) : Sp := fun vs H Q _ => ∃ (a dx : Addr) (u : V), vs = [.ref a, u] ∧ H a = some (.ins (He.ga K "Fixed") dx []) ∧ ∀ H', But a H H' → H' a = some (.ins (He.ga K "Fixed") dx [("part", u)]) → Q .non H'
def sp_Fixed_stake (K : PySem.W.Frag) : Sp := fun vs H Q _ => ∃ (a dx : Addr) (u b c d : V), vs = [.ref a, b, c, d] ∧ H a = some (.ins (He.ga K "Fixed") dx [("part", u)]) ∧ Q u H
def sp__law_at (K : PySem.W.Frag) : Sp := fun vs H Q _ => ∃ (a : Addr) (ns : List Int) (k : Int), vs = [.ref a, .int k] ∧ SqL K H a (ns.map V.int) ∧ ns.length ≤ 63 ∧ 0 ≤ k ∧ k ≤ 100000 ∧ ∀ (r : Int) H', Same H H' → Q (.int r) H'
def sp__law_mix (K : PySem.W.Frag) : Sp := fun vs H Q _ => ∃ (c k : Int), vs = [.int c, .int k] ∧ 0 ≤ k ∧ k ≤ 100000 ∧ ∀ r : Int, 0 ≤ r → r < 2147483647 → Q (.int r) H
def sp__law_names (K : PySem.W.Frag) : Sp := fun vs H Q _ => ∃ (c : Int) (m : Nat), vs = [.int c, .int (m : Int)] ∧ m ≤ 8 ∧
  ∀ (q : Addr) (ns : List Str) H', Same H H' → H q = none → H' q = some (.lst (ns.map V.str)) → ns.length = m → ns.Nodup → (∀ s ∈ ns, Pl.Nm s) → Q (.ref q) H'
def sp__law_lowest (K : PySem.W.Frag) : Sp := fun vs H Q _ => ∃ (a b : Int), vs = [.int a, .int b] ∧ b ≠ 0 ∧ Okd a b ∧ ∀ p H', Same H H' → H p = none → SqT K H' p (Fr.fq (Rat.divInt a b)) → Q (.ref p) H'
def sp__law_plus (K : PySem.W.Frag) : Sp := fun vs H Q _ => ∃ (p q : Addr) (x y : Rat) (m n : Nat), vs = [.ref p, .ref q] ∧ SqT K H p (Fr.fq x) ∧ SqT K H q (Fr.fq y) ∧ Fr.Sz m x ∧ Fr.Sz n y ∧ m + n ≤ 9000 ∧ ∀ r H', Same H H' → H r = none → SqT K H' r (Fr.fq (x + y)) → Fr.Sz (m + n + 1) (x + y) → Q (.ref r) H'
def sp__law_times (K : PySem.W.Frag) : Sp := fun vs H Q _ => ∃ (p q : Addr) (x y : Rat) (m n : Nat), vs = [.ref p, .ref q] ∧ SqT K H p (Fr.fq x) ∧ SqT K H q (Fr.fq y) ∧ Fr.Sz m x ∧ Fr.Sz n y ∧ m + n ≤ 9000 ∧ ∀ r H', Same H H' → H r = none → SqT K H' r (Fr.fq (x * y)) → Fr.Sz (m + n) (x * y) → Q (.ref r) H'
def sp__law_value (K : PySem.W.Frag) : Sp := fun vs H Q _ => ∃ (o t : Str) (m : Option Str), vs = [.str o, .str t, Cm.mv m] ∧ o ≠ t ∧ ∀ r H', Same H H' → H r = none → SqT K H' r (Fr.fq (Cm.value (.beats o t) m)) → Q (.ref r) H'
def sp__law_contest (K : PySem.W.Frag) : Sp := fun vs H Q _ => ∃ (z : Int) (l : Addr) (ns : List Str), vs = [.int z, .ref l] ∧ H l = some (.lst (ns.map V.str)) ∧ 2 ≤ ns.length ∧ ns.length ≤ 8 ∧
  ∀ p (k : Nat) H', Same H H' → Ag.Kq K H' p (ns, k) → 1 ≤ k → k < ns.length → Q (.ref p) H'
def sp__law_guess (K : PySem.W.Frag) : Sp := fun vs H Q _ => ∃ (z : Int) (p : Addr) (c : Ag.C), vs = [.ref p, .int z] ∧ Ag.Kq K H p c ∧ Ag.Fit c ∧
  ∀ r (os : List Str) H', Same H H' → SqT K H' r (os.map V.str) → Co.fit c.1 c.2 os → Q (.ref r) H'
def sp__law_ballot (K : PySem.W.Frag) : Sp := fun vs H Q _ => ∃ (z : Int) (l : Addr) (us : List V) (cs : List Ag.C), vs = [.int z, .ref l] ∧ SqL K H l us ∧ Ag.Kqs K H us cs ∧ (∀ c ∈ cs, Ag.Fit c) ∧ cs.length ≤ 10 ∧
  ∀ v (o : Option (List (Option Str))) H', Same H H' → Co.Bal K H' v o → Ag.BalOk cs o → Q v H'
/-- told draws -/
def Drs (K : PySem.W.Frag) (H : Hp) (vs : List V) (ds : List Au.Dr) : Prop := Paired (fun v (d : Au.Dr) => ∃ p b, v = V.ref p ∧ SqT K H p [.int (d.1 : Int), b] ∧ Co.Bal K H b d.2) vs ds
theorem bal_imm {K : PySem.W.Frag} {H H' : Hp} (e : Imm H H') {v : V} : ∀ {b : Option (List (Option Str))}, Co.Bal K H v b → Co.Bal K H' v b
  | none, h => h
  | some _, ⟨p, h, g⟩ => ⟨p, h, seqT_imm e g⟩
theorem Drs.imm {K : PySem.W.Frag} {H H' : Hp} (e : Imm H H') {vs : List V} {ds : List Au.Dr} (h : Drs K H vs ds) : Drs K H' vs ds := paired_map (fun _ _ ⟨p, b, h1, h2, h3⟩ => ⟨p, b, h1, seqT_imm e h2, bal_imm e h3⟩) h
/-- told outcomes -/
def Oss (K : PySem.W.Frag) (H : Hp) (ws : List V) (oss : List (List Str)) : Prop := Paired (fun v os => ∃ p, v = V.ref p ∧ SqT K H p (os.map V.str)) ws oss
theorem Oss.imm {K : PySem.W.Frag} {H H' : Hp} (e : Imm H H') {ws : List V} {oss : List (List Str)} (h : Oss K H ws oss) : Oss K H' ws oss := paired_map (fun _ _ ⟨p, h1, h2⟩ => ⟨p, h1, seqT_imm e h2⟩) h
def vals (ds : List Au.Dr) (k : Nat) (c : Cm.C) : List Rat := ds.map fun d => Cm.value c (Au.markAt k d.2)
def due1 (s : Rat) (ds : List Au.Dr) (k : Nat) (c : Cm.C) : Option Rat := some (Ag.wor s (vals ds k c))
def dueK (s : Rat) (ds : List Au.Dr) (cs : List Ag.C) (oss : List (List Str)) (k : Nat) : List (Option Rat) := (Co.mostC (cs.getD k ([], 0)).1 (oss.getD k [])).map (due1 s ds k)
def dueW (s : Rat) (ds : List Au.Dr) (cs : List Ag.C) (oss : List (List Str)) (n : Nat) : List (List (Option Rat)) := (List.range n).map (dueK s ds cs oss)
def sp__law_worths (K : PySem.W.Frag) : Sp := fun vs H Q _ => ∃ (cl ol dl pa : Addr) (us ws dv : List V) (cs : List Ag.C) (oss : List (List Str)) (ds : List Au.Dr) (s : Rat), vs = [.ref cl, .ref ol, .ref dl, .ref pa] ∧ SqL K H cl us ∧ Ag.Kqs K H us cs ∧ SqT K H ol ws ∧ Oss K H ws oss ∧ SqL K H dl dv ∧ Drs K H dv ds ∧ SqT K H pa (Fr.fq s) ∧ Fr.Sz 7 s ∧
  cs.length ≤ 10 ∧ oss.length = cs.length ∧ ds.length ≤ 20 ∧ (∀ c ∈ cs, Ag.Fit c) ∧ (∀ (k : Nat) (c : Ag.C) (os : List Str), cs[k]? = some c → oss[k]? = some os → Co.fit c.1 c.2 os) ∧ (∀ d ∈ ds, Ag.BalOk cs d.2) ∧
  ∀ r us' H', Same H H' → SqT K H' r us' → Wos K H' us' (dueW s ds cs oss cs.length) → Q (.ref r) H'
theorem get_perm {α : Type} {l : List α} {j : Nat} (h : j < l.length) : l.Perm (l[j]'h :: l.eraseIdx j) := by
  have e : l = l.take j ++ l[j]'h :: l.drop (j + 1) := by rw [← List.drop_eq_getElem_cons h, List.take_append_drop]
  rw [List.eraseIdx_eq_take_drop_succ]
  conv => lhs; rw [e]
  exact List.perm_middle
def sp__law_exchanged (K : PySem.W.Frag) : Sp := fun vs H Q _ => ∃ (z : Int) (l : Addr) (us : List V), vs = [.ref l, .int z] ∧ SqL K H l us ∧ us.length ≤ 100 ∧
  ∀ p us' H', Same H H' → H p = none → H' p = some (.lst us') → us'.Perm us → Q (.ref p) H'
/-- some audits beside one another, all made behind a heap -/
def Aus (K : PySem.W.Frag) (Hc H : Hp) (D : Addr) (as : List Addr) (As : Nat → Au.A) : Prop := Same Hc H ∧ ∃ F : Nat → Addr → Prop, (∀ (j : Nat) (x : Addr), as[j]? = some x → AAt K H (F j) x (As j)) ∧ (∀ (j : Nat) (x : Addr), j < as.length → F j x → Hc x = none ∧ x ≠ D) ∧ (∀ (i j : Nat) (x : Addr), i < as.length → j < as.length → i ≠ j → F i x → ¬ F j x)
theorem Aus.same {K : PySem.W.Frag} {Hc H H' : Hp} {D : Addr} {as : List Addr} {As : Nat → Au.A} (h : Aus K Hc H D as As) (e : Same H H') : Aus K Hc H' D as As := by
  obtain ⟨s, F, h1, h2, h3⟩ := h
  exact ⟨s.trans e, F, fun j x hx => (h1 j x hx).same e, h2, h3⟩
theorem Aus.butD {K : PySem.W.Frag} {Hc H H' : Hp} {D : Addr} {as : List Addr} {As : Nat → Au.A} {ys : List V} (h : Aus K Hc H D as As) (e : But D H H') (nD : Hc D = none) (hD : H D = some (.lst ys)) : Aus K Hc H' D as As := by
  obtain ⟨s, F, h1, h2, h3⟩ := h
  refine ⟨But.same nD s e, F, fun j x hx => (h1 j x hx).kp (Kp.but e hD fun z => ?_), h2, h3⟩
  exact (h2 j D (List.getElem?_eq_some_iff.mp hx).1 z).2 rfl
theorem Aus.add {K : PySem.W.Frag} {Hc H H' : Hp} {D : Addr} {as : List Addr} {As : Nat → Au.A} {F' : Addr → Prop} {x : Addr} {A : Au.A} (h : Aus K Hc H D as As) (e : Same H H') (hA : AAt K H' F' x A) (hF : ∀ y, F' y → H y = none) (hD : H D ≠ none) (eA : As as.length = A) : Aus K Hc H' D (as ++ [x]) As := by
  obtain ⟨s, F, h1, h2, h3⟩ := h
  have live : ∀ j y, j < as.length → F j y → H y ≠ none := fun j y hj f => by
    obtain ⟨_, _, _, _, A0⟩ := h1 j _ (List.getElem?_eq_getElem hj)
    exact A0.live y f
  refine ⟨s.trans e, fun j => if j = as.length then F' else F j, fun j y hy => ?_, fun j y hj f => ?_, fun i j y hi hj ne f g => ?_⟩
  · rcases Nat.lt_or_ge j as.length with c | c
    · rw [List.getElem?_append_left c] at hy
      dsimp only
      rw [if_neg (by omega)]
      exact (h1 j y hy).same e
    · have hj := (List.getElem?_eq_some_iff.mp hy).1
      rw [List.length_append] at hj
      have ej : j = as.length := by simp at hj; omega
      subst ej
      rw [List.getElem?_append_right (Nat.le_refl _), Nat.sub_self] at hy
      obtain rfl := Option.some.inj hy
      dsimp only
      rw [if_pos rfl, eA]
      exact hA
  · dsimp only at f
    split at f
    · refine ⟨?_, fun z => hD (z ▸ hF y f)⟩
      cases q : Hc y with
      | none => rfl
      | some o => have := hF y f; rw [s _ _ q] at this; cases this
    · refine h2 j y ?_ f
      rw [List.length_append] at hj
      simp at hj
      omega
  · dsimp only at f g
    rw [List.length_append] at hi hj
    simp at hi hj
    split at f
    · split at g
      · omega
      · exact live j y (by omega) g (hF y f)
    · split at g
      · exact live i y (by omega) f (hF y g)
      · exact h3 i j y (by omega) (by omega) ne f g
theorem Aus.draw {K : PySem.W.Frag} {Hc H H' : Hp} {D : Addr} {as : List Addr} {As As' : Nat → Au.A} {F : Nat → Addr → Prop} {G : Addr → Prop} {x : Addr} {A : Au.A} {j : Nat} (s : Same Hc H) (h1 : ∀ (j : Nat) (x : Addr), as[j]? = some x → AAt K H (F j) x (As j)) (h2 : ∀ (j : Nat) (x : Addr), j < as.length → F j x → Hc x = none ∧ x ≠ D) (h3 : ∀ (i j : Nat) (x : Addr), i < as.length → j < as.length → i ≠ j → F i x → ¬ F j x)
    (hD : H D ≠ none) (hx : as[j]? = some x) (c : Chg (F j) H H') (g : ∀ y, G y → F j y ∨ H y = none) (hA : AAt K H' G x A) (e1 : As' j = A) (e2 : ∀ i, i < as.length → i ≠ j → As' i = As i) : Aus K Hc H' D as As' := by
  have hj := (List.getElem?_eq_some_iff.mp hx).1
  have live : ∀ i y, i < as.length → F i y → H y ≠ none := fun i y hi f => by
    obtain ⟨_, _, _, _, A0⟩ := h1 i _ (List.getElem?_eq_getElem hi)
    exact A0.live y f
  refine ⟨fun y o h => c.oth y o (fun f => by have := (h2 j y hj f).1; rw [h] at this; cases this) (s _ _ h), fun i => if i = j then G else F i, fun i y hy => ?_, fun i y hi f => ?_, fun i k y hi hk ne f f' => ?_⟩
  · have hi := (List.getElem?_eq_some_iff.mp hy).1
    dsimp only
    by_cases e : i = j
    · subst e
      rw [if_pos rfl, e1]
      rw [hx] at hy
      obtain rfl := Option.some.inj hy
      exact hA
    · rw [if_neg e, e2 i hi e]
      exact (h1 i y hy).kp (c.kp fun y f => h3 i j y hi hj e f)
  · dsimp only at f
    split at f
    · rcases g y f with f | f
      · exact h2 j y hj f
      · refine ⟨?_, fun z => hD (z ▸ f)⟩
        cases q : Hc y with
        | none => rfl
        | some o => rw [s _ _ q] at f; cases f
    · exact h2 i y hi f
  · dsimp only at f f'
    split at f
    · split at f'
      · omega
      · rcases g y f with z | z
        · exact h3 j k y hj hk (by omega) z f'
        · exact live k y hk f' z
    · split at f'
      · rcases g y f' with z | z
        · exact h3 i j y hi hj (by omega) f z
        · exact live i y hi f z
      · exact h3 i k y hi hk ne f f'
theorem paired_perm {α β : Type} {R : α → β → Prop} {as as' : List α} (pm : as'.Perm as) : ∀ {bs : List β}, Paired R as bs → ∃ bs', bs'.Perm bs ∧ Paired R as' bs' := by
  induction pm with
  | nil => intro bs h; exact ⟨bs, List.Perm.refl _, h⟩
  | cons x _ ih =>
    intro bs h
    cases h with
    | cons a r =>
      obtain ⟨bs', p, q⟩ := ih r
      exact ⟨_ :: bs', p.cons _, .cons a q⟩
  | swap x y l =>
    intro bs h
    cases h with
    | cons a r =>
      cases r with
      | cons b r => exact ⟨_ :: _ :: _, List.Perm.swap _ _ _, .cons b (.cons a r)⟩
  | trans _ _ a b =>
    intro bs h
    obtain ⟨b1, p1, q1⟩ := b h
    obtain ⟨b2, p2, q2⟩ := a q1
    exact ⟨b2, p2.trans p1, q2⟩
def prD : Option Rat → PyData
  | none => .none
  | some q => Fr.fqd q
theorem PrO.dp {K : PySem.W.Frag} {H : Hp} {v : V} : ∀ {o : Option Rat}, PrO K H v o → Dp K H v (prD o)
  | none, h => by rw [show v = .non from h]; exact .non
  | some q, ⟨p, h, g⟩ => by rw [h]; exact Fr.dp_fq g
theorem PrOs.dp {K : PySem.W.Frag} {H : Hp} : ∀ {vs : List V} {ws : List (Option Rat)}, PrOs K H vs ws → DpAll K H vs (ws.map prD)
  | _, _, .nil => .nil
  | _, _, .cons h r => .cons h.dp (PrOs.dp r)
theorem Wos.dp {K : PySem.W.Frag} {H : Hp} : ∀ {vs : List V} {ws : List (List (Option Rat))}, Wos K H vs ws → DpAll K H vs (ws.map fun w => .tuple (w.map prD))
  | _, _, .nil => .nil
  | _, _, .cons ⟨r, zs, e, h, g⟩ rest => .cons (by rw [e]; exact .tup h g.dp) (Wos.dp rest)
theorem sh_pr (o : Option Rat) : Dt.Sh 1 (prD o) := by
  cases o with
  | none => exact Dt.sh_non
  | some q =>
    refine Dt.sh_tup fun d hd => ?_
    simp at hd
    rcases hd with rfl | rfl <;> exact Dt.sh_int _
theorem sh_wos (ws : List (List (Option Rat))) : Dt.Sh 3 (.tuple (ws.map fun w => .tuple (w.map prD))) := Dt.sh_tup fun d hd => by
  obtain ⟨w, _, rfl⟩ := List.mem_map.mp hd
  exact Dt.sh_tup fun d hd => by
    obtain ⟨o, _, rfl⟩ := List.mem_map.mp hd
    exact sh_pr o
/-- how far each audit is: those before j are one ahead -/
def step (A0 : Au.A) (ds : Nat → List Au.Dr) (k j : Nat) (i : Nat) : Au.A := A0.draws ((ds i).take (if i < j then k + 1 else k))
theorem Drs.rev {K : PySem.W.Frag} {H : Hp} {vs : List V} {ds : List Au.Dr} (h : Drs K H vs ds) : Drs K H vs.reverse ds.reverse := by
  have key : ∀ {vs : List V} {ds : List Au.Dr} {ws : List V} {es : List Au.Dr}, Drs K H vs ds → Drs K H ws es → Drs K H (vs.reverse ++ ws) (ds.reverse ++ es) := by
    intro vs ds ws es h
    induction h generalizing ws es with
    | nil => intro g; exact g
    | cons a r ih =>
      intro g
      rw [List.reverse_cons, List.reverse_cons, List.append_assoc, List.append_assoc]
      exact ih (.cons a g)
  have := key h (.nil : Drs K H [] [])
  rw [List.append_nil, List.append_nil] at this
  exact this
theorem Aus.congr {K : PySem.W.Frag} {Hc H : Hp} {D : Addr} {as : List Addr} {As As' : Nat → Au.A} (h : Aus K Hc H D as As) (e : ∀ i, i < as.length → As' i = As i) : Aus K Hc H D as As' := by
  obtain ⟨s, F, h1, h2, h3⟩ := h
  exact ⟨s, F, fun j x hx => by rw [e j (List.getElem?_eq_some_iff.mp hx).1]; exact h1 j x hx, h2, h3⟩
theorem paired_of {α β : Type} {R : α → β → Prop} : ∀ {as : List α} {bs : List β}, as.length = bs.length → (∀ (i : Nat) a b, as[i]? = some a → bs[i]? = some b → R a b) → Paired R as bs
  | [], [], _, _ => .nil
  | a :: as, b :: bs, l, h => .cons (h 0 a b rfl rfl) (paired_of (by simpa using l) fun i a b h1 h2 => h (i + 1) a b h1 h2)
def sp_law (K : PySem.W.Frag) : Sp := fun vs H Q _ => ∃ (a : Addr) (ns : List Int), vs = [.ref a] ∧ SqL K H a (ns.map V.int) ∧ ns.length ≤ 63 ∧ ∀ H', Q (.bl true) H'
theorem k_stake {K : PySem.W.Frag} {σ : L2.St} {H : Hp} {Q : VK} {ta : TE} {t : TA} {E : L2.St → XK} {a p tp : Addr} {r : Ru.R} {x y : Rat} {xs : List V} {qs : List Rat} {b m d z : Nat} (hev : ∀ Q : VK, Q (.ref a) H → ta σ H Q) (ha : RAt K H a r) (ok : Ru.Ok z r) (bz : z ≤ 1500)
    (fq : Fqs K H xs qs) (sq : ∀ q ∈ qs, Fr.Sz b q) (q60 : qs.length ≤ 60) (b90 : b ≤ 90) (hp : SqT K H p (Fr.fq x)) (ht : SqT K H tp (Fr.fq y)) (sx : Fr.Sz m x) (sy : Fr.Sz d y) (hm : m ≤ 700) (hd : d ≤ 200)
    (hq : ∀ Q : List V → Hp → Prop, (∀ pa H1, Same H H1 → SqT K H1 pa xs → Q [.ref pa, .ref p, .ref tp] H1) → t σ H Q) (k : ∀ f H', Same H H' → SqT K H' f (Fr.fq (Ru.stakeOf r qs x y)) → Q (.ref f) H') :
    (tOr2 (tMethS (He.ga K "Rule") "stake" (sp_Rule_stake K) E ta t) (tMethS (He.ga K "Fixed") "stake" (sp_Fixed_stake K) E ta t)) σ H Q := by
  cases r with
  | none =>
    obtain ⟨dx, h⟩ := ha
    refine k_o1 (k_meth (hev _ (k_methx h lk0 (hq _ fun pa H1 s1 h1 => ?_))))
    exact ⟨_, _, _, _, rfl, fun f hf => k f H1 s1 hf⟩
  | fixed q =>
    obtain ⟨dx, f, h, hf⟩ := ha
    refine k_o2 ((k_meth (hev _ (k_methx h (lkz (by decide +kernel) lk0) (hq _ fun pa H1 s1 h1 => ?_)))))
    exact ⟨a, dx, _, _, _, _, rfl, s1 _ _ h, k f H1 s1 (seqT_same s1 hf)⟩
  | learn g w => exact ha.elim
  | told φ =>
    obtain ⟨_, _, _, hf⟩ := ha
    exact hf.elim

theorem k_claimsF {K : PySem.W.Frag} {σ : L2.St} {H : Hp} {Q : VK} {ta : TE} {t : TA} {E : L2.St → XK} {a q : Addr} {ns os : List Str} {c : Co.C} (hev : ∀ Q : VK, Q (.ref a) H → ta σ H Q) (hq : ∀ Q : List V → Hp → Prop, Q [.ref q] H → t σ H Q) (g : Co.Good ns c) (cf : CFam c) (hc : Co.At K H a c) (hn : ns.length ≤ 60)
    (hnm : ∀ s ∈ ns, Pl.Nm s) (h1 : SqT K H q (os.map V.str)) (ft : Co.fitC c os) (k : ∀ l us H', H l = none → Same H H' → H' l = some (.lst us) → Co.Cls K H' us (Co.claimsC c os) → Q (.ref l) H') :
    tMethS (He.ga K "Most") "claims" (sp_Most_claims K) E ta t σ H Q := by
  have fn := Co.fit_names g ft
  have hok : ∀ s ∈ os, PyData.strOk s = true := fun s hs => (hnm s (fn.1 s hs)).ok
  rcases g with ⟨m, rfl, k1, k2⟩ | ⟨s, rfl, _⟩
  · obtain ⟨dx, p, g, hp⟩ := hc
    refine k_meth (hev _ (k_methx g ?_ (hq _ ?_)))
    · exact lkz (by decide +kernel) (lkz (by decide +kernel) lk0)
    · exact ⟨a, dx, p, q, ns, os, m, rfl, g, hp, h1, hn, by omega, hnm, hok, fun _ => k, fun z => absurd ft z⟩
  · exact cf.elim
theorem k_namedF {K : PySem.W.Frag} {σ : L2.St} {H : Hp} {Q : VK} {ta : TE} {E : L2.St → XK} {a : Addr} {ns : List Str} {c : Co.C} (hev : ∀ Q : VK, Q (.ref a) H → ta σ H Q) (g : Co.Good ns c) (cf : CFam c) (hc : Co.At K H a c) (cM : Cls K (He.ga K "Most")) (fM : NoAttr K (He.ga K "Most") "names") (cP : Cls K (He.ga K "Most")) (fP : NoAttr K (He.ga K "Most") "names")
    (k : ∀ p, SqT K H p (ns.map V.str) → Q (.ref p) H) : tMethS (He.ga K "Most") "named" (sp_Contest_named K) E ta tNil σ H Q := by
  rcases g with ⟨m, rfl, k1, k2⟩ | ⟨s, rfl, _⟩
  · obtain ⟨dx, p, g, hp⟩ := hc
    refine k_meth (hev _ (k_methx g (lkz (by decide +kernel) (lkz (by decide +kernel) lk0)) ?_))
    exact ⟨a, _, dx, _, _, rfl, g, cM, fM, lk1, k p hp⟩
  · exact cf.elim

end Lw
namespace Lw
open PySem PySem.Spec PyProof.Rows L2 Gx
section
variable {P : Program} {w : World} {K : PySem.W.Frag} {mg : Str → Option Value} {base : Heap} {f : Addr} {fd : FuncData}
theorem ok_in_common (F : FnP K "in_common" "in_common" s_in_common f fd) (T : Txt K mg) : FnOk P w K mg base (L2.CX P w) 1 f fd ["a", "b"] (sp_in_common K) := by
  refine F.ok sc_in_common (fun vs H Q E h => ?_) (fun cdv A outer s H vs Q E hr h => ?_)
  · obtain ⟨a, b, rfl, _⟩ := h; rfl
  · refine ⟨_, (pss_cons (ps_set (i := 0) sc_in_common.nd rfl (Or.inl rfl) (pe_callB call_absU (by rfl) T.n_abs (by decide +kernel) (pa_cons (pv 0) pa_nil))) (pss_cons (ps_set (i := 1) sc_in_common.nd rfl (Or.inl rfl) (pe_callB call_absU (by rfl) T.n_abs (by decide +kernel) (pa_cons (pv 1) pa_nil))) (pss_cons (ps_while (passes_of rfl) (pt_cmpR op_gt (pv 1) pe_int (nomark _)) (pss_one (ps_par (i := 0) (j := 1) (by rfl) sc_in_common.nd rfl rfl (by decide) rfl rfl (pa_cons (pv 1) (pa_cons (pe_op op_modN (pv 0) (pv 1)) pa_nil)) (by rfl)))) (pss_one (ps_ret (pv 0)))))), ?_⟩
    obtain ⟨a, b, rfl, kk⟩ := h
    walk_at "go"
    refine k_while (fun m σ H' => H' = H ∧ ∃ x : Nat, σ = [some (.int (x : Int)), some (.int (m : Int))] ∧ Nat.gcd x m = Int.gcd a b) b.natAbs ⟨rfl, a.natAbs, rfl, rfl⟩ ?_
    rintro m σ H' ⟨rfl, x, rfl, e⟩
    walk_at "go"
    refine k_if (fun c => ?_) (fun c => ?_)
    · refine k_wN ?_
      walk_at "go"
      refine ⟨x % m, Nat.mod_lt _ (by omega), rfl, m, rfl, ?_⟩
      rw [← e, Nat.gcd_comm m, ← Nat.gcd_rec, Nat.gcd_comm]
    · obtain rfl : m = 0 := by omega
      walk_at "go"
      rw [Nat.gcd_zero_right] at e
      rw [e]
      exact kk
end
end Lw
namespace Lw
open PySem PySem.Spec PyProof.Rows L2 Gx
section
variable {P : Program} {w : World} {K : PySem.W.Frag} {mg : Str → Option Value} {base : Heap} {f : Addr} {fd : FuncData}
theorem ok_lowest (F : FnP K "lowest" "lowest" s_lowest f fd) (T : Txt K mg) (c_in_common : Cl P w K mg base 1 "in_common" ["a", "b"] (sp_in_common K)) : FnOk P w K mg base (L2.CX P w) 2 f fd ["a", "b"] (sp_lowest K) := by
  refine F.ok sc_lowest (fun vs H Q E h => ?_) (fun cdv A outer s H vs Q E hr h => ?_)
  · obtain ⟨a, b, rfl, _⟩ := h; rfl
  · refine ⟨_, (pss_cons (ps_if (pt_cmpR (op_eqK (K := K) rfl hr) (pv 1) pe_int (nomark _)) (pss_one (ps_raise rfl (takes_of rfl rfl rfl rfl) (pmk_own PySem.F.excBase_ValueError T.x_NoFraction.1 T.g_NoFraction T.x_NoFraction.2.1 (raises_own T.x_NoFraction.2.2.1 T.x_NoFraction.2.2.2) rfl))) pss_nil) (pss_cons (ps_set (i := 2) sc_lowest.nd rfl (Or.inl rfl) (pcall c_in_common hr (by first | decide | omega) (takes_of rfl rfl rfl rfl) (pa_cons (pv 0) (pa_cons (pv 1) pa_nil)))) (C8.pss_cut (ps_if (pt_cmpR op_lt (pv 1) pe_int (nomark _)) (pss_one (ps_set (i := 2) sc_lowest.nd rfl (Or.inl rfl) (pe_op op_sub pe_int (pv 2)))) pss_nil) (pss_one (ps_ret (pe_tup (pa_cons (pe_op op_fdivG (pv 0) (pv 2)) (pa_cons (pe_op op_fdivG (pv 1) (pv 2)) pa_nil)))))))), ?_⟩
    obtain ⟨a, b, rfl, k0, k1⟩ := h
    walk_at "go"
    refine k_if (fun c => ?_) (fun c => ?_)
    · walk_at "go"
      exact k0 c
    · obtain ⟨hd, k1⟩ := k1 c
      walk_at "go"
      refine ⟨a, b, rfl, ?_⟩
      walk_at "go"
      refine k_cut (fun σ H' => H' = H ∧ ∃ d : Int, d = (if b < 0 then 0 - (Int.gcd a b : Int) else (Int.gcd a b : Int)) ∧ σ = [some (.int a), some (.int b), some (.int d)]) ?_ ?_
      · walk_at "go"
        refine k_if (fun c2 => ?_) (fun c2 => ?_)
        · walk_at "go"
          exact ⟨rfl, _, by rw [if_pos c2], rfl⟩
        · walk_at "go"
          exact ⟨rfl, _, by rw [if_neg c2], rfl⟩
      · rintro σ H' ⟨rfl, d, ed, rfl⟩
        have hg := Int.gcd_pos_of_ne_zero_right a c
        have hn : d.natAbs = Int.gcd a b := by rw [ed]; split <;> omega
        have hz : d ≠ 0 := by omega
        obtain ⟨d1, d2⟩ := hd.div hn
        walk_at "go"
        refine k_I ?_ ⟨hz, d1⟩
        walk_at "go"
        refine k_I ?_ ⟨hz, d2⟩
        walk_at "go"
        refine k_tupx (fun p H2 np s1 hp => ?_) (by simp [sizeLine_eq])
        refine k1 p H2 s1 (SqT.of ?_)
        rw [hp, Fr.low_num c ed, Fr.low_den c ed]
end
end Lw
namespace Lw
open PySem PySem.Spec PyProof.Rows L2 Gx
section
variable {P : Program} {w : World} {K : PySem.W.Frag} {mg : Str → Option Value} {base : Heap} {f : Addr} {fd : FuncData}
theorem ok_plus (F : FnP K "plus" "plus" s_plus f fd) (T : Txt K mg) (c_lowest : Cl P w K mg base 2 "lowest" ["a", "b"] (sp_lowest K)) : FnOk P w K mg base (L2.CX P w) 3 f fd ["x", "y"] (sp_plus K) := by
  refine F.ok sc_plus (fun vs H Q E h => ?_) (fun cdv A outer s H vs Q E hr h => ?_)
  · obtain ⟨p, q, x, y, m, n, rfl, _⟩ := h; rfl
  · refine ⟨_, (pss_one (ps_ret (pcall c_lowest hr (by first | decide | omega) (takes_of rfl rfl rfl rfl) (pa_cons (pe_op (op_addK (K := K) rfl) (pe_op (op_mulK (K := K) rfl) (pe_ix (ix_K (K := K) rfl) (pv 0) pe_int (fun _ _ => rfl)) (pe_ix (ix_K (K := K) rfl) (pv 1) pe_int (fun _ _ => rfl))) (pe_op (op_mulK (K := K) rfl) (pe_ix (ix_K (K := K) rfl) (pv 1) pe_int (fun _ _ => rfl)) (pe_ix (ix_K (K := K) rfl) (pv 0) pe_int (fun _ _ => rfl)))) (pa_cons (pe_op (op_mulK (K := K) rfl) (pe_ix (ix_K (K := K) rfl) (pv 0) pe_int (fun _ _ => rfl)) (pe_ix (ix_K (K := K) rfl) (pv 1) pe_int (fun _ _ => rfl))) pa_nil))))), ?_⟩
    obtain ⟨p, q, x, y, m, n, rfl, hp, hq, sx, sy, hmn, kk⟩ := h
    walk_at "go"
    refine k_ixT hp (v := .int x.num) rfl ?_
    walk_at "go"
    refine k_ixT hq (v := .int (y.den : Int)) rfl ?_
    walk_at "go"
    refine k_mulB sx.1 sy.den (by omega) ?_
    walk_at "go"
    refine k_ixT hq (v := .int y.num) rfl ?_
    walk_at "go"
    refine k_ixT hp (v := .int (x.den : Int)) rfl ?_
    walk_at "go"
    refine k_mulB sy.1 sx.den (by omega) ?_
    walk_at "go"
    refine k_ixT hp (v := .int (x.den : Int)) rfl ?_
    walk_at "go"
    refine k_ixT hq (v := .int (y.den : Int)) rfl ?_
    walk_at "go"
    refine k_mulB sx.den sy.den (by omega) ?_
    walk_at "go"
    have hz : (x.den : Int) * (y.den : Int) ≠ 0 := Int.mul_ne_zero (Fr.den_ne x) (Fr.den_ne y)
    refine ⟨_, _, rfl, fun c => absurd c hz, fun _ => ⟨okd_den hz (Fr.dd_lt sx sy) hmn, fun r H' s1 hr => ?_⟩⟩
    rw [Fr.add_eq x y] at hr
    exact kk r H' s1 hr (sx.add sy)
end
end Lw
namespace Lw
open PySem PySem.Spec PyProof.Rows L2 Gx
section
variable {P : Program} {w : World} {K : PySem.W.Frag} {mg : Str → Option Value} {base : Heap} {f : Addr} {fd : FuncData}
theorem ok_minus (F : FnP K "minus" "minus" s_minus f fd) (T : Txt K mg) (c_lowest : Cl P w K mg base 2 "lowest" ["a", "b"] (sp_lowest K)) : FnOk P w K mg base (L2.CX P w) 3 f fd ["x", "y"] (sp_minus K) := by
  refine F.ok sc_minus (fun vs H Q E h => ?_) (fun cdv A outer s H vs Q E hr h => ?_)
  · obtain ⟨p, q, x, y, m, n, rfl, _⟩ := h; rfl
  · refine ⟨_, (pss_one (ps_ret (pcall c_lowest hr (by first | decide | omega) (takes_of rfl rfl rfl rfl) (pa_cons (pe_op op_sub (pe_op (op_mulK (K := K) rfl) (pe_ix (ix_K (K := K) rfl) (pv 0) pe_int (fun _ _ => rfl)) (pe_ix (ix_K (K := K) rfl) (pv 1) pe_int (fun _ _ => rfl))) (pe_op (op_mulK (K := K) rfl) (pe_ix (ix_K (K := K) rfl) (pv 1) pe_int (fun _ _ => rfl)) (pe_ix (ix_K (K := K) rfl) (pv 0) pe_int (fun _ _ => rfl)))) (pa_cons (pe_op (op_mulK (K := K) rfl) (pe_ix (ix_K (K := K) rfl) (pv 0) pe_int (fun _ _ => rfl)) (pe_ix (ix_K (K := K) rfl) (pv 1) pe_int (fun _ _ => rfl))) pa_nil))))), ?_⟩
    obtain ⟨p, q, x, y, m, n, rfl, hp, hq, sx, sy, hmn, kk⟩ := h
    walk_at "go"
    refine k_ixT hp (v := .int x.num) rfl ?_
    walk_at "go"
    refine k_ixT hq (v := .int (y.den : Int)) rfl ?_
    walk_at "go"
    refine k_mulB sx.1 sy.den (by omega) ?_
    walk_at "go"
    refine k_ixT hq (v := .int y.num) rfl ?_
    walk_at "go"
    refine k_ixT hp (v := .int (x.den : Int)) rfl ?_
    walk_at "go"
    refine k_mulB sy.1 sx.den (by omega) ?_
    walk_at "go"
    refine k_ixT hp (v := .int (x.den : Int)) rfl ?_
    walk_at "go"
    refine k_ixT hq (v := .int (y.den : Int)) rfl ?_
    walk_at "go"
    refine k_mulB sx.den sy.den (by omega) ?_
    walk_at "go"
    have hz : (x.den : Int) * (y.den : Int) ≠ 0 := Int.mul_ne_zero (Fr.den_ne x) (Fr.den_ne y)
    refine ⟨_, _, rfl, fun c => absurd c hz, fun _ => ⟨okd_den hz (Fr.dd_lt sx sy) hmn, fun r H' s1 hr => ?_⟩⟩
    rw [Fr.sub_eq x y] at hr
    exact kk r H' s1 hr (sx.sub sy)
end
end Lw
namespace Lw
open PySem PySem.Spec PyProof.Rows L2 Gx
section
variable {P : Program} {w : World} {K : PySem.W.Frag} {mg : Str → Option Value} {base : Heap} {f : Addr} {fd : FuncData}
theorem ok_times (F : FnP K "times" "times" s_times f fd) (T : Txt K mg) (c_lowest : Cl P w K mg base 2 "lowest" ["a", "b"] (sp_lowest K)) : FnOk P w K mg base (L2.CX P w) 3 f fd ["x", "y"] (sp_times K) := by
  refine F.ok sc_times (fun vs H Q E h => ?_) (fun cdv A outer s H vs Q E hr h => ?_)
  · obtain ⟨p, q, x, y, m, n, rfl, _⟩ := h; rfl
  · refine ⟨_, (pss_one (ps_ret (pcall c_lowest hr (by first | decide | omega) (takes_of rfl rfl rfl rfl) (pa_cons (pe_op (op_mulK (K := K) rfl) (pe_ix (ix_K (K := K) rfl) (pv 0) pe_int (fun _ _ => rfl)) (pe_ix (ix_K (K := K) rfl) (pv 1) pe_int (fun _ _ => rfl))) (pa_cons (pe_op (op_mulK (K := K) rfl) (pe_ix (ix_K (K := K) rfl) (pv 0) pe_int (fun _ _ => rfl)) (pe_ix (ix_K (K := K) rfl) (pv 1) pe_int (fun _ _ => rfl))) pa_nil))))), ?_⟩
    obtain ⟨p, q, x, y, m, n, rfl, hp, hq, sx, sy, hmn, kk⟩ := h
    walk_at "go"
    refine k_ixT hp (v := .int x.num) rfl ?_
    walk_at "go"
    refine k_ixT hq (v := .int y.num) rfl ?_
    walk_at "go"
    refine k_mulB sx.1 sy.1 (by omega) ?_
    walk_at "go"
    refine k_ixT hp (v := .int (x.den : Int)) rfl ?_
    walk_at "go"
    refine k_ixT hq (v := .int (y.den : Int)) rfl ?_
    walk_at "go"
    refine k_mulB sx.den sy.den (by omega) ?_
    walk_at "go"
    have hz : (x.den : Int) * (y.den : Int) ≠ 0 := Int.mul_ne_zero (Fr.den_ne x) (Fr.den_ne y)
    have okd : Okd (x.num * y.num) ((x.den : Int) * (y.den : Int)) := hmn.elim (okd_den hz (Fr.dd_lt sx sy)) fun h => okd_mul h.2.1 sy h.2.2
    refine ⟨_, _, rfl, fun c => absurd c hz, fun _ => ⟨okd, fun r H' s1 hr => ?_⟩⟩
    rw [Fr.mul_eq x y] at hr
    exact kk r H' s1 hr (sx.mul sy)
end
end Lw
namespace Lw
open PySem PySem.Spec PyProof.Rows L2 Gx
section
variable {P : Program} {w : World} {K : PySem.W.Frag} {mg : Str → Option Value} {base : Heap} {f : Addr} {fd : FuncData}
theorem ok_over (F : FnP K "over" "over" s_over f fd) (T : Txt K mg) (c_lowest : Cl P w K mg base 2 "lowest" ["a", "b"] (sp_lowest K)) : FnOk P w K mg base (L2.CX P w) 3 f fd ["x", "y"] (sp_over K) := by
  refine F.ok sc_over (fun vs H Q E h => ?_) (fun cdv A outer s H vs Q E hr h => ?_)
  · obtain ⟨p, q, x, y, m, n, rfl, _⟩ := h; rfl
  · refine ⟨_, (pss_one (ps_ret (pcall c_lowest hr (by first | decide | omega) (takes_of rfl rfl rfl rfl) (pa_cons (pe_op (op_mulK (K := K) rfl) (pe_ix (ix_K (K := K) rfl) (pv 0) pe_int (fun _ _ => rfl)) (pe_ix (ix_K (K := K) rfl) (pv 1) pe_int (fun _ _ => rfl))) (pa_cons (pe_op (op_mulK (K := K) rfl) (pe_ix (ix_K (K := K) rfl) (pv 0) pe_int (fun _ _ => rfl)) (pe_ix (ix_K (K := K) rfl) (pv 1) pe_int (fun _ _ => rfl))) pa_nil))))), ?_⟩
    obtain ⟨p, q, x, y, m, n, rfl, hp, hq, sx, sy, hmn, k0, kk⟩ := h
    walk_at "go"
    refine k_ixT hp (v := .int x.num) rfl ?_
    walk_at "go"
    refine k_ixT hq (v := .int (y.den : Int)) rfl ?_
    walk_at "go"
    refine k_mulB sx.1 sy.den (by omega) ?_
    walk_at "go"
    refine k_ixT hp (v := .int (x.den : Int)) rfl ?_
    walk_at "go"
    refine k_ixT hq (v := .int y.num) rfl ?_
    walk_at "go"
    refine k_mulB sx.den sy.1 (by omega) ?_
    walk_at "go"
    refine ⟨_, _, rfl, fun c => ?_, fun c => ?_⟩
    · refine k0 ?_
      rcases Int.mul_eq_zero.mp c with c | c
      · exact absurd c (Fr.den_ne x)
      · exact Rat.num_eq_zero.mp c
    · have hy : y ≠ 0 := fun z => c (by rw [z]; simp)
      refine ⟨okd_den c (Fr.mul_lt sx.den sy.1) hmn, fun r H' s1 hr => ?_⟩
      rw [Fr.div_eq x y] at hr
      exact kk hy r H' s1 hr (sx.div sy)
end
end Lw
namespace Lw
open PySem PySem.Spec PyProof.Rows L2 Gx
section
variable {P : Program} {w : World} {K : PySem.W.Frag} {mg : Str → Option Value} {base : Heap} {f : Addr} {fd : FuncData}
theorem ok_below (F : FnP K "below" "below" s_below f fd) (T : Txt K mg) : FnOk P w K mg base (L2.CX P w) 1 f fd ["x", "y"] (sp_below K) := by
  refine F.ok sc_below (fun vs H Q E h => ?_) (fun cdv A outer s H vs Q E hr h => ?_)
  · obtain ⟨p, q, x, y, m, n, rfl, _⟩ := h; rfl
  · refine ⟨_, (pss_one (ps_ret (pe_cmpR op_lt (pe_op (op_mulK (K := K) rfl) (pe_ix (ix_K (K := K) rfl) (pv 0) pe_int (fun _ _ => rfl)) (pe_ix (ix_K (K := K) rfl) (pv 1) pe_int (fun _ _ => rfl))) (pe_op (op_mulK (K := K) rfl) (pe_ix (ix_K (K := K) rfl) (pv 1) pe_int (fun _ _ => rfl)) (pe_ix (ix_K (K := K) rfl) (pv 0) pe_int (fun _ _ => rfl))) (nomark _)))), ?_⟩
    obtain ⟨p, q, x, y, m, n, rfl, hp, hq, sx, sy, hmn, kk⟩ := h
    walk_at "go"
    refine k_ixT hp (v := .int x.num) rfl ?_
    walk_at "go"
    refine k_ixT hq (v := .int (y.den : Int)) rfl ?_
    walk_at "go"
    refine k_mulB sx.1 sy.den (by omega) ?_
    walk_at "go"
    refine k_ixT hq (v := .int y.num) rfl ?_
    walk_at "go"
    refine k_ixT hp (v := .int (x.den : Int)) rfl ?_
    walk_at "go"
    refine k_mulB sy.1 sx.den (by omega) ?_
    walk_at "go"
    have e : decide (x.num * (y.den : Int) < y.num * (x.den : Int)) = decide (x < y) := by
      by_cases c : x < y
      · rw [decide_eq_true c, decide_eq_true ((Rat.lt_iff x y).mp c)]
      · rw [decide_eq_false c, decide_eq_false (fun z => c ((Rat.lt_iff x y).mpr z))]
    rw [e]
    exact kk
end
end Lw
namespace Lw
open PySem PySem.Spec PyProof.Rows L2 Gx
section
variable {P : Program} {w : World} {K : PySem.W.Frag} {mg : Str → Option Value} {base : Heap} {f : Addr} {fd : FuncData}
theorem ok_Game___init__ (F : FnP K "__init__" "Game.__init__" s_Game___init__ f fd) (T : Txt K mg) : FnOk P w K mg base (L2.CX P w) 1 f fd ["self", "many", "again", "top", "rule"] (sp_Game___init__ K) := by
  refine F.ok sc_Game___init__ (fun vs H Q E h => ?_) (fun cdv A outer s H vs Q E hr h => ?_)
  · obtain ⟨a, dx, t, r, n, ag, top, R, rfl, _⟩ := h; rfl
  · refine ⟨_, (pss_cons (ps_fld (pv 0) (pv 1) rfl) (pss_cons (ps_fld (pv 0) (pv 2) rfl) (pss_cons (ps_fld (pv 0) (pv 3) rfl) (pss_cons (ps_fld (pv 0) (pv 4) rfl) (pss_cons (ps_fld (pv 0) (pe_lst pa_nil) rfl) (pss_cons (ps_fld (pv 0) (C8.pe_gc (by rfl) T.c_NOUGHT_games) rfl) (pss_cons (ps_fld (pv 0) (C8.pe_gc (by rfl) T.c_ONE_games) rfl) (pss_cons (ps_fld (pv 0) (C8.pe_gc (by rfl) T.c_ONE_games) rfl) (pss_one (ps_fld (pv 0) pe_bl rfl)))))))))), ?_⟩
    obtain ⟨a, dx, t, r, n, ag, top, R, rfl, h0, ht, hr, ne, kk⟩ := h
    walk_at "go"
    refine k_sfldx h0 T.cl_Game T.f_Game_many (fun H1 b1 h1 => ?_) (by simp)
    replace h1 : H1 a = some (.ins (He.ga K "Game") dx [("many", .int (n : Int))]) := by rw [h1]; walk_at "pf"
    walk_at "go"
    refine k_sfldx h1 T.cl_Game T.f_Game_again (fun H2 b2 h2 => ?_) (by simp)
    replace h2 : H2 a = some (.ins (He.ga K "Game") dx [("many", .int (n : Int)), ("again", .bl ag)]) := by rw [h2]; walk_at "pf"
    walk_at "go"
    refine k_sfldx h2 T.cl_Game T.f_Game_highest (fun H3 b3 h3 => ?_) (by simp)
    replace h3 : H3 a = some (.ins (He.ga K "Game") dx [("many", .int (n : Int)), ("again", .bl ag), ("highest", .ref t)]) := by rw [h3]; walk_at "pf"
    walk_at "go"
    refine k_sfldx h3 T.cl_Game T.f_Game_rule (fun H4 b4 h4 => ?_) (by simp)
    replace h4 : H4 a = some (.ins (He.ga K "Game") dx [("many", .int (n : Int)), ("again", .bl ag), ("highest", .ref t), ("rule", .ref r)]) := by rw [h4]; walk_at "pf"
    walk_at "go"
    refine k_lstx (fun l H5 nl s5 hl => ?_) (by simp)
    have h5 := s5 _ _ h4
    have nla : l ≠ a := fun e => by subst e; rw [h4] at nl; cases nl
    walk_at "go"
    refine k_sfldx h5 T.cl_Game T.f_Game_drawn_values (fun H6 b6 h6 => ?_) (by simp)
    replace h6 : H6 a = some (.ins (He.ga K "Game") dx [("many", .int (n : Int)), ("again", .bl ag), ("highest", .ref t), ("rule", .ref r), ("drawn_values", .ref l)]) := by rw [h6]; walk_at "pf"
    have hl6 := b6 _ _ nla hl
    walk_at "go"
    refine k_sfldx h6 T.cl_Game T.f_Game_sum_so_far (fun H7 b7 h7 => ?_) (by simp)
    replace h7 : H7 a = some (.ins (He.ga K "Game") dx [("many", .int (n : Int)), ("again", .bl ag), ("highest", .ref t), ("rule", .ref r), ("drawn_values", .ref l), ("sum_so_far", .ref (He.ga K "NOUGHT_games"))]) := by rw [h7]; walk_at "pf"
    walk_at "go"
    refine k_sfldx h7 T.cl_Game T.f_Game_now (fun H8 b8 h8 => ?_) (by simp)
    replace h8 : H8 a = some (.ins (He.ga K "Game") dx [("many", .int (n : Int)), ("again", .bl ag), ("highest", .ref t), ("rule", .ref r), ("drawn_values", .ref l), ("sum_so_far", .ref (He.ga K "NOUGHT_games")), ("now", .ref (He.ga K "ONE_games"))]) := by rw [h8]; walk_at "pf"
    walk_at "go"
    refine k_sfldx h8 T.cl_Game T.f_Game_most (fun H9 b9 h9 => ?_) (by simp)
    replace h9 : H9 a = some (.ins (He.ga K "Game") dx [("many", .int (n : Int)), ("again", .bl ag), ("highest", .ref t), ("rule", .ref r), ("drawn_values", .ref l), ("sum_so_far", .ref (He.ga K "NOUGHT_games")), ("now", .ref (He.ga K "ONE_games")), ("most", .ref (He.ga K "ONE_games"))]) := by rw [h9]; walk_at "pf"
    walk_at "go"
    refine k_sfldx h9 T.cl_Game T.f_Game_certain (fun G b10 h10 => ?_) (by simp)
    replace h10 : G a = some (.ins (He.ga K "Game") dx [("many", .int (n : Int)), ("again", .bl ag), ("highest", .ref t), ("rule", .ref r), ("drawn_values", .ref l), ("sum_so_far", .ref (He.ga K "NOUGHT_games")), ("now", .ref (He.ga K "ONE_games")), ("most", .ref (He.ga K "ONE_games")), ("certain", .bl false)]) := by rw [h10]; walk_at "pf"
    walk_at "go"
    have b : But a H G := b1.trans (b2.trans (b3.trans (b4.trans ((But.of s5).trans (b6.trans (b7.trans (b8.trans (b9.trans b10))))))))
    have im : Imm H G := imm_butI b h0
    have e0 : SqT K G (He.ga K "NOUGHT_games") (Fr.fq 0) := by rw [Cm.fq0]; exact T.t_NOUGHT_games G
    have e1 : SqT K G (He.ga K "ONE_games") (Fr.fq 1) := by rw [Cm.fq1]; exact T.t_ONE_games G
    refine kk l G b ?_ ⟨dx, t, r, _, _, _, [], h10, seqT_imm im ht, hr.mono im fun C d f _ h => b _ _ ne h, ?_, .nil, e0, ⟨_, rfl, e1⟩, e1⟩
    · have q := ((b1.trans (b2.trans (b3.trans b4))) : But a H H4)
      cases e : H l with
      | none => rfl
      | some o => rw [q _ _ nla e] at nl; cases nl
    · exact (b7.trans (b8.trans (b9.trans b10))) _ _ nla hl6
end
end Lw
namespace Lw
open PySem PySem.Spec PyProof.Rows L2 Gx
section
variable {P : Program} {w : World} {K : PySem.W.Frag} {mg : Str → Option Value} {base : Heap} {f : Addr} {fd : FuncData}
theorem ok_Game_twin (F : FnP K "twin" "Game.twin" s_Game_twin f fd) (T : Txt K mg) (k_Game : KCl P w K mg base 1 "Game" ["self", "many", "again", "top", "rule"] (sp_Game___init__ K)) : FnOk P w K mg base (L2.CX P w) 3 f fd ["self"] (sp_Game_twin K) := by
  refine F.ok sc_Game_twin (fun vs H Q E h => ?_) (fun cdv A outer s H vs Q E hr h => ?_)
  · obtain ⟨a, l, g, rfl, _⟩ := h; rfl
  · refine ⟨_, (pss_cons (ps_set (i := 1) sc_Game_twin.nd rfl (Or.inl rfl) (pmake rfl k_Game hr (by first | decide | omega) (pa_cons (pe_fldK (K := K) rfl (pv 0) rfl) (pa_cons (pe_fldK (K := K) rfl (pv 0) rfl) (pa_cons (pe_fldK (K := K) rfl (pv 0) rfl) (pa_cons (pe_fldK (K := K) rfl (pv 0) rfl) pa_nil)))))) (pss_cons (ps_fld (pv 1) (pe_callTy (callK (K := K) (r := rLstU) rfl call_lstU) (by rfl) T.n_list (by decide +kernel) (pa_cons (pe_fldK (K := K) rfl (pv 0) rfl) pa_nil)) rfl) (pss_cons (ps_fld (pv 1) (pe_fldK (K := K) rfl (pv 0) rfl) rfl) (pss_cons (ps_fld (pv 1) (pe_fldK (K := K) rfl (pv 0) rfl) rfl) (pss_cons (ps_fld (pv 1) (pe_fldK (K := K) rfl (pv 0) rfl) rfl) (pss_cons (ps_fld (pv 1) (pe_fldK (K := K) rfl (pv 0) rfl) rfl) (pss_one (ps_ret (pv 1))))))))), ?_⟩
    obtain ⟨a, l, g, rfl, ⟨dx, t, r, s, now, m, vs, G⟩, kk⟩ := h
    walk_at "go"
    refine k_fldx G.ins T.cl_Game T.f_Game_many (by walk_at "lk") ?_
    walk_at "go"
    refine k_fldx G.ins T.cl_Game T.f_Game_again (by walk_at "lk") ?_
    walk_at "go"
    refine k_fldx G.ins T.cl_Game T.f_Game_highest (by walk_at "lk") ?_
    walk_at "go"
    refine k_fldx G.ins T.cl_Game T.f_Game_rule (by walk_at "lk") ?_
    walk_at "go"
    refine k_makex (fun b d0 H1 nb nd s1 hb od => ⟨b, d0, t, r, g.n, g.ag, g.top, g.R, rfl, hb, seqT_same s1 G.top, G.rule.same s1, fun z => G.rule.there (by rw [z]; exact nb), fun m1 H2 b2 nm1 g2 => ⟨rfl, ?_⟩⟩)
    obtain ⟨dx2, t2, r2, s2, now2, mm2, vs2, G2⟩ := g2
    have sa : Same H H2 := But.same nb s1 b2
    walk_at "go"
    refine k_fldx (sa _ _ G.ins) T.cl_Game T.f_Game_drawn_values (by walk_at "lk") ?_
    walk_at "go"
    refine k_lstL (SqL.of (sa _ _ G.lst)) (fun l3 H3 n3 s3 hl3 => ?_)
    have h3 := s3 _ _ G2.ins
    have sb := sa.trans s3
    have n3b : l3 ≠ b := fun e => by subst e; rw [G2.ins] at n3; cases n3
    walk_at "go"
    refine k_sfldx h3 T.cl_Game T.f_Game_drawn_values (fun H4 b4 h4 => ?_) (by simp)
    replace h4 : H4 b = some (.ins (He.ga K "Game") dx2 [("many", .int (g.n : Int)), ("again", .bl g.ag), ("highest", .ref t2), ("rule", .ref r2), ("drawn_values", .ref l3), ("sum_so_far", .ref s2), ("now", now2), ("most", .ref mm2), ("certain", .bl false)]) := by rw [h4]; walk_at "pf"
    have s4 := But.same nb sb b4
    walk_at "go"
    refine k_fldx (s4 _ _ G.ins) T.cl_Game T.f_Game_sum_so_far (by walk_at "lk") ?_
    walk_at "go"
    refine k_sfldx h4 T.cl_Game T.f_Game_sum_so_far (fun H5 b5 h5 => ?_) (by simp)
    replace h5 : H5 b = some (.ins (He.ga K "Game") dx2 [("many", .int (g.n : Int)), ("again", .bl g.ag), ("highest", .ref t2), ("rule", .ref r2), ("drawn_values", .ref l3), ("sum_so_far", .ref s), ("now", now2), ("most", .ref mm2), ("certain", .bl false)]) := by rw [h5]; walk_at "pf"
    have s5 := But.same nb s4 b5
    walk_at "go"
    refine k_fldx (s5 _ _ G.ins) T.cl_Game T.f_Game_now (by walk_at "lk") ?_
    walk_at "go"
    refine k_sfldx h5 T.cl_Game T.f_Game_now (fun H6 b6 h6 => ?_) (by simp)
    replace h6 : H6 b = some (.ins (He.ga K "Game") dx2 [("many", .int (g.n : Int)), ("again", .bl g.ag), ("highest", .ref t2), ("rule", .ref r2), ("drawn_values", .ref l3), ("sum_so_far", .ref s), ("now", now), ("most", .ref mm2), ("certain", .bl false)]) := by rw [h6]; walk_at "pf"
    have s6 := But.same nb s5 b6
    walk_at "go"
    refine k_fldx (s6 _ _ G.ins) T.cl_Game T.f_Game_most (by walk_at "lk") ?_
    walk_at "go"
    refine k_sfldx h6 T.cl_Game T.f_Game_most (fun H7 b7 h7 => ?_) (by simp)
    replace h7 : H7 b = some (.ins (He.ga K "Game") dx2 [("many", .int (g.n : Int)), ("again", .bl g.ag), ("highest", .ref t2), ("rule", .ref r2), ("drawn_values", .ref l3), ("sum_so_far", .ref s), ("now", now), ("most", .ref m), ("certain", .bl false)]) := by rw [h7]; walk_at "pf"
    have s7 := But.same nb s6 b7
    walk_at "go"
    refine k_fldx (s7 _ _ G.ins) T.cl_Game T.f_Game_certain (by walk_at "lk") ?_
    walk_at "go"
    refine k_sfldx h7 T.cl_Game T.f_Game_certain (fun H8 b8 h8 => ?_) (by simp)
    replace h8 : H8 b = some (.ins (He.ga K "Game") dx2 [("many", .int (g.n : Int)), ("again", .bl g.ag), ("highest", .ref t2), ("rule", .ref r2), ("drawn_values", .ref l3), ("sum_so_far", .ref s), ("now", now), ("most", .ref m), ("certain", .bl g.cert)]) := by rw [h8]; walk_at "pf"
    have s8 := But.same nb s7 b8
    have bb : But b H3 H8 := b4.trans (b5.trans (b6.trans (b7.trans b8)))
    have im : Imm H2 H8 := (imm_same s3).trans (imm_butI bb h3)
    walk_at "go"
    exact kk b l3 H8 s8 nb (sa.free n3) ⟨dx2, t2, r2, s, now, m, vs, h8, seqT_imm im G2.top, (G2.rule.same s3).butI bb h3 (by simp), bb _ _ n3b hl3, G.vals.imm (imm_same s8), seqT_same s8 G.sum, by
      have n := G.now_
      split at n
      · rw [if_pos ‹_›]; exact n
      · rw [if_neg ‹_›]; obtain ⟨p, e1, e2⟩ := n; exact ⟨p, e1, seqT_same s8 e2⟩, seqT_same s8 G.most⟩
end
end Lw
namespace Lw
open PySem PySem.Spec PyProof.Rows L2 Gx
section
variable {P : Program} {w : World} {K : PySem.W.Frag} {mg : Str → Option Value} {base : Heap} {f : Addr} {fd : FuncData}
theorem ok_Game_ended (F : FnP K "ended" "Game.ended" s_Game_ended f fd) (T : Txt K mg) : FnOk P w K mg base (L2.CX P w) 1 f fd ["self"] (sp_Game_ended K) := by
  refine F.ok sc_Game_ended (fun vs H Q E h => ?_) (fun cdv A outer s H vs Q E hr h => ?_)
  · obtain ⟨a, l, g, rfl, _⟩ := h; rfl
  · refine ⟨_, (pss_one (ps_ret (pe_and (pe_not (pe_fldK (K := K) rfl (pv 0) rfl)) (pe_one (pe_cmpR (op_eqK (K := K) rfl hr) (pe_callB (callK (K := K) (r := rLenU) rfl call_lenU) (by rfl) T.n_len (by decide +kernel) (pa_cons (pe_fldK (K := K) rfl (pv 0) rfl) pa_nil)) (pe_fldK (K := K) rfl (pv 0) rfl) (nomark _)))))), ?_⟩
    obtain ⟨a, l, g, rfl, ⟨dx, t, r, s, now, m, vs, G⟩, kk⟩ := h
    have hvl := G.vals.len
    walk_at "go"
    refine k_fldx G.ins T.cl_Game T.f_Game_again (by walk_at "lk") ?_
    walk_at "go"
    have ee : Gm.ended g = (!g.ag && decide (g.vals.length = g.n)) := rfl
    cases ha : g.ag with
    | true =>
      rw [ha] at ee
      walk_at "go"
      rw [ee] at kk
      exact kk
    | false =>
      rw [ha] at ee
      walk_at "go"
      refine k_fldx G.ins T.cl_Game T.f_Game_drawn_values (by walk_at "lk") ?_
      walk_at "go"
      refine k_lenL ?_ (SqL.of G.lst)
      walk_at "go"
      refine k_fldx G.ins T.cl_Game T.f_Game_many (by walk_at "lk") ?_
      walk_at "go"
      rw [hvl]
      rw [ee] at kk
      have e2 : decide ((g.vals.length : Int) = (g.n : Int)) = decide (g.vals.length = g.n) := by
        by_cases c : g.vals.length = g.n
        · rw [decide_eq_true c, decide_eq_true (by omega)]
        · rw [decide_eq_false c, decide_eq_false (by omega)]
      rw [e2]
      exact kk
end
end Lw
namespace Lw
open PySem PySem.Spec PyProof.Rows L2 Gx
section
variable {P : Program} {w : World} {K : PySem.W.Frag} {mg : Str → Option Value} {base : Heap} {f : Addr} {fd : FuncData}
theorem ok_Game_price (F : FnP K "price" "Game.price" s_Game_price f fd) (T : Txt K mg) (c_over : Cl P w K mg base 3 "over" ["x", "y"] (sp_over K)) (c_minus : Cl P w K mg base 3 "minus" ["x", "y"] (sp_minus K)) (c_lowest : Cl P w K mg base 2 "lowest" ["a", "b"] (sp_lowest K)) (m_Game_ended : MCl P w K mg base 1 "Game" "ended" ["self"] (sp_Game_ended K)) : FnOk P w K mg base (L2.CX P w) 4 f fd ["self"] (sp_Game_price K) := by
  refine F.ok sc_Game_price (fun vs H Q E h => ?_) (fun cdv A outer s H vs Q E hr h => ?_)
  · obtain ⟨a, l, g, c, rfl, _⟩ := h; rfl
  · refine ⟨_, (pss_cons (ps_if (PW.pt (pw_or (pt_val (pe_fldK (K := K) rfl (pv 0) rfl)) (pw_or1 (pt_val (pmeth0 rfl m_Game_ended hr (by first | decide | omega) (takes_of rfl rfl rfl rfl) (pv 0)))))) (pss_one (ps_ret pe_non)) pss_nil) (pss_cons (ps_if (pt_val (pe_fldK (K := K) rfl (pv 0) rfl)) (pss_one (ps_ret (pe_tup (pa_cons pe_int (pa_cons pe_int pa_nil))))) pss_nil) (pss_one (ps_ret (pcall c_over hr (by first | decide | omega) (takes_of rfl rfl rfl rfl) (pa_cons (pcall c_minus hr (by first | decide | omega) (takes_of rfl rfl rfl rfl) (pa_cons (pcall c_lowest hr (by first | decide | omega) (takes_of rfl rfl rfl rfl) (pa_cons (pe_fldK (K := K) rfl (pv 0) rfl) (pa_cons pe_int pa_nil))) (pa_cons (pe_fldK (K := K) rfl (pv 0) rfl) pa_nil))) (pa_cons (pe_tup (pa_cons (pe_op op_sub (pe_fldK (K := K) rfl (pv 0) rfl) (pe_callB (callK (K := K) (r := rLenU) rfl call_lenU) (by rfl) T.n_len (by decide +kernel) (pa_cons (pe_fldK (K := K) rfl (pv 0) rfl) pa_nil))) (pa_cons pe_int pa_nil))) pa_nil))))))), ?_⟩
    obtain ⟨a, l, g, c, rfl, gat, sc, hc, n60, hn, kk⟩ := h
    have gat' := gat
    obtain ⟨dx, t, r, s, now, m, vs, G⟩ := gat'
    have hvl := G.vals.len
    walk_at "go"
    refine k_fldx G.ins T.cl_Game T.f_Game_certain (by walk_at "lk") ?_
    walk_at "go"
    refine k_ifb (fun e => ?_) (fun e => ?_)
    · walk_at "go"
      refine kk .non H (Same.refl H) ?_
      unfold Gm.priceO
      rw [e]
      rfl
    walk_at "go"
    refine k_methx G.ins (by walk_at "lz") ?_
    walk_at "go"
    refine ⟨a, l, g, rfl, gat, ?_⟩
    walk_at "go"
    refine k_ifb (fun e2 => ?_) (fun e2 => ?_)
    · walk_at "go"
      refine kk .non H (Same.refl H) ?_
      unfold Gm.priceO
      rw [e, e2]
      rfl
    have ep : Gm.priceO g = some (Gm.price g) := by
      unfold Gm.priceO
      rw [e, e2]
      rfl
    walk_at "go"
    refine k_fldx G.ins T.cl_Game T.f_Game_again (by walk_at "lk") ?_
    walk_at "go"
    refine k_ifb (fun e3 => ?_) (fun e3 => ?_)
    · walk_at "go"
      refine k_tupx (fun p H1 n1 s1 hp => ?_) (by simp [sizeLine_eq])
      refine kk (.ref p) H1 s1 ?_
      rw [ep]
      refine ⟨p, rfl, ?_⟩
      rw [show Gm.price g = 1/2 from if_pos e3, Cm.fqh]
      exact SqT.of hp
    have lt : g.vals.length < g.n := by
      have h1 := hn e3
      have h2 : g.vals.length ≠ g.n := fun z => by
        unfold Gm.ended at e2
        rw [e3, decide_eq_true z] at e2
        cases e2
      omega
    walk_at "go"
    refine k_fldx G.ins T.cl_Game T.f_Game_many (by walk_at "lk") ?_
    walk_at "go"
    refine ⟨(g.n : Int), 2, rfl, fun z => absurd z (by decide), fun _ => ⟨okd_den (n := 2) (by decide) (by decide) (by decide), fun p1 H1 s1 h1 => ?_⟩⟩
    have e5 : Rat.divInt (g.n : Int) 2 = (g.n : Rat) / 2 := by rw [Rat.divInt_eq_div]; rfl
    have z1 : Fr.Sz 6 ((g.n : Rat) / 2) := by rw [← e5]; exact Fr.sz_divInt (by decide) (by show _ < 64; omega) (by decide)
    rw [e5] at h1
    walk_at "go"
    refine k_fldx (s1 _ _ G.ins) T.cl_Game T.f_Game_sum_so_far (by walk_at "lk") ?_
    walk_at "go"
    refine ⟨p1, s, _, _, 6, c, rfl, h1, seqT_same s1 G.sum, z1, sc, by omega, fun p2 H2 s2 h2 z2 => ?_⟩
    walk_at "go"
    have s02 := s1.trans s2
    refine k_fldx (s02 _ _ G.ins) T.cl_Game T.f_Game_many (by walk_at "lk") ?_
    walk_at "go"
    refine k_fldx (s02 _ _ G.ins) T.cl_Game T.f_Game_drawn_values (by walk_at "lk") ?_
    walk_at "go"
    refine k_lenL ?_ (SqL.of (s02 _ _ G.lst))
    rw [hvl]
    walk_at "go"
    refine k_tupx (fun p3 H3 n3 s3 h3 => ?_) (by simp [sizeLine_eq])
    have ed : ((g.n : Int) - ((g.vals.length : Nat) : Int)) = ((g.n - g.vals.length : Nat) : Int) := by omega
    rw [ed] at h3
    have h3' : SqT K H3 p3 (Fr.fq ((g.n - g.vals.length : Nat) : Rat)) := by rw [Ru.fqn]; exact SqT.of h3
    refine ⟨p2, p3, _, _, _, 7, rfl, seqT_same s3 h2, h3', z2, Ru.szn (by omega) (by decide), by omega, fun z => absurd z (Ru.n_ne (by omega)), fun _ p4 H4 s4 h4 z4 => ?_⟩
    refine kk (.ref p4) H4 (s02.trans (s3.trans s4)) ?_
    rw [ep]
    refine ⟨p4, rfl, ?_⟩
    rw [show Gm.price g = _ from if_neg (by rw [e3]; decide)]
    exact h4
end
end Lw
namespace Lw
open PySem PySem.Spec PyProof.Rows L2 Gx
section
variable {P : Program} {w : World} {K : PySem.W.Frag} {mg : Str → Option Value} {base : Heap} {f : Addr} {fd : FuncData}
theorem ok_Game_worth_behind (F : FnP K "worth_behind" "Game.worth_behind" s_Game_worth_behind f fd) (T : Txt K mg) (c_times : Cl P w K mg base 3 "times" ["x", "y"] (sp_times K)) (c_plus : Cl P w K mg base 3 "plus" ["x", "y"] (sp_plus K)) (c_minus : Cl P w K mg base 3 "minus" ["x", "y"] (sp_minus K)) (c_over : Cl P w K mg base 3 "over" ["x", "y"] (sp_over K)) (m_Fixed_stake : MCl P w K mg base 1 "Fixed" "stake" ["self", "past", "price", "top"] (sp_Fixed_stake K)) (m_Rule_stake : MCl P w K mg base 1 "Rule" "stake" ["self", "past", "price", "top"] (sp_Rule_stake K)) (m_Game_price : MCl P w K mg base 4 "Game" "price" ["self"] (sp_Game_price K)) : FnOk P w K mg base (L2.CX P w) 5 f fd ["self", "value"] (sp_Game_worth_behind K) := by
  refine F.ok sc_Game_worth_behind (fun vs H Q E h => ?_) (fun cdv A outer s H vs Q E hr h => ?_)
  · obtain ⟨a, l, p, g, v, b, c, t, z, rfl, _⟩ := h; rfl
  · refine ⟨_, (pss_cons (ps_set (i := 2) sc_Game_worth_behind.nd rfl (Or.inl rfl) (pmeth0 rfl m_Game_price hr (by first | decide | omega) (takes_of rfl rfl rfl rfl) (pv 0))) (pss_cons (ps_set (i := 3) sc_Game_worth_behind.nd rfl (Or.inl rfl) (pe_or2 (pmeth rfl m_Rule_stake hr (by first | decide | omega) (takes_of rfl rfl rfl rfl) (pe_fldK (K := K) rfl (pv 0) rfl) (pa_cons (pe_callTy (callK (K := K) (r := rTupV) rfl call_tupV) (by rfl) T.n_tuple (by decide +kernel) (pa_cons (pe_fldK (K := K) rfl (pv 0) rfl) pa_nil)) (pa_cons (pv 2) (pa_cons (pe_fldK (K := K) rfl (pv 0) rfl) pa_nil)))) (pmeth rfl m_Fixed_stake hr (by first | decide | omega) (takes_of rfl rfl rfl rfl) (pe_fldK (K := K) rfl (pv 0) rfl) (pa_cons (pe_callTy (callK (K := K) (r := rTupV) rfl call_tupV) (by rfl) T.n_tuple (by decide +kernel) (pa_cons (pe_fldK (K := K) rfl (pv 0) rfl) pa_nil)) (pa_cons (pv 2) (pa_cons (pe_fldK (K := K) rfl (pv 0) rfl) pa_nil)))))) (pss_cons (ps_if (pt_cmpR (op_eqK (K := K) rfl hr) (pv 2) (C8.pe_gc (by rfl) T.c_NOUGHT_games) (nomark _)) (pss_one (ps_ret (pe_fldK (K := K) rfl (pv 0) rfl))) pss_nil) (pss_cons (ps_set (i := 4) sc_Game_worth_behind.nd rfl (Or.inl rfl) (pcall c_over hr (by first | decide | omega) (takes_of rfl rfl rfl rfl) (pa_cons (pcall c_times hr (by first | decide | omega) (takes_of rfl rfl rfl rfl) (pa_cons (pv 3) (pa_cons (pv 1) pa_nil))) (pa_cons (pv 2) pa_nil)))) (pss_one (ps_ret (pcall c_times hr (by first | decide | omega) (takes_of rfl rfl rfl rfl) (pa_cons (pe_fldK (K := K) rfl (pv 0) rfl) (pa_cons (pcall c_plus hr (by first | decide | omega) (takes_of rfl rfl rfl rfl) (pa_cons (pcall c_minus hr (by first | decide | omega) (takes_of rfl rfl rfl rfl) (pa_cons (C8.pe_gc (by rfl) T.c_ONE_games) (pa_cons (pv 3) pa_nil))) (pa_cons (pv 4) pa_nil))) pa_nil))))))))), ?_⟩
    obtain ⟨a, l, p, g, v, b, c, tt, z, rfl, gat, hp, fit, nc, kk⟩ := h
    have gat' := gat
    obtain ⟨dx, t, r, s, now, m, vs, G⟩ := gat'
    have hvl := G.vals.len
    obtain ⟨pm, pa, pw, zm, za, zn, _, zb, bm, ba, bw, room⟩ := fit.live nc
    have ep : Gm.priceO g = some (Gm.price g) := by
      unfold Gm.priceO
      rw [nc, fit.open_]
      rfl
    walk_at "go"
    refine k_methx G.ins (by walk_at "lz") ?_
    walk_at "go"
    refine ⟨a, l, g, c, rfl, gat, fit.sum, fit.bc, fit.n, fit.few, fun pv H1 s1 hpv => ?_⟩
    rw [ep] at hpv
    obtain ⟨pp, rfl, hpp⟩ := hpv
    walk_at "go"
    refine k_stake (a := r) (r := g.R) (p := pp) (tp := t) (fun Q' q => by walk_at "go"; exact k_fldx (s1 _ _ G.ins) T.cl_Game T.f_Game_rule (by walk_at "lk") q) (G.rule.same s1) fit.ok fit.bz (G.vals.same s1) fit.vals fit.len fit.bb hpp (seqT_same s1 G.top) zm fit.top bm fit.bt (fun Q' kq => ?_) (fun st H2 s2 hst => ?_)
    · walk_at "go"
      refine k_fldx (s1 _ _ G.ins) T.cl_Game T.f_Game_drawn_values (by walk_at "lk") ?_
      walk_at "go"
      refine k_tupL (SqL.of (s1 _ _ G.lst)) (fun ta G1 n1 g1 hta => ?_)
      walk_at "go"
      refine k_fldx (g1 _ _ (s1 _ _ G.ins)) T.cl_Game T.f_Game_highest (by walk_at "lk") ?_
      walk_at "go"
      exact kq ta G1 g1 (SqT.of hta)
    have es : Ru.stakeOf g.R g.vals (Gm.price g) g.top = Gm.stake g := rfl
    rw [es] at hst
    have s02 := s1.trans s2
    have hpp2 := seqT_same s2 hpp
    walk_at "go"
    refine k_eqD (Fr.dp_fq hpp2) (Fr.dp_fq (q := 0) (by rw [Cm.fq0]; exact T.t_NOUGHT_games H2)) ?_ (Fr.shaped_fq _) (Fr.shaped_fq _)
    rw [Fr.eqv_fq]
    walk_at "go"
    refine k_if (fun e => ?_) (fun ne => ?_)
    · walk_at "go"
      refine k_fldx (s02 _ _ G.ins) T.cl_Game T.f_Game_now (by walk_at "lk") ?_
      have n := G.now_
      rw [if_neg (by rw [nc]; decide)] at n
      obtain ⟨pn, rfl, hn⟩ := n
      refine kk pn H2 s02 ?_
      rw [show Gm.behind g v = g.now from if_pos e]
      exact seqT_same s02 hn
    walk_at "go"
    refine ⟨st, p, _, _, pa, b, rfl, hst, seqT_same s02 hp, za, fit.vz, by have := fit.bb; clear room; omega, fun q1 H3 s3 h3 z3 => ?_⟩
    walk_at "go"
    refine ⟨q1, pp, _, _, _, pm, rfl, h3, seqT_same s3 hpp2, z3, zm, by have := fit.bb; clear room; omega, fun e => absurd e ne, fun _ q2 H4 s4 h4 z4 => ?_⟩
    walk_at "go"
    have s04 := s02.trans (s3.trans s4)
    refine k_fldx (s04 _ _ G.ins) T.cl_Game T.f_Game_now (by walk_at "lk") ?_
    have n := G.now_
    rw [if_neg (by rw [nc]; decide)] at n
    obtain ⟨pn, rfl, hn⟩ := n
    walk_at "go"
    refine ⟨_, st, 1, _, 1, pa, rfl, by rw [Cm.fq1]; exact T.t_ONE_games H4, seqT_same (s3.trans s4) hst, Ru.sz1 (by decide), za, by omega, fun q3 H5 s5 h5 z5 => ?_⟩
    walk_at "go"
    refine ⟨q3, q2, _, _, _, _, rfl, h5, seqT_same s5 h4, z5, z4, by omega, fun q4 H6 s6 h6 z6 => ?_⟩
    have s06 := s04.trans (s5.trans s6)
    have ge : Gm.grow (Gm.stake g) v (Gm.price g) = 1 - Gm.stake g + Gm.stake g * v / Gm.price g := rfl
    refine ⟨pn, q4, _, _, pw, _, rfl, seqT_same s06 hn, h6, zn, z6, room.elim (fun h => .inl (by omega)) (fun h => .inr ⟨by have := h.2; omega, by rw [← ge]; exact h.1 ne, by have := h.2; omega⟩), fun q5 H7 s7 h7 z7 => ?_⟩
    refine kk q5 H7 (s06.trans s7) ?_
    rw [show Gm.behind g v = _ from if_neg ne]
    exact h7
end
end Lw
namespace Lw
open PySem PySem.Spec PyProof.Rows L2 Gx
section
variable {P : Program} {w : World} {K : PySem.W.Frag} {mg : Str → Option Value} {base : Heap} {f : Addr} {fd : FuncData}
theorem ok_Game_play (F : FnP K "play" "Game.play" s_Game_play f fd) (T : Txt K mg) (c_below : Cl P w K mg base 1 "below" ["x", "y"] (sp_below K)) (c_lowest : Cl P w K mg base 2 "lowest" ["a", "b"] (sp_lowest K)) (c_plus : Cl P w K mg base 3 "plus" ["x", "y"] (sp_plus K)) (m_Game_worth_behind : MCl P w K mg base 5 "Game" "worth_behind" ["self", "value"] (sp_Game_worth_behind K)) (m_Game_ended : MCl P w K mg base 1 "Game" "ended" ["self"] (sp_Game_ended K)) : FnOk P w K mg base (L2.CX P w) 6 f fd ["self", "value"] (sp_Game_play K) := by
  refine F.ok sc_Game_play (fun vs H Q E h => ?_) (fun cdv A outer s H vs Q E hr h => ?_)
  · obtain ⟨a, l, p, g, v, rfl, _⟩ := h; rfl
  · refine ⟨_, (pss_cons (ps_if (pt_val (pmeth0 rfl m_Game_ended hr (by first | decide | omega) (takes_of rfl rfl rfl rfl) (pv 0))) (pss_one (ps_raise rfl (takes_of rfl rfl rfl rfl) (pmk_own PySem.F.excBase_ValueError T.x_Ended.1 T.g_Ended T.x_Ended.2.1 (raises_own T.x_Ended.2.2.1 T.x_Ended.2.2.2) rfl))) pss_nil) (pss_cons (ps_set (i := 2) sc_Game_play.nd rfl (Or.inl rfl) pe_non) (C8.pss_cut (ps_if (pt_not (pt_val (pe_fldK (K := K) rfl (pv 0) rfl))) (pss_one (ps_set (i := 2) sc_Game_play.nd rfl (Or.inl rfl) (pmeth rfl m_Game_worth_behind hr (by first | decide | omega) (takes_of rfl rfl rfl rfl) (pv 0) (pa_cons (pv 1) pa_nil)))) pss_nil) (pss_cons (ps_expr (pe_bmK (K := K) rfl PySem.F.plainAttrs_list PySem.F.slot_list_append PySem.F.type_list_append mt_append (pe_fldK (K := K) rfl (pv 0) rfl) (pa_cons (pv 1) pa_nil))) (pss_cons (ps_fld (pv 0) (pcall c_plus hr (by first | decide | omega) (takes_of rfl rfl rfl rfl) (pa_cons (pe_fldK (K := K) rfl (pv 0) rfl) (pa_cons (pv 1) pa_nil))) rfl) (C8.pss_cut (ps_if (PW.pt (pw_and (pt_not (pt_val (pe_fldK (K := K) rfl (pv 0) rfl))) (pw_and1 (pt_val (pcall c_below hr (by first | decide | omega) (takes_of rfl rfl rfl rfl) (pa_cons (pcall c_lowest hr (by first | decide | omega) (takes_of rfl rfl rfl rfl) (pa_cons (pe_fldK (K := K) rfl (pv 0) rfl) (pa_cons pe_int pa_nil))) (pa_cons (pe_fldK (K := K) rfl (pv 0) rfl) pa_nil))))))) (pss_cons (ps_fld (pv 0) pe_bl rfl) (pss_one (ps_set (i := 2) sc_Game_play.nd rfl (Or.inl rfl) pe_non))) pss_nil) (pss_cons (ps_fld (pv 0) (pv 2) rfl) (pss_one (ps_if (PW.pt (pw_and (pt_cmpR op_notNU (pv 2) pe_non (nomark _)) (pw_and1 (pt_val (pcall c_below hr (by first | decide | omega) (takes_of rfl rfl rfl rfl) (pa_cons (pe_fldK (K := K) rfl (pv 0) rfl) (pa_cons (pv 2) pa_nil))))))) (pss_one (ps_fld (pv 0) (pv 2) rfl)) pss_nil))))))))), ?_⟩
    obtain ⟨a, l, p, g, v, rfl, gat, hp, h⟩ := h
    rcases h with ⟨en, ke⟩ | ⟨b, c, tt, z, fit, kk⟩
    · obtain ⟨dx, t, r, s, now, m, vs, G⟩ := id gat
      walk_at "go"
      refine k_methx G.ins (by walk_at "lz") ?_
      walk_at "go"
      refine ⟨a, l, g, rfl, gat, ?_⟩
      rw [en]
      walk_at "go"
      exact ke
    have gat' := gat
    obtain ⟨dx, t, r, s, now, m, vs, G⟩ := gat'
    have hvl := G.vals.len
    have nal : a ≠ l := gat.ne
    walk_at "go"
    refine k_methx G.ins (by walk_at "lz") ?_
    walk_at "go"
    refine ⟨a, l, g, rfl, gat, ?_⟩
    rw [fit.open_]
    walk_at "go"
    refine k_cut (fun σ H' => ∃ w : V, σ = [some (.ref a), some (.ref p), some w] ∧ Same H H' ∧ if g.cert = true then w = .non else ∃ q, w = .ref q ∧ SqT K H' q (Fr.fq (Gm.behind g v))) ?_ ?_
    · walk_at "go"
      refine k_fldx G.ins T.cl_Game T.f_Game_certain (by walk_at "lk") ?_
      walk_at "go"
      refine k_ifnb (fun e => ?_) (fun e => ?_)
      · walk_at "go"
        refine k_methx G.ins (by walk_at "lz") ?_
        walk_at "go"
        refine ⟨a, l, p, g, v, b, c, tt, z, rfl, gat, hp, fit, e, fun q H1 s1 hq => ?_⟩
        walk_at "go"
        exact ⟨_, rfl, s1, by rw [if_neg (by rw [e]; decide)]; exact ⟨q, rfl, hq⟩⟩
      · walk_at "go"
        exact ⟨_, rfl, Same.refl H, by rw [if_pos e]⟩
    rintro σ H1 ⟨w, rfl, s1, hw⟩
    replace G := G.same s1
    replace hp := seqT_same s1 hp
    walk_at "go"
    refine k_fldx G.ins T.cl_Game T.f_Game_drawn_values (by walk_at "lk") ?_
    have szl : vs.length < sizeLine := by rw [sizeLine_eq, hvl]; have := fit.len; omega
    refine ⟨k_app0 G.lst, ?_⟩
    walk_at "go"
    refine k_app1 G.lst szl (fun H2 b2 hl2 => ?_)
    have ins2 := b2 _ _ nal G.ins
    have im2 := imm_but b2 G.lst
    walk_at "go"
    refine k_fldx ins2 T.cl_Game T.f_Game_sum_so_far (by walk_at "lk") ?_
    walk_at "go"
    refine ⟨s, p, _, _, c, b, rfl, seqT_imm im2 G.sum, seqT_imm im2 hp, fit.sum, fit.vz, by have := fit.bb; have := fit.bc; omega, fun s' H3 s3 hs' zs' => ?_⟩
    rw [← Lw.sum_snoc] at hs' zs'
    walk_at "go"
    have ins3 := s3 _ _ ins2
    refine k_sfldx ins3 T.cl_Game T.f_Game_sum_so_far (fun H4 b4 h4 => ?_) (by simp)
    replace h4 : H4 a = some (.ins (He.ga K "Game") dx [("many", .int (g.n : Int)), ("again", .bl g.ag), ("highest", .ref t), ("rule", .ref r), ("drawn_values", .ref l), ("sum_so_far", .ref s'), ("now", now), ("most", .ref m), ("certain", .bl g.cert)]) := by rw [h4]; walk_at "pf"
    have hl4 := b4 _ _ (Ne.symm nal) (s3 _ _ hl2)
    have im4 : Imm H1 H4 := im2.trans ((imm_same s3).trans (imm_butI b4 ins3))
    have b14 : But2 a l H1 H4 := (But2.right b2).trans ((But2.of s3).trans (But2.left b4))
    have hs4 := seqT_imm (imm_butI b4 ins3) hs'
    walk_at "go"
    refine k_cut (fun σ H' => ∃ w : V, σ = [some (.ref a), some (.ref p), some w] ∧ But2 a l H4 H' ∧ Imm H4 H' ∧ H' l = some (.lst (vs ++ [.ref p])) ∧ H' a = some (.ins (He.ga K "Game") dx [("many", .int (g.n : Int)), ("again", .bl g.ag), ("highest", .ref t), ("rule", .ref r), ("drawn_values", .ref l), ("sum_so_far", .ref s'), ("now", now), ("most", .ref m), ("certain", .bl (Gm.certBehind g v))]) ∧
        if Gm.certBehind g v = true then w = .non else ∃ q, w = .ref q ∧ SqT K H' q (Fr.fq (Gm.behind g v))) ?_ ?_
    · have done : (g.ag = true ∨ ¬ ((g.n : Rat) / 2 < Lw.sum (g.vals ++ [v]))) → ∀ H5, Same H4 H5 → ∃ w' : V, [some (V.ref a), some (.ref p), some w] = [some (.ref a), some (.ref p), some w'] ∧ But2 a l H4 H5 ∧ Imm H4 H5 ∧ H5 l = some (.lst (vs ++ [.ref p])) ∧ H5 a = some (.ins (He.ga K "Game") dx [("many", .int (g.n : Int)), ("again", .bl g.ag), ("highest", .ref t), ("rule", .ref r), ("drawn_values", .ref l), ("sum_so_far", .ref s'), ("now", now), ("most", .ref m), ("certain", .bl (Gm.certBehind g v))]) ∧
          if Gm.certBehind g v = true then w' = .non else ∃ q, w' = .ref q ∧ SqT K H5 q (Fr.fq (Gm.behind g v)) := fun e H5 s5 => by
        have ec : Gm.certBehind g v = g.cert := by
          unfold Gm.certBehind
          rcases e with e | e
          · rw [e]; simp
          · rw [decide_eq_false e]; simp
        rw [ec]
        refine ⟨w, rfl, But2.of s5, imm_same s5, s5 _ _ hl4, s5 _ _ h4, ?_⟩
        split at hw
        · rw [if_pos ‹_›]; exact hw
        · rw [if_neg ‹_›]; obtain ⟨q, h1, h2⟩ := hw; exact ⟨q, h1, seqT_same s5 (seqT_imm im4 h2)⟩
      walk_at "go"
      refine k_fldx h4 T.cl_Game T.f_Game_again (by walk_at "lk") ?_
      walk_at "go"
      cases ea : g.ag with
      | true =>
        rw [ea] at done
        walk_at "go"
        exact done (.inl rfl) H4 (Same.refl _)
      | false =>
        rw [ea] at done h4
        walk_at "go"
        refine k_fldx h4 T.cl_Game T.f_Game_many (by walk_at "lk") ?_
        walk_at "go"
        refine ⟨(g.n : Int), 2, rfl, fun z => absurd z (by decide), fun _ => ⟨okd_den (n := 2) (by decide) (by decide) (by decide), fun p1 H5 s5 h5 => ?_⟩⟩
        have e5 : Rat.divInt (g.n : Int) 2 = (g.n : Rat) / 2 := by rw [Rat.divInt_eq_div]; rfl
        have z1 : Fr.Sz 6 ((g.n : Rat) / 2) := by rw [← e5]; exact Fr.sz_divInt (by decide) (by show _ < 64; have := fit.n; omega) (by decide)
        rw [e5] at h5
        walk_at "go"
        refine k_fldx (s5 _ _ h4) T.cl_Game T.f_Game_sum_so_far (by walk_at "lk") ?_
        walk_at "go"
        refine ⟨p1, s', _, _, 6, _, rfl, h5, seqT_same s5 hs4, z1, zs', by have := fit.bb; have := fit.bc; omega, ?_⟩
        walk_at "go"
        refine k_if (fun e => ?_) (fun e => ?_)
        · walk_at "go"
          refine k_sfldx (s5 _ _ h4) T.cl_Game T.f_Game_certain (fun H6 b6 h6 => ?_) (by simp)
          walk_at "go"
          have ec : Gm.certBehind g v = true := by unfold Gm.certBehind; rw [ea, decide_eq_true e]; simp
          rw [ec]
          exact ⟨_, rfl, (But2.of s5).trans (But2.left b6), (imm_same s5).trans (imm_butI b6 (s5 _ _ h4)), b6 _ _ (Ne.symm nal) (s5 _ _ hl4), by rw [h6]; walk_at "pf", rfl⟩
        · exact done (.inr e) H5 s5
    rintro σ H5 ⟨w', rfl, b5, im5, hl5, h5, hw'⟩
    walk_at "go"
    refine k_sfldx h5 T.cl_Game T.f_Game_now (fun H6 b6 h6 => ?_) (by simp)
    replace h6 : H6 a = some (.ins (He.ga K "Game") dx [("many", .int (g.n : Int)), ("again", .bl g.ag), ("highest", .ref t), ("rule", .ref r), ("drawn_values", .ref l), ("sum_so_far", .ref s'), ("now", w'), ("most", .ref m), ("certain", .bl (Gm.certBehind g v))]) := by rw [h6]; walk_at "pf"
    have im6 : Imm H1 H6 := im4.trans (im5.trans (imm_butI b6 h5))
    have b16 : But2 a l H1 H6 := b14.trans (b5.trans (But2.left b6))
    have hl6 := b6 _ _ (Ne.symm nal) hl5
    have rul6 : RAt K H6 r g.R := G.rule.mono im6 fun C d f hf h => b16 _ _ (ne_of h G.ins (by intro z; cases z; simp at hf)) (ne_of h G.lst (by intro z; cases z)) h
    have val6 : Fqs K H6 (vs ++ [.ref p]) (g.vals ++ [v]) := Fqs.snoc (seqT_imm im6 hp) (G.vals.imm im6)
    have sum6 := seqT_imm (im5.trans (imm_butI b6 h5)) hs4
    have e2 : (Gm.play g v).vals = g.vals ++ [v] := rfl
    walk_at "go"
    cases ec : Gm.certBehind g v with
    | true =>
      rw [ec] at h6
      obtain rfl : w' = .non := by rw [if_pos ec] at hw'; exact hw'
      walk_at "go"
      refine kk H6 ((But2.of s1).trans b16) ⟨dx, t, r, s', .non, m, _, ?_, seqT_imm im6 G.top, rul6, hl6, val6, sum6, ?_, ?_⟩
      · show _ = some (HO.ins _ dx [_, _, _, _, _, _, _, _, ("certain", .bl (Gm.certBehind g v))])
        rw [ec]; exact h6
      · rw [if_pos (show (Gm.play g v).cert = true from ec)]
      · show SqT K H6 m (Fr.fq (if Gm.certBehind g v = true then g.most else _))
        rw [if_pos ec]
        exact seqT_imm im6 G.most
    | false =>
      rw [ec] at h6
      rw [if_neg (by rw [ec]; decide)] at hw'
      obtain ⟨q, rfl, hq⟩ := hw'
      have nc : g.cert = false := by
        unfold Gm.certBehind at ec
        cases e : g.cert with
        | false => rfl
        | true => rw [e] at ec; simp at ec
      obtain ⟨pm, pa, pw, zm, za, zn, zo, zb, bm, ba, bw, room⟩ := fit.live nc
      have hq6 := seqT_imm (imm_butI b6 h5) hq
      have now6 : if (Gm.play g v).cert = true then V.ref q = .non else ∃ p, V.ref q = .ref p ∧ SqT K H6 p (Fr.fq (Gm.play g v).now) := by
        rw [if_neg (show ¬ (Gm.play g v).cert = true by show ¬ Gm.certBehind g v = true; rw [ec]; decide)]
        refine ⟨q, rfl, ?_⟩
        show SqT K H6 q (Fr.fq (if g.cert = true then g.now else Gm.behind g v))
        rw [if_neg (by rw [nc]; decide)]
        exact hq6
      have em : (Gm.play g v).most = if g.most < Gm.behind g v then Gm.behind g v else g.most := by
        show (if Gm.certBehind g v = true then g.most else _) = _
        rw [if_neg (by rw [ec]; decide)]
      walk_at "go"
      refine k_fldx h6 T.cl_Game T.f_Game_most (by walk_at "lk") ?_
      walk_at "go"
      refine ⟨m, q, _, _, pw, pw, rfl, seqT_imm im6 G.most, hq6, zo, zb, by omega, ?_⟩
      walk_at "go"
      refine k_if (fun lt => ?_) (fun ge => ?_)
      · walk_at "go"
        refine k_sfldx h6 T.cl_Game T.f_Game_most (fun H7 b7 h7 => ?_) (by simp)
        have im7 := imm_butI b7 h6
        walk_at "go"
        refine kk H7 ((But2.of s1).trans (b16.trans (But2.left b7))) ⟨dx, t, r, s', .ref q, q, _, ?_, seqT_imm (im6.trans im7) G.top, rul6.butI b7 h6 (by simp), b7 _ _ (Ne.symm nal) hl6, val6.imm im7, seqT_imm im7 sum6, ?_, ?_⟩
        · show _ = some (HO.ins _ dx [_, _, _, _, _, _, _, _, ("certain", .bl (Gm.certBehind g v))])
          rw [ec, h7]; walk_at "pf"
        · split at now6
          · rw [if_pos ‹_›]; exact now6
          · rw [if_neg ‹_›]; obtain ⟨p', h1, h2⟩ := now6; exact ⟨p', h1, seqT_imm im7 h2⟩
        · rw [em, if_pos lt]; exact seqT_imm im7 hq6
      · walk_at "go"
        refine kk H6 ((But2.of s1).trans b16) ⟨dx, t, r, s', .ref q, m, _, ?_, seqT_imm im6 G.top, rul6, hl6, val6, sum6, now6, ?_⟩
        · show _ = some (HO.ins _ dx [_, _, _, _, _, _, _, _, ("certain", .bl (Gm.certBehind g v))])
          rw [ec]; exact h6
        · rw [em, if_neg ge]; exact seqT_imm im6 G.most
end
end Lw
namespace Lw
open PySem PySem.Spec PyProof.Rows L2 Gx
section
variable {P : Program} {w : World} {K : PySem.W.Frag} {mg : Str → Option Value} {base : Heap} {f : Addr} {fd : FuncData}
theorem ok_Game_worth (F : FnP K "worth" "Game.worth" s_Game_worth f fd) (T : Txt K mg) : FnOk P w K mg base (L2.CX P w) 1 f fd ["self"] (sp_Game_worth K) := by
  refine F.ok sc_Game_worth (fun vs H Q E h => ?_) (fun cdv A outer s H vs Q E hr h => ?_)
  · obtain ⟨a, l, g, rfl, _⟩ := h; rfl
  · refine ⟨_, (pss_one (ps_ret (pe_fldK (K := K) rfl (pv 0) rfl))), ?_⟩
    obtain ⟨a, l, g, rfl, ⟨dx, t, r, s, now, m, vs, G⟩, kk⟩ := h
    walk_at "go"
    refine k_fldx G.ins T.cl_Game T.f_Game_now (by walk_at "lk") ?_
    refine kk now ?_
    have n := G.now_
    unfold Gm.worthO
    split at n
    · rw [if_pos ‹_›]; exact n
    · rw [if_neg ‹_›]; exact n
end
end Lw
namespace Lw
open PySem PySem.Spec PyProof.Rows L2 Gx
section
variable {P : Program} {w : World} {K : PySem.W.Frag} {mg : Str → Option Value} {base : Heap} {f : Addr} {fd : FuncData}
theorem ok_Game_reached (F : FnP K "reached" "Game.reached" s_Game_reached f fd) (T : Txt K mg) (c_below : Cl P w K mg base 1 "below" ["x", "y"] (sp_below K)) (c_times : Cl P w K mg base 3 "times" ["x", "y"] (sp_times K)) : FnOk P w K mg base (L2.CX P w) 4 f fd ["self", "limit"] (sp_Game_reached K) := by
  refine F.ok sc_Game_reached (fun vs H Q E h => ?_) (fun cdv A outer s H vs Q E hr h => ?_)
  · obtain ⟨a, l, p, g, x, m, n, rfl, _⟩ := h; rfl
  · refine ⟨_, (pss_one (ps_ret (pe_or (pe_fldK (K := K) rfl (pv 0) rfl) (pe_one (pe_not (pcall c_below hr (by first | decide | omega) (takes_of rfl rfl rfl rfl) (pa_cons (pcall c_times hr (by first | decide | omega) (takes_of rfl rfl rfl rfl) (pa_cons (pe_fldK (K := K) rfl (pv 0) rfl) (pa_cons (pv 1) pa_nil))) (pa_cons (C8.pe_gc (by rfl) T.c_ONE_games) pa_nil)))))))), ?_⟩
    obtain ⟨a, l, p, g, x, mm, n, rfl, ⟨dx, t, r, s, now, m, vs, G⟩, hp, sm, sx, hmn, kk⟩ := h
    walk_at "go"
    refine k_fldx G.ins T.cl_Game T.f_Game_certain (by walk_at "lk") ?_
    cases e : g.cert with
    | true =>
      walk_at "go"
      have er : Gm.reached g x = true := by unfold Gm.reached; rw [e]; rfl
      rw [er] at kk
      exact kk H (Same.refl H)
    | false =>
      have er : Gm.reached g x = !decide (g.most * x < 1) := by unfold Gm.reached; rw [e]; rfl
      rw [er] at kk
      walk_at "go"
      refine k_fldx G.ins T.cl_Game T.f_Game_most (by walk_at "lk") ?_
      walk_at "go"
      refine ⟨m, p, _, _, mm, n, rfl, G.most, hp, sm e, sx, hmn, fun q1 H1 s1 h1 z1 => ?_⟩
      walk_at "go"
      refine ⟨q1, _, _, 1, mm + n, 1, rfl, h1, by rw [Cm.fq1]; exact T.t_ONE_games H1, z1, Ru.sz1 (by decide), by omega, ?_⟩
      walk_at "go"
      exact kk H1 s1
end
end Lw
namespace Lw
open PySem PySem.Spec PyProof.Rows L2 Gx
section
variable {P : Program} {w : World} {K : PySem.W.Frag} {mg : Str → Option Value} {base : Heap} {f : Addr} {fd : FuncData}
theorem ok_Way___init__ (F : FnP K "__init__" "Way.__init__" s_Way___init__ f fd) (T : Txt K mg) : FnOk P w K mg base (L2.CX P w) 1 f fd ["self", "claim"] (sp_Way___init__ K) := by
  refine F.ok sc_Way___init__ (fun vs H Q E h => ?_) (fun cdv A outer s H vs Q E hr h => ?_)
  · obtain ⟨a, C, dx, u, rfl, _⟩ := h; rfl
  · refine ⟨_, (pss_one (ps_fld (pv 0) (pv 1) rfl)), ?_⟩
    obtain ⟨a, C, dx, u, rfl, h0, hc, hn, kk⟩ := h
    walk_at "go"
    refine k_sfldx h0 hc hn (fun H1 b1 h1 => ?_) (by walk_at "pl")
    walk_at "go"
    exact kk H1 b1 (by rw [h1]; walk_at "pf")
end
end Lw
namespace Lw
open PySem PySem.Spec PyProof.Rows L2 Gx
section
variable {P : Program} {w : World} {K : PySem.W.Frag} {mg : Str → Option Value} {base : Heap} {f : Addr} {fd : FuncData}
theorem ok_Looking_value (F : FnP K "value" "Looking.value" s_Looking_value f fd) (T : Txt K mg) (m_Beats_value : MCl P w K mg base 2 "Beats" "value" ["self", "mark"] (sp_Claim_value K)) (m_Claim_value : MCl P w K mg base 2 "Claim" "value" ["self", "mark"] (sp_Claim_value K)) : FnOk P w K mg base (L2.CX P w) 3 f fd ["self", "number", "mark"] (sp_Looking_value K) := by
  refine F.ok sc_Looking_value (fun vs H Q E h => ?_) (fun cdv A outer s H vs Q E hr h => ?_)
  · obtain ⟨a, dx, w, u, m, c, n, rfl, _⟩ := h; rfl
  · refine ⟨_, (pss_one (ps_ret (pe_or2 (pmeth rfl m_Claim_value hr (by first | decide | omega) (takes_of rfl rfl rfl rfl) (pe_fldK (K := K) rfl (pv 0) rfl) (pa_cons (pv 2) pa_nil)) (pmeth rfl m_Beats_value hr (by first | decide | omega) (takes_of rfl rfl rfl rfl) (pe_fldK (K := K) rfl (pv 0) rfl) (pa_cons (pv 2) pa_nil))))), ?_⟩
    obtain ⟨a, dx, w, u, m, c, n, rfl, hi, hc, fam, ok, hn, kk⟩ := h
    walk_at "st"
    refine k_ret (k_mF (a := w) (c := c) fam (fun Q' h => ?_) hc ?_)
    · walk_at "go"
      refine k_fldx hi T.cl_Looking T.f_Looking_claim (by walk_at "lk") ?_
      exact h
    walk_at "go"
    rw [Cm.pick_same]
    exact ⟨w, m, c, n, rfl, hc, fam, ok, hn, fun p H1 s1 hp => kk p H1 s1 hp⟩
end
end Lw
namespace Lw
open PySem PySem.Spec PyProof.Rows L2 Gx
section
variable {P : Program} {w : World} {K : PySem.W.Frag} {mg : Str → Option Value} {base : Heap} {f : Addr} {fd : FuncData}
theorem ok_Looking_top (F : FnP K "top" "Looking.top" s_Looking_top f fd) (T : Txt K mg) (m_Beats_greatest : MCl P w K mg base 1 "Beats" "greatest" ["self"] (sp_Beats_greatest K)) (m_Claim_greatest : MCl P w K mg base 1 "Claim" "greatest" ["self"] (sp_Claim_greatest K)) : FnOk P w K mg base (L2.CX P w) 2 f fd ["self"] (sp_Looking_top K) := by
  refine F.ok sc_Looking_top (fun vs H Q E h => ?_) (fun cdv A outer s H vs Q E hr h => ?_)
  · obtain ⟨a, dx, w, c, n, rfl, _⟩ := h; rfl
  · refine ⟨_, (pss_one (ps_ret (pe_or2 (pmeth0 rfl m_Claim_greatest hr (by first | decide | omega) (takes_of rfl rfl rfl rfl) (pe_fldK (K := K) rfl (pv 0) rfl)) (pmeth0 rfl m_Beats_greatest hr (by first | decide | omega) (takes_of rfl rfl rfl rfl) (pe_fldK (K := K) rfl (pv 0) rfl))))), ?_⟩
    obtain ⟨a, dx, w, c, n, rfl, hi, hc, fam, ok, hn, kk⟩ := h
    walk_at "st"
    refine k_ret (k_mF (a := w) (c := c) fam (fun Q' h => ?_) hc ?_)
    · walk_at "go"
      refine k_fldx hi T.cl_Looking T.f_Looking_claim (by walk_at "lk") ?_
      exact h
    walk_at "go"
    cases c with
    | claim => exact ⟨w, _, n, rfl, hc, ok, hn, rfl, fun p H1 s1 hp => kk p H1 s1 hp⟩
    | beats o t => exact ⟨w, _, n, rfl, hc, ok, hn, ⟨o, t, rfl⟩, fun p H1 s1 hp => kk p H1 s1 hp⟩
    | over k s => first | exact fam.elim | exact ⟨w, _, n, rfl, hc, ok, hn, ⟨k, s, rfl⟩, fun p H1 s1 hp => kk p H1 s1 hp⟩
    | under k s => first | exact fam.elim | exact ⟨w, _, n, rfl, hc, ok, hn, ⟨k, s, rfl⟩, fun p H1 s1 hp => kk p H1 s1 hp⟩
end
end Lw
namespace Lw
open PySem PySem.Spec PyProof.Rows L2 Gx
section
variable {P : Program} {w : World} {K : PySem.W.Frag} {mg : Str → Option Value} {base : Heap} {f : Addr} {fd : FuncData}
theorem ok_way_of (F : FnP K "way_of" "way_of" s_way_of f fd) (T : Txt K mg) (k_Looking : KCl P w K mg base 1 "Looking" ["self", "claim"] (sp_Way___init__ K)) : FnOk P w K mg base (L2.CX P w) 3 f fd ["claim", "record", "k"] (sp_way_of K) := by
  refine F.ok sc_way_of (fun vs H Q E h => ?_) (fun cdv A outer s H vs Q E hr h => ?_)
  · obtain ⟨w, u, rfl, _⟩ := h; rfl
  · refine ⟨_, (pss_cons (ps_if (pt_cmpR op_isNU (pv 1) pe_non (nomark _)) (pss_one (ps_ret (pmake rfl k_Looking hr (by first | decide | omega) (pa_cons (pv 0) pa_nil)))) pss_nil) (pss_one ps_void)), ?_⟩
    obtain ⟨w, u, rfl, kk⟩ := h
    walk_at "go"
    refine k_makex (fun b d0 H1 nb nd s1 hb od => ⟨b, _, d0, .ref w, rfl, hb, T.cl_Looking, T.f_Looking_claim, fun H2 b2 h2 => ⟨rfl, ?_⟩⟩)
    exact kk b d0 H2 nb (But.same nb s1 b2) h2
end
end Lw
namespace Lw
open PySem PySem.Spec PyProof.Rows L2 Gx
section
variable {P : Program} {w : World} {K : PySem.W.Frag} {mg : Str → Option Value} {base : Heap} {f : Addr} {fd : FuncData}
theorem ok_is_mark (F : FnP K "is_mark" "is_mark" s_is_mark f fd) (T : Txt K mg) : FnOk P w K mg base (L2.CX P w) 1 f fd ["thing", "names"] (sp_is_mark K) := by
  refine F.ok sc_is_mark (fun vs H Q E h => ?_) (fun cdv A outer s H vs Q E hr h => ?_)
  · obtain ⟨m, p, ns, rfl, _⟩ := h; rfl
  · refine ⟨_, (pss_cons (ps_if (pt_cmpR op_isNU (pv 0) pe_non (nomark _)) (pss_one (ps_ret pe_bl)) pss_nil) (pss_one (ps_ret (pe_and (pe_callB (callK (K := K) (r := rIsi) rfl call_isi) (by rfl) T.n_isinstance (by decide +kernel) (pa_cons (pv 0) (pa_cons (pe_bltn (v := .ty "str") (by rfl) T.n_str (by decide +kernel) rfl) pa_nil))) (pe_one (pe_or (pe_cmpR (op_eqK (K := K) rfl hr) (pv 0) pe_str (nomark _)) (pe_one (pe_cmpR (op_inUK (K := K) rfl hr) (pv 0) (pv 1) (by with_unfolding_all rfl))))))))), ?_⟩
    obtain ⟨m, p, ns, rfl, hp, kk⟩ := h
    cases m with
    | none =>
      walk_at "go"
      rw [decide_eq_true (.inl rfl)] at kk
      exact kk
    | some z =>
      walk_at "go"
      rw [Cm.dec_non]
      refine k_if (fun c => absurd c (by simp)) (fun _ => ?_)
      walk_at "go"
      refine k_isi (.ty "str") (.base (.str _)) (kit_ty (r := true) (by decide +kernel)) ?_
      walk_at "go"
      refine Cm.k_eqM ?_
      walk_at "go"
      refine k_if (fun c => ?_) (fun c => ?_)
      · obtain rfl := Option.some.inj c
        rw [decide_eq_true (.inr (.inl rfl))] at kk
        walk_at "go"
        exact kk
      · walk_at "go"
        refine k_in (.inr hp) rfl (Cm.flat_strs ns) (Cm.in_mv (some z) ns) ?_
        walk_at "go"
        have e : (some z = none ∨ some z = some (Str.ofString "") ∨ ∃ n ∈ ns, some z = some n) ↔ ∃ n ∈ ns, some z = some n := by
          constructor
          · rintro (h | h | h)
            · cases h
            · exact absurd h c
            · exact h
          · exact fun h => .inr (.inr h)
        rw [show decide (some z = none ∨ some z = some (Str.ofString "") ∨ ∃ n ∈ ns, some z = some n) = decide (∃ n ∈ ns, some z = some n) from decide_eq_decide.mpr e] at kk
        exact kk
end
end Lw
namespace Lw
open PySem PySem.Spec PyProof.Rows L2 Gx
section
variable {P : Program} {w : World} {K : PySem.W.Frag} {mg : Str → Option Value} {base : Heap} {f : Addr} {fd : FuncData}
theorem ok_Sheet___init__ (F : FnP K "__init__" "Sheet.__init__" s_Sheet___init__ f fd) (T : Txt K mg) : FnOk P w K mg base (L2.CX P w) 1 f fd ["self", "names", "limit"] (sp_Sheet___init__ K) := by
  refine F.ok sc_Sheet___init__ (fun vs H Q E h => ?_) (fun cdv A outer s H vs Q E hr h => ?_)
  · obtain ⟨a, dx, u, v, rfl, _⟩ := h; rfl
  · refine ⟨_, (pss_cons (ps_fld (pv 0) (pv 1) rfl) (pss_cons (ps_fld (pv 0) (pv 2) rfl) (pss_cons (ps_fld (pv 0) (pe_lst pa_nil) rfl) (pss_one (ps_fld (pv 0) (pe_lst pa_nil) rfl))))), ?_⟩
    obtain ⟨a, dx, u, v, rfl, h0, kk⟩ := h
    walk_at "go"
    refine k_sfldx h0 T.cl_Sheet T.f_Sheet_names (fun H1 b1 h1 => ?_) (by walk_at "pl")
    replace h1 : H1 a = some (.ins (He.ga K "Sheet") dx [("names", u)]) := by rw [h1]; walk_at "pf"
    walk_at "go"
    refine k_sfldx h1 T.cl_Sheet T.f_Sheet_limit (fun H2 b2 h2 => ?_) (by walk_at "pl")
    replace h2 : H2 a = some (.ins (He.ga K "Sheet") dx [("names", u), ("limit", v)]) := by rw [h2]; walk_at "pf"
    walk_at "go"
    refine k_lstx (fun lw H3 nw s3 hw => ?_) (by simp)
    have h3 := s3 _ _ h2
    have nwa : lw ≠ a := fun e => by subst e; rw [h2] at nw; cases nw
    walk_at "go"
    refine k_sfldx h3 T.cl_Sheet T.f_Sheet_ways (fun H4 b4 h4 => ?_) (by walk_at "pl")
    replace h4 : H4 a = some (.ins (He.ga K "Sheet") dx [("names", u), ("limit", v), ("ways", .ref lw)]) := by rw [h4]; walk_at "pf"
    have hw4 := b4 _ _ nwa hw
    walk_at "go"
    refine k_lstx (fun lg H5 ng s5 hg => ?_) (by simp)
    have h5 := s5 _ _ h4
    have nga : lg ≠ a := fun e => by subst e; rw [h4] at ng; cases ng
    have ngw : lw ≠ lg := fun e => by subst e; rw [hw4] at ng; cases ng
    walk_at "go"
    refine k_sfldx h5 T.cl_Sheet T.f_Sheet_games (fun H6 b6 h6 => ?_) (by walk_at "pl")
    replace h6 : H6 a = some (.ins (He.ga K "Sheet") dx [("names", u), ("limit", v), ("ways", .ref lw), ("games", .ref lg)]) := by rw [h6]; walk_at "pf"
    walk_at "go"
    have e2 : But a H H2 := b1.trans b2
    have e4 : But a H H4 := e2.trans ((But.of s3).trans b4)
    have free : ∀ {H'' : Hp} {x : Addr}, But a H H'' → x ≠ a → H'' x = none → H x = none := fun {H'' x} e n z => by
      cases g : H x with
      | none => rfl
      | some o => rw [e _ _ n g] at z; cases z
    exact kk lw lg H6 (e4.trans ((But.of s5).trans b6)) (free e2 nwa nw) (free e4 nga ng) ngw h6 (b6 _ _ nwa (s5 _ _ hw4)) (b6 _ _ nga hg)
end
end Lw
namespace Lw
open PySem PySem.Spec PyProof.Rows L2 Gx
section
variable {P : Program} {w : World} {K : PySem.W.Frag} {mg : Str → Option Value} {base : Heap} {f : Addr} {fd : FuncData}
theorem ok_Sheet_add (F : FnP K "add" "Sheet.add" s_Sheet_add f fd) (T : Txt K mg) : FnOk P w K mg base (L2.CX P w) 1 f fd ["self", "way", "game"] (sp_Sheet_add K) := by
  refine F.ok sc_Sheet_add (fun vs H Q E h => ?_) (fun cdv A outer s H vs Q E hr h => ?_)
  · obtain ⟨a, dx, lw, lg, u, v, w, g, ws, gs, rfl, _⟩ := h; rfl
  · refine ⟨_, (pss_cons (ps_expr (pe_bmK (K := K) rfl PySem.F.plainAttrs_list PySem.F.slot_list_append PySem.F.type_list_append mt_append (pe_fldK (K := K) rfl (pv 0) rfl) (pa_cons (pv 1) pa_nil))) (pss_one (ps_expr (pe_bmK (K := K) rfl PySem.F.plainAttrs_list PySem.F.slot_list_append PySem.F.type_list_append mt_append (pe_fldK (K := K) rfl (pv 0) rfl) (pa_cons (pv 2) pa_nil))))), ?_⟩
    obtain ⟨a, dx, lw, lg, u, v, w, g, ws, gs, rfl, h0, hw, hg, ne, wl, gl, kk⟩ := h
    walk_at "go"
    refine k_fldx h0 T.cl_Sheet T.f_Sheet_ways (by walk_at "lk") ?_
    refine ⟨k_app0 hw, ?_⟩
    walk_at "go"
    refine k_app1 hw (by rw [sizeLine_eq]; omega) (fun H1 b1 hw1 => ?_)
    have h1 := b1 _ _ (ne_of h0 hw (by intro z; cases z)) h0
    have hg1 := b1 _ _ (Ne.symm ne) hg
    walk_at "go"
    refine k_fldx h1 T.cl_Sheet T.f_Sheet_games (by walk_at "lk") ?_
    refine ⟨k_app0 hg1, ?_⟩
    walk_at "go"
    refine k_app1 hg1 (by rw [sizeLine_eq]; omega) (fun H2 b2 hg2 => ?_)
    walk_at "go"
    exact kk H2 ((But2.left b1).trans (But2.right b2)) (b2 _ _ ne hw1) hg2
end
end Lw
namespace Lw
open PySem PySem.Spec PyProof.Rows L2 Gx
section
variable {P : Program} {w : World} {K : PySem.W.Frag} {mg : Str → Option Value} {base : Heap} {f : Addr} {fd : FuncData}
theorem ok_Sheet_is_sure (F : FnP K "is_sure" "Sheet.is_sure" s_Sheet_is_sure f fd) (T : Txt K mg) (m_Game_reached : MCl P w K mg base 4 "Game" "reached" ["self", "limit"] (sp_Game_reached K)) : FnOk P w K mg base (L2.CX P w) 5 f fd ["self"] (sp_Sheet_is_sure K) := by
  refine F.ok sc_Sheet_is_sure (fun vs H Q E h => ?_) (fun cdv A outer s H vs Q E hr h => ?_)
  · obtain ⟨v, F, s, rfl, _⟩ := h; rfl
  · refine ⟨_, (pss_one (ps_ret (pe_callB (callK (K := K) (r := rAll) rfl (cr_all rfl)) (by rfl) T.n_all (by decide +kernel) (pa_cons (pe_lc (own := [("game", 1)]) (g := gName 1) (by rfl) sc_Sheet_is_sure.nd (pi_seqU (pe_fldK (K := K) rfl (pv 0) rfl)) (blkOk_by (own := [("game", 1)]) (N := ["self", "game"]) (sc := defScope s_Sheet_is_sure) (by decide +kernel)) (fun _ _ _ _ _ => pg_name (i := 1) sc_Sheet_is_sure.nd rfl (Or.inl rfl)) (fun _ _ _ _ _ => pts_nil) (fun _ _ _ _ _ => (pmethN rfl m_Game_reached hr (by first | decide | omega) (pv 1) (pa_cons (pe_fldK (K := K) rfl (pv 0) rfl) pa_nil)))) pa_nil)))), ?_⟩
    obtain ⟨v, F, s, rfl, ⟨a, dx, p, q, lw, lg, wv, gv, rfl, S⟩, l1, ok, kk⟩ := h
    have gl := Paired.length S.gs
    walk_at "go"
    refine k_fldx S.ins T.cl_Sheet T.f_Sheet_games (by walk_at "lk") ?_
    walk_at "go"
    refine k_lcU (.inl (SqL.of S.gl)) (fun D i ys H' => Same H H' ∧ ys = ((s.gs.take i).map fun g => Gm.reached g s.lim).map V.bl) (fun D H' nD sD hD => ⟨sD, rfl⟩) (fun D i ys H' nD h => h.1) ?_ ?_
    · rintro D i x ys H1 nD hx ⟨s1, rfl⟩ hD
      have hi := (List.getElem?_eq_some_iff.mp hx).1
      obtain ⟨x', g, e1, e2, b, l, rfl, hg, fl⟩ := paired_at S.gs hi
      rw [hx] at e1
      obtain rfl := Option.some.inj e1
      obtain ⟨m, n, zm, zn, zz⟩ := ok g (List.mem_of_getElem? e2)
      refine k_lcB rfl ?_
      walk_at "go"
      obtain ⟨dx1, fs1, _, hi1⟩ := (hg.same s1).ins
      refine k_methx hi1 ((hg.same s1).look hi1 (by decide +kernel)) ?_
      walk_at "go"
      refine k_fldx (s1 _ _ S.ins) T.cl_Sheet T.f_Sheet_limit (by walk_at "lk") ?_
      walk_at "go"
      refine ⟨b, l, q, g, s.lim, m, n, rfl, hg.same s1, seqT_same s1 S.lim, zm, zn, zz, fun H2 s2 => ?_⟩
      have hD2 := s2 _ _ hD
      refine ⟨_, hD2, (by rw [sizeLine_eq, List.length_map, List.length_map, List.length_take]; omega), _, ⟨But.same nD (s1.trans s2) But.upd, ?_⟩, upd_same⟩
      rw [take_snoc e2, List.map_append, List.map_append]
      rfl
    rintro D ys H1 nD ⟨s1, rfl⟩ hD
    rw [gl, List.take_of_length_le (Nat.le_refl _)] at hD
    walk_at "go"
    refine k_all (SqL.of hD) ?_
    walk_at "go"
    have e : ((s.gs.map fun g => Gm.reached g s.lim).all id) = s.sure := by unfold Au.Sh.sure; rw [List.all_map]; rfl
    rw [e]
    exact kk H1 s1
end
end Lw
namespace Lw
open PySem PySem.Spec PyProof.Rows L2 Gx
section
variable {P : Program} {w : World} {K : PySem.W.Frag} {mg : Str → Option Value} {base : Heap} {f : Addr} {fd : FuncData}
theorem ok_Sheet_played (F : FnP K "played" "Sheet.played" s_Sheet_played f fd) (T : Txt K mg) (m_Game_play : MCl P w K mg base 6 "Game" "play" ["self", "value"] (sp_Game_play K)) (m_Looking_value : MCl P w K mg base 3 "Looking" "value" ["self", "number", "mark"] (sp_Looking_value K)) (m_Game_twin : MCl P w K mg base 3 "Game" "twin" ["self"] (sp_Game_twin K)) : FnOk P w K mg base (L2.CX P w) 7 f fd ["self", "number", "mark"] (sp_Sheet_played K) := by
  refine F.ok sc_Sheet_played (fun vs H Q E h => ?_) (fun cdv A outer s H vs Q E hr h => ?_)
  · obtain ⟨v, F, s, i, m, rfl, _⟩ := h; rfl
  · refine ⟨_, (pss_cons (ps_set (i := 3) sc_Sheet_played.nd rfl (Or.inl rfl) (pe_lst pa_nil)) (pss_cons (ps_for (passes_of rfl) rfl (pi_zipU (K := K) rfl (by rfl) T.n_zip (pa_cons (pe_fldK (K := K) rfl (pv 0) rfl) (pa_cons (pe_fldK (K := K) rfl (pv 0) rfl) pa_nil))) (pg_tup rfl (pgs_cons (pg_name (i := 4) sc_Sheet_played.nd rfl (Or.inl rfl)) (pgs_cons (pg_name (i := 5) sc_Sheet_played.nd rfl (Or.inl rfl)) pgs_nil))) (pss_cons (ps_set (i := 6) sc_Sheet_played.nd rfl (Or.inl rfl) (pmeth0 rfl m_Game_twin hr (by first | decide | omega) (takes_of rfl rfl rfl rfl) (pv 5))) (pss_cons (ps_expr (pmeth rfl m_Game_play hr (by first | decide | omega) (takes_of rfl rfl rfl rfl) (pv 6) (pa_cons (pmeth rfl m_Looking_value hr (by first | decide | omega) (takes_of rfl rfl rfl rfl) (pv 4) (pa_cons (pv 1) (pa_cons (pv 2) pa_nil))) pa_nil))) (pss_one (ps_expr (pe_bmK (K := K) rfl PySem.F.plainAttrs_list PySem.F.slot_list_append PySem.F.type_list_append mt_append (pv 3) (pa_cons (pv 6) pa_nil))))))) (pss_one (ps_ret (pv 3))))), ?_⟩
    obtain ⟨v, F, s, i, m, rfl, ⟨a, dx, p, q, lw, lg, wv, gv, rfl, S⟩, wl, l1, wok, fits, kk⟩ := h
    have hwl := Paired.length S.ws
    have hgl := Paired.length S.gs
    walk_at "go"
    refine k_lstx (fun D H1 nD s1 hD => ?_) (by simp)
    walk_at "go"
    refine k_fldx (s1 _ _ S.ins) T.cl_Sheet T.f_Sheet_ways (by walk_at "lk") ?_
    walk_at "go"
    refine k_fldx (s1 _ _ S.ins) T.cl_Sheet T.f_Sheet_games (by walk_at "lk") ?_
    walk_at "go"
    refine k_zipLx (SqL.of (s1 _ _ S.wl)) (SqL.of (s1 _ _ S.gl)) ?_
    have pl : ∀ k, (Au.playW i m (s.ws.take k) (s.gs.take k)).length ≤ 1000 := fun k => by unfold Au.playW; rw [List.length_zipWith, List.length_take, List.length_take]; omega
    refine k_loopP (zip_it (by omega)) (fun k σ H' => ∃ (t1 t2 t3 : Option V) (zv : List V), σ = [some (.ref a), some (.int (i : Int)), some (Cm.mv m), some (.ref D), t1, t2, t3] ∧ Same H H' ∧ H' D = some (.lst zv) ∧ Paired (GmAt K H' fun x => H x = none ∧ x ≠ D ∧ H' x ≠ none) zv (Au.playW i m (s.ws.take k) (s.gs.take k)))
      ⟨_, _, _, [], rfl, s1, hD, .nil⟩ (fun k σ' H' ⟨_, _, _, _, _, e, _⟩ => ⟨SqL.of (e _ _ S.wl), SqL.of (e _ _ S.gl)⟩) ?_ ?_
    rotate_left
    · rintro σ H2 ⟨t1, t2, t3, zv, rfl, s2, hD2, hz⟩
      walk_at "go"
      rw [List.take_of_length_le (by omega), List.take_of_length_le (by omega)] at hz
      exact kk D zv H2 s2 nD hD2 hz
    rintro k Tt σ H2 H3 hk ⟨t1, t2, t3, zv, rfl, s2, hD2, hz⟩ nT sT hT
    obtain ⟨x1, w, e1, e2, hw⟩ := paired_at S.ws hk
    obtain ⟨x2, g, e3, e4, b, l, rfl, hg, fl⟩ := paired_at S.gs (i := k) (by omega)
    have g1 : wv.getD k .non = x1 := by rw [List.getD_eq_getElem?_getD, e1]; rfl
    have g2 : gv.getD k .non = .ref b := by rw [List.getD_eq_getElem?_getD, e3]; rfl
    rw [g1, g2] at hT
    have s3 := s2.trans sT
    have hD3 := sT _ _ hD2
    obtain ⟨fam, ⟨n, ok, n1⟩, wb, _⟩ := wok w (List.mem_of_getElem? e2)
    replace wb := wb trivial
    obtain ⟨c1, c2, c3, c4, fit⟩ := fits k w g e2 e4
    have hval : w.val i m = Cm.value w.c m := if_pos wb
    rcases hw with ⟨_, y, dy, cq, rfl, hy, hc⟩ | ⟨z, _⟩
    rotate_left
    · rw [wb] at z; cases z
    refine k_gtup (SqT.of hT) rfl ?_
    walk_at "go"
    have hg3 := hg.same s3
    obtain ⟨dx1, fs1, _, hi1⟩ := hg3.ins
    refine k_methx hi1 (hg3.look hi1 (by decide +kernel)) ?_
    walk_at "go"
    refine ⟨b, l, g, rfl, hg3, fun b2 l2 H4 s4 nb2 nl2 hg4 => ?_⟩
    walk_at "go"
    obtain ⟨dx2, fs2, _, hi2⟩ := hg4.ins
    refine k_methx hi2 (hg4.look hi2 (by decide +kernel)) ?_
    have s04 := s3.trans s4
    walk_at "go"
    refine k_methx (s04 _ _ hy) (by walk_at "lz") ?_
    walk_at "go"
    refine ⟨y, dy, cq, _, m, w.c, n, rfl, s04 _ _ hy, hc.same s04, fam, ok, by omega, fun pv H5 s5 hpv => ?_⟩
    walk_at "go"
    have hg5 := hg4.same s5
    refine ⟨b2, l2, pv, g, w.val i m, rfl, hg5, by rw [hval]; exact hpv, .inr ⟨c1, c2, c3, c4, fit, fun H6 b6 hg6 => ?_⟩⟩
    have s36 : Same H3 H6 := But2.same nb2 nl2 (s4.trans s5) b6
    have hD6 := s36 _ _ hD3
    walk_at "go"
    refine ⟨k_app0 hD6, ?_⟩
    walk_at "go"
    have zl : zv.length ≤ 1000 := by rw [Paired.length hz]; exact pl k
    refine k_app1 hD6 (by rw [sizeLine_eq]; omega) (fun H7 b7 hD7 => ?_)
    have s07 : Same H H7 := But.same nD (s3.trans s36) b7
    have nDl2 : l2 ≠ D := fun e => by subst e; rw [hD3] at nl2; cases nl2
    have kp7 : Kp (fun x => H x = none ∧ x ≠ D ∧ H6 x ≠ none) H6 H7 := Kp.but b7 hD6 (fun z => z.2.1 rfl)
    have there : ∀ {A B : Hp}, Same A B → ∀ x, A x ≠ none → B x ≠ none := fun {A B} e x h z => by
      cases q : A x with
      | none => exact h q
      | some o => rw [e _ _ q] at z; cases z
    refine ⟨_, _, _, _, rfl, s07, hD7, ?_⟩
    have ex : Au.playW i m (s.ws.take (k + 1)) (s.gs.take (k + 1)) = Au.playW i m (s.ws.take k) (s.gs.take k) ++ [Gm.play g (w.val i m)] := by
      unfold Au.playW
      have hkw := (List.getElem?_eq_some_iff.mp e2).1
      have hkg := (List.getElem?_eq_some_iff.mp e4).1
      rw [take_snoc e2, take_snoc e4, List.zipWith_append (by rw [List.length_take, List.length_take]; omega)]
      rfl
    rw [ex]
    have up : ∀ x, H6 x ≠ none → x ≠ D → H7 x ≠ none := fun x h n z => by
      cases q : H6 x with
      | none => exact h q
      | some o => rw [b7 _ _ n q] at z; cases z
    refine paired_add ?_ ?_
    · refine (GmAt.kp kp7 (F := fun x => H x = none ∧ x ≠ D ∧ H6 x ≠ none) ⟨b2, l2, rfl, hg6, s3.free nl2, nDl2, ?_⟩).sub fun x h => ⟨h.1, h.2.1, up x h.2.2 h.2.1⟩
      obtain ⟨vs6, hv6⟩ := hg6.lst
      rw [hv6]; simp
    · refine paired_map (fun _ _ h => ?_) hz
      have h6 : GmAt K H6 (fun x => H x = none ∧ x ≠ D ∧ H2 x ≠ none) _ _ := h.kp (Kp.same (sT.trans s36))
      exact (GmAt.kp kp7 (h6.sub fun x h => ⟨h.1, h.2.1, there (sT.trans s36) x h.2.2⟩)).sub fun x h => ⟨h.1, h.2.1, up x h.2.2 h.2.1⟩
end
end Lw
namespace Lw
open PySem PySem.Spec PyProof.Rows L2 Gx
section
variable {P : Program} {w : World} {K : PySem.W.Frag} {mg : Str → Option Value} {base : Heap} {f : Addr} {fd : FuncData}
theorem ok_Audit___init__ (F : FnP K "__init__" "Audit.__init__" s_Audit___init__ f fd) (T : Txt K mg) (m_Sheet_add : MCl P w K mg base 1 "Sheet" "add" ["self", "way", "game"] (sp_Sheet_add K)) (k_Game : KCl P w K mg base 1 "Game" ["self", "many", "again", "top", "rule"] (sp_Game___init__ K)) (m_Looking_top : MCl P w K mg base 2 "Looking" "top" ["self"] (sp_Looking_top K)) (c_way_of : Cl P w K mg base 3 "way_of" ["claim", "record", "k"] (sp_way_of K)) (k_Sheet : KCl P w K mg base 1 "Sheet" ["self", "names", "limit"] (sp_Sheet___init__ K)) (m_Most_named : MCl P w K mg base 1 "Most" "named" ["self"] (sp_Contest_named K)) (m_Most_claims : MCl P w K mg base 3 "Most" "claims" ["self", "outcome"] (sp_Most_claims K)) : FnOk P w K mg base (L2.CX P w) 4 f fd ["self", "contests", "outcomes", "limits", "many", "record", "rule", "again", "most"] (sp_Audit___init__ K) := by
  refine F.ok sc_Audit___init__ (fun vs H Q E h => ?_) (fun cdv A outer s H vs Q E hr h => ?_)
  · obtain ⟨a, dx, p, q, lp, r, us, ws, ls, ts, n, most, ag, R, H0, rfl, _⟩ := h; rfl
  · refine ⟨_, (pss_cons (ps_setLc (i := 10) (own := [("contest", 9), ("outcome", 15)]) (g := (gTup _ 2 (gCons (gName 9) (gCons (gName 15) gNil)))) (by rfl) sc_Audit___init__.nd rfl rfl (sw_true rfl rfl rfl (by decide +kernel)) (pi_zipU (K := K) rfl (by rfl) T.n_zip (pa_cons (pv 1) (pa_cons (pv 2) pa_nil))) (blkOk_by (own := [("contest", 9), ("outcome", 15)]) (N := ["self", "contests", "outcomes", "limits", "many", "record", "rule", "again", "most", "contest", "claims", "k", "sheet", "claim", "way", "outcome"]) (sc := defScope s_Audit___init__) (by decide +kernel)) (fun _ _ _ _ _ => (pg_tup rfl (pgs_cons (pg_name (i := 9) sc_Audit___init__.nd rfl (Or.inl rfl)) (pgs_cons (pg_name (i := 15) sc_Audit___init__.nd rfl (Or.inl rfl)) pgs_nil)))) (fun _ _ _ _ _ => pts_nil) (fun _ _ _ _ _ => (pmethN rfl m_Most_claims hr (by first | decide | omega) (pv 9) (pa_cons (pv 15) pa_nil)))) (pss_cons (ps_fld (pv 0) (pe_lst pa_nil) rfl) (pss_cons (ps_for (passes_of rfl) rfl (pi_enumT (K := K) rfl (by rfl) T.n_enumerate (pa_cons (pv 1) pa_nil)) (pg_tup rfl (pgs_cons (pg_name (i := 11) sc_Audit___init__.nd rfl (Or.inl rfl)) (pgs_cons (pg_name (i := 9) sc_Audit___init__.nd rfl (Or.inl rfl)) pgs_nil))) (pss_cons (ps_set (i := 12) sc_Audit___init__.nd rfl (Or.inl rfl) (pmake rfl k_Sheet hr (by first | decide | omega) (pa_cons (pmeth0 rfl m_Most_named hr (by first | decide | omega) (takes_of rfl rfl rfl rfl) (pv 9)) (pa_cons (pe_ix (ix_K (K := K) rfl) (pv 3) (pv 11) (fun _ _ => rfl)) pa_nil)))) (pss_cons (ps_for (passes_of rfl) rfl (pi_seqU (pe_ix (ix_K (K := K) rfl) (pv 10) (pv 11) (fun _ _ => rfl))) (pg_name (i := 13) sc_Audit___init__.nd rfl (Or.inl rfl)) (pss_cons (ps_set (i := 14) sc_Audit___init__.nd rfl (Or.inl rfl) (pcall c_way_of hr (by first | decide | omega) (takes_of rfl rfl rfl rfl) (pa_cons (pv 13) (pa_cons (pv 5) (pa_cons (pv 11) pa_nil))))) (pss_one (ps_expr (pmeth rfl m_Sheet_add hr (by first | decide | omega) (takes_of rfl rfl rfl rfl) (pv 12) (pa_cons (pv 14) (pa_cons (pmake rfl k_Game hr (by first | decide | omega) (pa_cons (pv 4) (pa_cons (pv 7) (pa_cons (pmeth0 rfl m_Looking_top hr (by first | decide | omega) (takes_of rfl rfl rfl rfl) (pv 14)) (pa_cons (pv 6) pa_nil))))) pa_nil))))))) (pss_one (ps_expr (pe_bmK (K := K) rfl PySem.F.plainAttrs_list PySem.F.slot_list_append PySem.F.type_list_append mt_append (pe_fldK (K := K) rfl (pv 0) rfl) (pa_cons (pv 12) pa_nil))))))) (pss_cons (ps_fld (pv 0) (pv 4) rfl) (pss_cons (ps_fld (pv 0) (pv 7) rfl) (pss_cons (ps_fld (pv 0) (pv 8) rfl) (pss_one (ps_fld (pv 0) (pe_lst pa_nil) rfl)))))))), ?_⟩
    obtain ⟨a, dx, p, q, lp, r, us, ws, ls, ts, n, most, ag, R, H0, rfl, s0, na, ha, hp, hcs, hq, hos, hl, hls, hR, l60, tok, cfam, kk⟩ := h
    have ul : us.length = ts.length := by rw [hcs.len, List.length_map]
    have wl : ws.length = ts.length := Paired.length hos
    have lsl : ls.length = ts.length := by rw [hls.len, List.length_map]
    have clen : ∀ t ∈ ts, (Co.claimsC t.1 t.2.1).length ≤ 3600 := fun t ht => by
      obtain ⟨⟨g, n60, nm, ft⟩, _⟩ := tok t ht
      have fl := Co.fit_names g ft
      obtain ⟨tc, to, tx⟩ := t
      dsimp only at g n60 nm ft fl
      rcases g with ⟨k, e, _⟩ | ⟨z, e, _⟩
      · rw [e] at n60 fl ⊢
        exact Nat.le_trans Co.most_len (Nat.mul_le_mul (show to.length ≤ 60 by omega) n60)
      · rw [e] at n60 fl ⊢
        show (Co.partC _ z to).length ≤ 3600
        unfold Co.partC
        have h1 : (Co.names tc).length ≤ 60 := by rw [e]; exact n60
        have h2 : to.length ≤ 60 := Nat.le_trans fl.2 h1
        split <;> simp <;> omega
    walk_at "go"
    refine k_zipTx (seqT_same s0 hp) (seqT_same s0 hq) ?_
    refine k_lcP (zipT_it (xs := us) (ys := ws) (by omega)) (fun D i ys H' => Same H H' ∧ ys.length = i ∧ Paired (fun v (t : Au.T3) => ∃ l vs, v = V.ref l ∧ H l = none ∧ l ≠ D ∧ H' l = some (.lst vs) ∧ Co.Cls K H' vs (Co.claimsC t.1 t.2.1)) ys (ts.take i)) (fun D H' nD sD hD => ⟨sD, rfl, .nil⟩) (fun D i ys H' nD h => ⟨seqT_same (s0.trans h.1) hp, seqT_same (s0.trans h.1) hq⟩) ?_ ?_
    · rintro D i Tt ys G1 G2 nD hi ⟨sG, yl, hr⟩ nT sT hT hD
      obtain ⟨u1, t, e1, e2, ho⟩ := paired_at hos (i := i) (by omega)
      obtain ⟨u2, c, e3, e4, y, rfl, hc⟩ := paired_at hcs (i := i) (by omega)
      have ec : t.1 = c := by
        rw [List.getElem?_map, e2] at e4
        exact Option.some.inj e4
      subst ec
      have g1 : us.getD i .non = .ref y := by rw [List.getD_eq_getElem?_getD, e3]; rfl
      have g2 : ws.getD i .non = u1 := by rw [List.getD_eq_getElem?_getD, e1]; rfl
      rw [g1, g2] at hT
      obtain ⟨f, rfl, hf⟩ := ho
      obtain ⟨⟨g, n60, nm, ft⟩, cf⟩ := tok t (List.mem_of_getElem? e2)
      have s02 := s0.trans (sG.trans sT)
      refine k_lcT ?_
      refine k_gtup (SqT.of hT) rfl ?_
      walk_at "go"
      refine ⟨rfl, ?_⟩
      repeat (first | with_reducible refine k_yes ?_ | with_reducible refine k_ifT ?_)
      refine k_claimsF (a := y) (q := f) (fun Q q => by walk_at "go"; exact q) (fun Q q => by walk_at "go"; exact q) g cf (hc.same s02) n60 nm (seqT_same s02 hf) ft (fun l vs H2 nl s2 hl2 hcl => ?_)
      have hD2 := s2 _ _ hD
      have nlD : l ≠ D := fun e => by subst e; rw [hD] at nl; cases nl
      refine ⟨_, hD2, (by rw [sizeLine_eq]; omega), _, ⟨But.same nD ((sG.trans sT).trans s2) But.upd, by simp [yl], ?_⟩, upd_same⟩
      rw [take_snoc e2]
      refine paired_add ⟨l, vs, rfl, (sG.trans sT).free nl, nlD, But.upd _ _ nlD hl2, hcl.but But.upd hD2⟩ (paired_map (fun _ _ ⟨l', vs', h1, h2, h3, h4, h5⟩ => ⟨l', vs', h1, h2, h3, But.upd _ _ h3 (s2 _ _ (sT _ _ h4)), (h5.same (sT.trans s2)).but But.upd hD2⟩) hr)
    rintro D ys H1 nD ⟨s1, yl, hr⟩ hD
    rw [List.take_of_length_le (by omega)] at hr
    have s01 := s0.trans s1
    have ha1 := s1 _ _ ha
    walk_at "go"
    refine k_lstx (fun L H2 nL s2 hL => ?_) (by simp)
    walk_at "go"
    refine k_sfldx (s2 _ _ ha1) T.cl_Audit T.f_Audit_sheets (fun H3 b3 h3 => ?_) (by walk_at "pl")
    replace h3 : H3 a = some (.ins (He.ga K "Audit") dx [("sheets", .ref L)]) := by rw [h3]; walk_at "pf"
    have s03 : Same H0 H3 := But.same na (s01.trans s2) b3
    have ne_a : ∀ {x : Addr} {o : HO} {G : Hp}, G x = some o → G a = some (.ins (He.ga K "Audit") dx []) → (∀ fs, o ≠ .ins (He.ga K "Audit") dx fs) → x ≠ a := fun {x o G} h g n e => by
      subst e
      rw [h] at g
      exact n _ (Option.some.inj g)
    have nLa : L ≠ a := ne_a hL (s2 _ _ ha1) (fun fs z => by cases z)
    have hL3 := b3 _ _ nLa hL
    have hD3 := b3 _ _ (ne_a (s2 _ _ hD) (s2 _ _ ha1) (fun fs z => by cases z)) (s2 _ _ hD)
    have nLD : L ≠ D := fun e => by subst e; rw [hD] at nL; cases nL
    have nL0 : H0 L = none := s01.free nL
    have cl3 : Paired (fun v (t : Au.T3) => ∃ l vs, v = V.ref l ∧ l ≠ L ∧ H3 l = some (.lst vs) ∧ Co.Cls K H3 vs (Co.claimsC t.1 t.2.1)) ys ts := paired_map (fun _ _ ⟨l, vs, h1, h2, h3', h4, h5⟩ => ⟨l, vs, h1, (fun e => by rw [e, nL] at h4; cases h4), b3 _ _ (ne_a h4 ha1 (fun fs z => by cases z)) (s2 _ _ h4), cls_but0 b3 (s2 _ _ ha1) Au.no_claim (h5.same s2)⟩) hr
    have nDL : D ≠ L := Ne.symm nLD
    walk_at "go"
    refine k_enumTx (seqT_same s03 hp) ?_
    have h30 : ∀ x, H0 x ≠ none → H3 x ≠ none := fun x h => (Kp.same s03 (F := fun _ => True)).some trivial h
    refine k_loopP enumT_it (fun j σ H' => ∃ (t1 t2 t3 t4 t5 t6 : Option V) (sv : List V), σ = [some (.ref a), some (.ref p), some (.ref q), some (.ref lp), some (.int (n : Int)), some .non, some (.ref r), some (.bl ag), some (.int (most : Int)), t1, some (.ref D), t2, t3, t4, t5, t6] ∧ But L H3 H' ∧ H' L = some (.lst sv) ∧ sv.Nodup ∧
        Paired (SAt K H' fun x => H3 x = none ∧ H' x ≠ none) sv ((ts.take j).map (Au.mkSh n ag R)))
      ⟨_, _, _, _, _, _, [], rfl, But.of (Same.refl _), hL3, .nil, .nil⟩ (fun j σ' H' ⟨_, _, _, _, _, _, _, _, b, _⟩ => seqT_but b hL3 (seqT_same s03 hp)) ?_ ?_
    · rintro j Tt σ G1 G2 hj ⟨t1, t2, t3, t4, t5, t6, sv, rfl, b1, hL1, nd, hss⟩ nT sT hT
      obtain ⟨u2, c, e3, e4, y, rfl, hc0⟩ := paired_at hcs (i := j) (by omega)
      obtain ⟨v5, t, e5, e6, lk, vs, rfl, nlk, hlk3, hcl3⟩ := paired_at cl3 (i := j) (by rw [yl]; omega)
      have ec : t.1 = c := by
        rw [List.getElem?_map, e6] at e4
        exact Option.some.inj e4
      subst ec
      obtain ⟨q1, x, eq1, e7, hq1⟩ := hls.get (i := j) (v := ls.getD j .non) (by rw [List.getD_eq_getElem?_getD, List.getElem?_eq_getElem (by omega)]; rfl)
      have ex : t.2.2 = x := by
        rw [List.getElem?_map, e6] at e7
        exact Option.some.inj e7
      subst ex
      obtain ⟨⟨g, n60, nm, ft⟩, cf⟩ := tok t (List.mem_of_getElem? e6)
      have g1 : us.getD j .non = .ref y := by rw [List.getD_eq_getElem?_getD, e3]; rfl
      rw [g1] at hT
      have im31 : Imm H3 G1 := imm_but b1 hL3
      have c1 := (hc0.same s03).but b1 hL3
      have cT := c1.same sT
      have tl3 := clen t (List.mem_of_getElem? e6)
      have cfm := cfam t (List.mem_of_getElem? e6)
      have okc := Co.ok_claims g (os := t.2.1)
      refine k_gtup (SqT.of hT) rfl ?_
      repeat (first | with_reducible refine k_gcons ?_ | with_reducible refine k_gnil ?_ | with_reducible refine k_gn ?_ | with_reducible refine k_next ?_ | with_reducible refine k_seq ?_)
      refine k_ev (fun v H' => ∃ sa sx pn lw lg, v = V.ref sa ∧ Same G2 H' ∧ G2 sa = none ∧ G2 lw = none ∧ G2 lg = none ∧ lw ≠ lg ∧ H' sa = some (.ins (He.ga K "Sheet") sx [("names", .ref pn), ("limit", .ref q1), ("ways", .ref lw), ("games", .ref lg)]) ∧ SqT K H' pn ((Co.names t.1).map V.str) ∧ H' lw = some (.lst []) ∧ H' lg = some (.lst [])) (fun Q' kq => ?_) ?_
      · refine k_make ?_
        refine k_cons ?_
        refine k_namedF (a := y) (fun Q q => by walk_at "go"; exact q) g cf cT T.cl_Most T.f_Most_names T.cl_Most T.f_Most_names (fun pn hpn => ?_)
        walk_at "go"
        refine k_ixT (seqT_same sT (seqT_imm im31 (seqT_same s03 hl))) (i := ((j : Nat) : Int)) (v := .ref q1) (atI_nat (by rw [List.getD_eq_getElem?_getD, List.getElem?_eq_getElem (by omega)] at eq1; rw [List.getElem?_eq_getElem (by omega)]; exact congrArg some eq1)) ?_
        walk_at "go"
        refine k_makex (fun sa sx A nsa nsx sA hsa osx => ⟨sa, sx, .ref pn, .ref q1, rfl, hsa, fun lw lg B b nlw nlg ne h1 h2 h3' => ⟨rfl, kq _ B ⟨sa, sx, pn, lw, lg, rfl, But.same nsa sA b, nsa, sA.free nlw, sA.free nlg, ne, h1, seqT_same (But.same nsa sA b) hpn, h2, h3'⟩⟩⟩)
      rintro v G3 ⟨sa, sx, pn, lw, lg, rfl, s23, nsa, nlw, nlg, nwg, hsa, hpn, hlw, hlg⟩
      have nLw : L ≠ lw := fun e => by have := sT _ _ hL1; rw [e, nlw] at this; cases this
      have nLg : L ≠ lg := fun e => by have := sT _ _ hL1; rw [e, nlg] at this; cases this
      have hDG1 : G1 D = some (.lst ys) := b1 _ _ nDL hD3
      have nDw : D ≠ lw := fun e => by have := sT _ _ hDG1; rw [e, nlw] at this; cases this
      have nDg : D ≠ lg := fun e => by have := sT _ _ hDG1; rw [e, nlg] at this; cases this
      have hlk1 : G1 lk = some (.lst vs) := b1 _ _ nlk hlk3
      have nkw : lk ≠ lw := fun e => by have := sT _ _ hlk1; rw [e, nlw] at this; cases this
      have nkg : lk ≠ lg := fun e => by have := sT _ _ hlk1; rw [e, nlg] at this; cases this
      have hlk := s23 _ _ (sT _ _ hlk1)
      have hcl : Co.Cls K G3 vs (Co.claimsC t.1 t.2.1) := ((hcl3.but b1 hL3).same sT).same s23
      have s0G1 : Same H0 G1 := But.same nL0 s03 b1
      have s0G3 : Same H0 G3 := s0G1.trans (sT.trans s23)
      generalize hcs' : Co.claimsC t.1 t.2.1 = cs at hcl tl3 cfm okc
      have vl := hcl.len
      have lkl : (Au.look cs).length = cs.length := List.length_map ..
      walk_at "go"
      refine k_ixL (SqL.of (s23 _ _ (sT _ _ hDG1))) (i := ((j : Nat) : Int)) (v := .ref lk) (by unfold atI; rw [ixN_nat (by omega)]; exact e5) ?_
      refine k_itUL (SqL.of hlk) ?_
      refine k_loopL (fun i σ H' => ∃ (t4 t5 : Option V) (wv gv : List V), σ = [some (.ref a), some (.ref p), some (.ref q), some (.ref lp), some (.int (n : Int)), some .non, some (.ref r), some (.bl ag), some (.int (most : Int)), some (.ref y), some (.ref D), some (.int ((j : Nat) : Int)), some (.ref sa), t4, t5, t6] ∧ But2 lw lg G3 H' ∧ H' lw = some (.lst wv) ∧ H' lg = some (.lst gv) ∧
          Paired (WAt K H' fun x => G3 x = none ∧ H' x ≠ none) wv (Au.look (cs.take i)) ∧ Paired (GmAt K H' fun x => G3 x = none ∧ H' x ≠ none) gv ((Au.look (cs.take i)).map fun w => Gm.init n ag w.top R))
        ⟨_, _, [], [], rfl, But2.refl _ _ _, hlw, hlg, .nil, .nil⟩ (fun i σ H' _ ⟨_, _, _, _, _, b, _⟩ => SqL.of (b _ _ nkw nkg hlk)) ?_ ?_
      · rintro i x σ A hx ⟨t4, t5, wv, gv, rfl, bA, hwA, hgA, hwv, hgv⟩
        have hi := (List.getElem?_eq_some_iff.mp hx).1
        obtain ⟨x', c, e1, e2, u, rfl, hat⟩ := paired_at hcl hi
        rw [hx] at e1
        obtain rfl := Option.some.inj e1
        have kpA : Kp (fun x => x ≠ lw ∧ x ≠ lg) G3 A := ⟨fun b o h f => bA b o (ne_of h hlw (by rintro rfl; exact f)) (ne_of h hlg (by rintro rfl; exact f)) h, fun b o n h => bA b o n.1 n.2 h, fun b C d fs n h => bA b _ (ne_of h hlw (by intro z; cases z)) (ne_of h hlg (by intro z; cases z)) h⟩
        have hatA := at_kp kpA hat
        have s0A : Same H0 A := But2.same ((s0G1.trans sT).free nlw) ((s0G1.trans sT).free nlg) s0G3 bA
        have hsaA := bA _ _ (ne_of hsa hlw (by intro z; cases z)) (ne_of hsa hlg (by intro z; cases z)) hsa
        have hcm := List.mem_of_getElem? e2
        walk_at "go"
        refine ⟨u, _, rfl, fun wa wx B1 nwa s1 hwa => ?_⟩
        walk_at "go"
        refine k_methx (s1 _ _ hsaA) (by walk_at "lz") ?_
        walk_at "go"
        refine k_methx hwa (by walk_at "lz") ?_
        walk_at "go"
        refine ⟨wa, wx, u, c, 20, rfl, hwa, hatA.same s1, cfm c hcm, okc c hcm, by decide, fun tp B2 s2' htp => ?_⟩
        walk_at "go"
        have sA2 := s1.trans s2'
        have hR2 := hR.same (s0A.trans sA2)
        refine k_makex (fun ga gx B3 nga ngx s3' hga oga => ⟨ga, gx, tp, r, n, ag, Cm.greatest c, R, rfl, hga, seqT_same s3' htp, hR2.same s3', fun z => hR2.there (by rw [z]; exact nga), fun l B4 b4 nl4 gat => ⟨rfl, ?_⟩⟩)
        have s24 := But.same nga s3' b4
        have sA4 := sA2.trans s24
        walk_at "go"
        have wl1 : wv.length ≤ 3600 := by have h1 := Paired.length hwv; unfold Au.look at h1; rw [List.length_map, List.length_take] at h1; omega
        have gl1 : gv.length ≤ 3600 := by have h1 := Paired.length hgv; unfold Au.look at h1; rw [List.length_map, List.length_map, List.length_take] at h1; omega
        refine ⟨sa, sx, lw, lg, _, _, _, _, wv, gv, rfl, sA4 _ _ hsaA, sA4 _ _ hwA, sA4 _ _ hgA, nwg, by omega, by omega, fun B5 b5 hw5 hg5 => ?_⟩
        have hw4 := sA4 _ _ hwA
        have hg4 := sA4 _ _ hgA
        have kp5 : Kp (fun x => x ≠ lw ∧ x ≠ lg) B4 B5 := ⟨fun b o h f => b5 b o (ne_of h hw4 (by rintro rfl; exact f)) (ne_of h hg4 (by rintro rfl; exact f)) h, fun b o n h => b5 b o n.1 n.2 h, fun b C d fs n h => b5 b _ (ne_of h hw4 (by intro z; cases z)) (ne_of h hg4 (by intro z; cases z)) h⟩
        have nw3 : ∀ x, G3 x = none → x ≠ lw ∧ x ≠ lg := fun x h => ⟨(fun e => by rw [e, hlw] at h; cases h), (fun e => by rw [e, hlg] at h; cases h)⟩
        have there : ∀ x, G3 x = none → A x ≠ none → B5 x ≠ none := fun x h z => kp5.some (nw3 x h) ((Kp.same sA4 (F := fun _ => True)).some trivial z)
        have tk : Au.look (cs.take (i + 1)) = Au.look (cs.take i) ++ [⟨true, c, []⟩] := by unfold Au.look; rw [take_snoc e2, List.map_append]; rfl
        have oldF : Kp (fun x => G3 x = none ∧ A x ≠ none) A B5 := ((Kp.same sA4).trans (kp5.mono fun x z => nw3 x z.1))
        have fresh : ∀ x, A x = none → G3 x = none := fun x h => by
          cases q : G3 x with
          | none => rfl
          | some o =>
            by_cases e1 : x = lw
            · rw [e1, hwA] at h; cases h
            · by_cases e2 : x = lg
              · rw [e2, hgA] at h; cases h
              · rw [bA _ _ e1 e2 q] at h; cases h
        refine ⟨_, _, wv ++ [.ref wa], gv ++ [.ref ga], rfl, bA.trans ((But2.of sA4).trans b5), hw5, hg5, ?_, ?_⟩
        · rw [tk]
          refine paired_add (.inl ⟨rfl, wa, wx, u, rfl, kp5.ins _ _ _ _ (by simp) (s24 _ _ (s2' _ _ hwa)), at_kp kp5 (hatA.same sA4)⟩) (paired_map (fun _ _ h => (h.kp oldF).sub fun x z => ⟨z.1, there x z.1 z.2⟩) hwv)
        · rw [tk, List.map_append]
          refine paired_add ?_ (paired_map (fun _ _ h => (h.kp oldF).sub fun x z => ⟨z.1, there x z.1 z.2⟩) hgv)
          have nlA : G3 l = none := fresh l ((sA2.trans s3').free nl4)
          have h4l : B4 l ≠ none := by obtain ⟨vs4, h⟩ := gat.lst; rw [h]; simp
          exact ⟨ga, l, rfl, gat.kp kp5 (nw3 l nlA), nlA, kp5.some (nw3 l nlA) h4l⟩
      rintro σ A ⟨t4, t5, wv, gv, rfl, bA, hwA, hgA, hwv, hgv⟩
      rw [List.take_of_length_le (by omega)] at hwv hgv
      have sA1 : Same G2 A := But2.same nlw nlg s23 bA
      have s1A := sT.trans sA1
      have haG1 := b1 _ _ (Ne.symm nLa) h3
      have hLA := s1A _ _ hL1
      have svl : sv.length ≤ 60 := by have h1 := Paired.length hss; rw [List.length_map, List.length_take] at h1; omega
      walk_at "go"
      refine k_fldx (s1A _ _ haG1) T.cl_Audit T.f_Audit_sheets (by walk_at "lk") ?_
      refine ⟨k_app0 hLA, ?_⟩
      walk_at "go"
      refine k_app1 hLA (by rw [sizeLine_eq]; omega) (fun A2 b2' hL2 => ?_)
      have g1none : ∀ x, G1 x = none → H3 x = none := fun x h => by
        cases q : H3 x with
        | none => rfl
        | some o =>
          by_cases e : x = L
          · rw [e, hL1] at h; cases h
          · rw [b1 _ _ e q] at h; cases h
      have g3none : ∀ x, G3 x = none → H3 x = none := fun x h => g1none x ((sT.trans s23).free h)
      have nL3 : ∀ x, H3 x = none → x ≠ L := fun x h e => by rw [e, hL3] at h; cases h
      have kp2 : Kp (fun x => H3 x = none) A A2 := Kp.but b2' hLA (fun z => nL3 L z rfl)
      have sa3 : H3 sa = none := g1none sa (sT.free nsa)
      have hsaA := bA _ _ (ne_of hsa hlw (by intro z; cases z)) (ne_of hsa hlg (by intro z; cases z)) hsa
      have kpA : Kp (fun x => x ≠ lw ∧ x ≠ lg) G3 A := ⟨fun b o h f => bA b o (ne_of h hlw (by rintro rfl; exact f)) (ne_of h hlg (by rintro rfl; exact f)) h, fun b o n h => bA b o n.1 n.2 h, fun b C d fs n h => bA b _ (ne_of h hlw (by intro z; cases z)) (ne_of h hlg (by intro z; cases z)) h⟩
      have hq3 := seqT_imm kp2.imm (seqT_imm kpA.imm (seqT_same s23 (seqT_same sT (seqT_imm im31 (seqT_same s03 hq1)))))
      have lw3 : H3 lw = none := g1none lw (sT.free nlw)
      have lg3 : H3 lg = none := g1none lg (sT.free nlg)
      refine ⟨_, _, _, _, _, _, sv ++ [.ref sa], rfl, fun x o nx h => b2' _ _ nx (s1A _ _ (b1 _ _ nx h)), hL2, ?_, ?_⟩
      · refine List.nodup_append.mpr ⟨nd, by simp, fun v hv w hw => ?_⟩
        rw [List.mem_singleton] at hw
        subst hw
        intro e
        subst e
        obtain ⟨k, hk, hk2⟩ := List.getElem_of_mem hv
        obtain ⟨v', s', z1, z2, z3, _, _, _, _, _, _, _, z4, S⟩ := paired_at hss hk
        rw [List.getElem?_eq_getElem hk, hk2] at z1
        cases (Option.some.inj z1).trans z4
        have := S.ins
        rw [sT.free nsa] at this
        cases this
      · rw [take_snoc e6, List.map_append]
        refine paired_add ⟨sa, sx, pn, q1, lw, lg, wv, gv, rfl, SA.mk (kp2.own _ _ sa3 hsaA) (seqT_imm kp2.imm (seqT_imm kpA.imm hpn)) hq3 (kp2.own _ _ lw3 hwA) ?_ (kp2.own _ _ lg3 hgA) ?_ ⟨sa3, by rw [kp2.own _ _ sa3 hsaA]; simp⟩ ⟨lw3, by rw [kp2.own _ _ lw3 hwA]; simp⟩ ⟨lg3, by rw [kp2.own _ _ lg3 hgA]; simp⟩⟩ ?_
        · exact paired_map (fun _ _ h => ((h.kp (Kp.same s1A)).kp (kp2.mono fun x z => z.1)).sub fun x z => ⟨z.1, kp2.some z.1 ((Kp.same s1A (F := fun _ => True)).some trivial z.2)⟩) hss
        · show Paired _ wv (Au.look (Co.claimsC t.1 t.2.1))
          rw [hcs']
          exact paired_map (fun _ _ h => (h.kp (kp2.mono fun x z => g3none x z.1)).sub fun x z => ⟨g3none x z.1, kp2.some (g3none x z.1) z.2⟩) hwv
        · show Paired _ gv ((Au.look (Co.claimsC t.1 t.2.1)).map fun w => Gm.init n ag w.top R)
          rw [hcs']
          exact paired_map (fun _ _ h => (h.kp (kp2.mono fun x z => g3none x z.1)).sub fun x z => ⟨g3none x z.1, kp2.some (g3none x z.1) z.2⟩) hgv
    rintro σ A ⟨t1, t2, t3, t4, t5, t6, sv, rfl, b1, hL1, nd, hss⟩
    rw [ul, List.take_of_length_le (Nat.le_refl _)] at hss
    have ha8 := b1 _ _ (Ne.symm nLa) h3
    walk_at "go"
    refine k_sfldx ha8 T.cl_Audit T.f_Audit_many (fun A1 c1 i1 => ?_) (by walk_at "pl")
    replace i1 : A1 a = some (.ins (He.ga K "Audit") dx [("sheets", .ref L), ("many", .int (n : Int))]) := by rw [i1]; walk_at "pf"
    walk_at "go"
    refine k_sfldx i1 T.cl_Audit T.f_Audit_again (fun A2 c2 i2 => ?_) (by walk_at "pl")
    replace i2 : A2 a = some (.ins (He.ga K "Audit") dx [("sheets", .ref L), ("many", .int (n : Int)), ("again", .bl ag)]) := by rw [i2]; walk_at "pf"
    walk_at "go"
    refine k_sfldx i2 T.cl_Audit T.f_Audit_most (fun A3 c3 i3 => ?_) (by walk_at "pl")
    replace i3 : A3 a = some (.ins (He.ga K "Audit") dx [("sheets", .ref L), ("many", .int (n : Int)), ("again", .bl ag), ("most", .int (most : Int))]) := by rw [i3]; walk_at "pf"
    walk_at "go"
    refine k_lstx (fun ln A4 nln s4 hln => ?_) (by simp)
    walk_at "go"
    have i4 := s4 _ _ i3
    have nlna : ln ≠ a := fun e => by subst e; rw [i3] at nln; cases nln
    refine k_sfldx i4 T.cl_Audit T.f_Audit_numbers (fun A5 c5 i5 => ?_) (by walk_at "pl")
    replace i5 : A5 a = some (.ins (He.ga K "Audit") dx [("sheets", .ref L), ("many", .int (n : Int)), ("again", .bl ag), ("most", .int (most : Int)), ("numbers", .ref ln)]) := by rw [i5]; walk_at "pf"
    walk_at "go"
    have bb3 : But a A A3 := c1.trans (c2.trans c3)
    have bb : But a A A5 := bb3.trans ((But.of s4).trans c5)
    have lnA : A ln = none := by
      cases q : A ln with
      | none => rfl
      | some o => rw [bb3 _ _ nlna q] at nln; cases nln
    have sA : Same H0 A := But.same nL0 s03 b1
    have nLln : L ≠ ln := fun e => by rw [← e, hL1] at lnA; cases lnA
    have hL5 := bb _ _ nLa hL1
    have hln5 := c5 _ _ nlna hln
    refine kk A5 (fun x => x = L ∨ x = ln ∨ (H3 x = none ∧ A x ≠ none)) (But.same na sA bb) (fun x z => ?_) ⟨dx, L, ln, sv, i5, hL5, paired_map (fun _ _ h => (h.butA bb ha8).sub fun x z => ⟨.inr (.inr z), fun e => z.2 (e ▸ lnA)⟩) hss, nd, hln5, ⟨.inl rfl, nLln⟩, .inr (.inl rfl), fun x z => ?_⟩
    · rcases z with rfl | rfl | z
      · exact nL0
      · exact sA.free lnA
      · exact s03.free z.1
    · rcases z with rfl | rfl | z
      · rw [hL5]; simp
      · rw [hln5]; simp
      · by_cases e : x = a
        · rw [e, i5]; simp
        · cases q : A x with
          | none => exact absurd q z.2
          | some o => rw [bb _ _ e q]; simp
end
end Lw
namespace Lw
open PySem PySem.Spec PyProof.Rows L2 Gx
section
variable {P : Program} {w : World} {K : PySem.W.Frag} {mg : Str → Option Value} {base : Heap} {f : Addr} {fd : FuncData}
theorem ok_Audit_sure_of (F : FnP K "sure_of" "Audit.sure_of" s_Audit_sure_of f fd) (T : Txt K mg) (m_Sheet_is_sure : MCl P w K mg base 5 "Sheet" "is_sure" ["self"] (sp_Sheet_is_sure K)) : FnOk P w K mg base (L2.CX P w) 6 f fd ["self"] (sp_Audit_sure_of K) := by
  refine F.ok sc_Audit_sure_of (fun vs H Q E h => ?_) (fun cdv A outer s H vs Q E hr h => ?_)
  · obtain ⟨a, F, A, rfl, _⟩ := h; rfl
  · refine ⟨_, (pss_one (ps_ret (pe_callTy (callK (K := K) (r := rTupV) rfl call_tupV) (by rfl) T.n_tuple (by decide +kernel) (pa_cons (pe_lc (own := [("sheet", 1)]) (g := gName 1) (by rfl) sc_Audit_sure_of.nd (pi_seqU (pe_fldK (K := K) rfl (pv 0) rfl)) (blkOk_by (own := [("sheet", 1)]) (N := ["self", "sheet"]) (sc := defScope s_Audit_sure_of) (by decide +kernel)) (fun _ _ _ _ _ => pg_name (i := 1) sc_Audit_sure_of.nd rfl (Or.inl rfl)) (fun _ _ _ _ _ => pts_nil) (fun _ _ _ _ _ => (pmethN0 rfl m_Sheet_is_sure hr (by first | decide | omega) (pv 1)))) pa_nil)))), ?_⟩
    obtain ⟨a, F, A, rfl, ⟨dx, l, ln, sv, AA⟩, l1, ok, kk⟩ := h
    have sl := Paired.length AA.ss
    walk_at "go"
    refine k_fldx AA.ins T.cl_Audit T.f_Audit_sheets (by walk_at "lk") ?_
    walk_at "go"
    refine k_lcU (.inl (SqL.of AA.sl)) (fun D i ys H' => Same H H' ∧ ys = ((A.ss.take i).map Au.Sh.sure).map V.bl) (fun D H' nD sD hD => ⟨sD, rfl⟩) (fun D i ys H' nD h => h.1) ?_ ?_
    · rintro D i x ys H1 nD hx ⟨s1, rfl⟩ hD
      have hi := (List.getElem?_eq_some_iff.mp hx).1
      obtain ⟨x', s, e1, e2, hs⟩ := paired_at AA.ss hi
      rw [hx] at e1
      obtain rfl := Option.some.inj e1
      obtain ⟨sa, sx, p, q, lw, lg, wv, gv, rfl, S⟩ := id (hs.kp (Kp.same s1))
      obtain ⟨l2, ok2⟩ := ok s (List.mem_of_getElem? e2)
      refine k_lcB rfl ?_
      walk_at "go"
      refine k_methx S.ins (by walk_at "lz") ?_
      walk_at "go"
      refine ⟨_, _, s, rfl, hs.kp (Kp.same s1), l2, ok2, fun H2 s2 => ?_⟩
      have hD2 := s2 _ _ hD
      refine ⟨_, hD2, (by rw [sizeLine_eq, List.length_map, List.length_map, List.length_take]; omega), _, ⟨But.same nD (s1.trans s2) But.upd, ?_⟩, upd_same⟩
      rw [take_snoc e2, List.map_append, List.map_append]
      rfl
    rintro D ys H1 nD ⟨s1, rfl⟩ hD
    rw [sl, List.take_of_length_le (Nat.le_refl _)] at hD
    walk_at "go"
    refine k_tupL (SqL.of hD) (fun r H2 nr s2 hr => ?_)
    exact kk r H2 (s1.trans s2) hr
end
end Lw
namespace Lw
open PySem PySem.Spec PyProof.Rows L2 Gx
section
variable {P : Program} {w : World} {K : PySem.W.Frag} {mg : Str → Option Value} {base : Heap} {f : Addr} {fd : FuncData}
theorem ok_Audit_worths (F : FnP K "worths" "Audit.worths" s_Audit_worths f fd) (T : Txt K mg) (m_Game_worth : MCl P w K mg base 1 "Game" "worth" ["self"] (sp_Game_worth K)) : FnOk P w K mg base (L2.CX P w) 2 f fd ["self"] (sp_Audit_worths K) := by
  refine F.ok sc_Audit_worths (fun vs H Q E h => ?_) (fun cdv A outer s H vs Q E hr h => ?_)
  · obtain ⟨a, F, A, rfl, _⟩ := h; rfl
  · refine ⟨_, (pss_one (ps_ret (pe_callTy (callK (K := K) (r := rTupV) rfl call_tupV) (by rfl) T.n_tuple (by decide +kernel) (pa_cons (pe_lc (own := [("sheet", 1)]) (g := gName 1) (by rfl) sc_Audit_worths.nd (pi_seqU (pe_fldK (K := K) rfl (pv 0) rfl)) (blkOk_by (own := [("sheet", 1)]) (N := ["self", "sheet", "game"]) (sc := defScope s_Audit_worths) (by decide +kernel)) (fun _ _ _ _ _ => pg_name (i := 1) sc_Audit_worths.nd rfl (Or.inl rfl)) (fun _ _ _ _ _ => pts_nil) (fun _ _ _ _ _ => (pe_callTy (callK (K := K) (r := rTupV) rfl call_tupV) (by rfl) T.n_tuple (by decide +kernel) (pa_cons (pe_lc (own := [("game", 2)]) (g := gName 2) (by rfl) sc_Audit_worths.nd (pi_seqUK (K := K) rfl (pe_fldK (K := K) rfl (pv 1) rfl)) (blkOk_by (own := [("game", 2)]) (N := ["self", "sheet", "game"]) (sc := { kind := .function, names := [(".0", .local), ("sheet", .local), ("tuple", .globalImplicit)], isGenerator := false, isCoroutine := false }) (by decide +kernel)) (fun _ _ _ _ _ => pg_name (i := 2) sc_Audit_worths.nd rfl (Or.inl rfl)) (fun _ _ _ _ _ => pts_nil) (fun _ _ _ _ _ => (pmethN0 rfl m_Game_worth hr (by first | decide | omega) (pv 2)))) pa_nil)))) pa_nil)))), ?_⟩
    obtain ⟨a, F, A, rfl, ⟨dx, l, ln, sv, AA⟩, l1, ok, kk⟩ := h
    have sl := Paired.length AA.ss
    walk_at "go"
    refine k_fldx AA.ins T.cl_Audit T.f_Audit_sheets (by walk_at "lk") ?_
    walk_at "go"
    refine k_lcU (.inl (SqL.of AA.sl)) (fun D i ys H' => Same H H' ∧ ys.length = i ∧ Wos K H' ys ((A.ss.take i).map Au.Sh.worths)) (fun D H' nD sD hD => ⟨sD, rfl, .nil⟩) (fun D i ys H' nD h => h.1) ?_ ?_
    · rintro D i x ys H1 nD hx ⟨s1, yl, hw⟩ hD
      have hi := (List.getElem?_eq_some_iff.mp hx).1
      obtain ⟨x', s, e1, e2, hs⟩ := paired_at AA.ss hi
      rw [hx] at e1
      obtain rfl := Option.some.inj e1
      obtain ⟨sa, sx, p, q, lw, lg, wv, gv, rfl, S⟩ := id (hs.kp (Kp.same s1))
      have l2 := ok s (List.mem_of_getElem? e2)
      have gl := Paired.length S.gs
      refine k_lcB rfl ?_
      walk_at "go"
      refine k_fldx S.ins T.cl_Sheet T.f_Sheet_games (by walk_at "lk") ?_
      walk_at "go"
      refine k_lcU (.inl (SqL.of S.gl)) (fun D2 j zs H' => Same H1 H' ∧ zs.length = j ∧ PrOs K H' zs ((s.gs.take j).map Gm.worthO)) (fun D2 H' nD2 sD hD2 => ⟨sD, rfl, .nil⟩) (fun D2 j zs H' nD2 h => h.1) ?_ ?_
      · rintro D2 j y zs H2 nD2 hy ⟨s2, zl, hp⟩ hD2
        have hj := (List.getElem?_eq_some_iff.mp hy).1
        obtain ⟨y', g, e3, e4, b, lb, rfl, hg, fl⟩ := paired_at S.gs hj
        rw [hy] at e3
        obtain rfl := Option.some.inj e3
        obtain ⟨dx1, fs1, _, hi1⟩ := (hg.same s2).ins
        refine k_lcB rfl ?_
        walk_at "go"
        refine k_methx hi1 ((hg.same s2).look hi1 (by decide +kernel)) ?_
        walk_at "go"
        refine ⟨b, lb, g, rfl, hg.same s2, fun v hv => ?_⟩
        refine ⟨_, hD2, (by rw [sizeLine_eq]; omega), _, ⟨But.same nD2 s2 But.upd, by simp [zl], ?_⟩, upd_same⟩
        rw [take_snoc e4, List.map_append]
        exact PrOs.snoc (hv.imm (imm_but But.upd hD2)) (hp.imm (imm_but But.upd hD2))
      rintro D2 zs H2 nD2 ⟨s2, zl, hp⟩ hD2
      rw [gl, List.take_of_length_le (Nat.le_refl _)] at hp
      walk_at "go"
      refine k_tupL (SqL.of hD2) (fun r H3 nr s3 hr => ?_)
      have s13 := s2.trans s3
      have hD3 := s13 _ _ hD
      refine ⟨_, hD3, (by rw [sizeLine_eq]; omega), _, ⟨But.same nD (s1.trans s13) But.upd, by simp [yl], ?_⟩, upd_same⟩
      rw [take_snoc e2, List.map_append]
      exact paired_add ⟨r, zs, rfl, seqT_but But.upd hD3 (SqT.of hr), (hp.same s3).imm (imm_but But.upd hD3)⟩ ((hw.same s13).imm (imm_but But.upd hD3))
    rintro D ys H1 nD ⟨s1, yl, hw⟩ hD
    rw [sl, List.take_of_length_le (Nat.le_refl _)] at hw
    walk_at "go"
    refine k_tupL (SqL.of hD) (fun r H2 nr s2 hr => ?_)
    exact kk r ys H2 (s1.trans s2) (SqT.of hr) (hw.same s2)
end
end Lw
namespace Lw
open PySem PySem.Spec PyProof.Rows L2 Gx
section
variable {P : Program} {w : World} {K : PySem.W.Frag} {mg : Str → Option Value} {base : Heap} {f : Addr} {fd : FuncData}
theorem ok_Audit_verdict (F : FnP K "verdict" "Audit.verdict" s_Audit_verdict f fd) (T : Txt K mg) (m_Audit_sure_of : MCl P w K mg base 6 "Audit" "sure_of" ["self"] (sp_Audit_sure_of K)) : FnOk P w K mg base (L2.CX P w) 7 f fd ["self"] (sp_Audit_verdict K) := by
  refine F.ok sc_Audit_verdict (fun vs H Q E h => ?_) (fun cdv A outer s H vs Q E hr h => ?_)
  · obtain ⟨a, F, A, rfl, _⟩ := h; rfl
  · refine ⟨_, (pss_cons (ps_if (pt_val (pe_callB (callK (K := K) (r := rAllT) rfl (cr_allT rfl)) (by rfl) T.n_all (by decide +kernel) (pa_cons (pmeth0 rfl m_Audit_sure_of hr (by first | decide | omega) (takes_of rfl rfl rfl rfl) (pv 0)) pa_nil))) (pss_one (ps_ret pe_str)) pss_nil) (pss_cons (ps_if (PW.pt (pw_or (pt_cmpR (op_eqK (K := K) rfl hr) (pe_callB (callK (K := K) (r := rLenU) rfl call_lenU) (by rfl) T.n_len (by decide +kernel) (pa_cons (pe_fldK (K := K) rfl (pv 0) rfl) pa_nil)) (pe_fldK (K := K) rfl (pv 0) rfl) (nomark _)) (pw_or1 (PW.pt (pw_and (pt_not (pt_val (pe_fldK (K := K) rfl (pv 0) rfl))) (pw_and1 (pt_cmpR (op_eqK (K := K) rfl hr) (pe_callB (callK (K := K) (r := rLenU) rfl call_lenU) (by rfl) T.n_len (by decide +kernel) (pa_cons (pe_fldK (K := K) rfl (pv 0) rfl) pa_nil)) (pe_fldK (K := K) rfl (pv 0) rfl) (nomark _)))))))) (pss_one (ps_ret pe_str)) pss_nil) (pss_one (ps_ret pe_str)))), ?_⟩
    obtain ⟨a, F, A, rfl, h0, l1, ok, kk⟩ := h
    have h0' := h0
    obtain ⟨dx, l, ln, sv, AA⟩ := h0'
    walk_at "go"
    refine k_methx AA.ins (by walk_at "lz") ?_
    walk_at "go"
    refine ⟨a, F, A, rfl, h0, l1, ok, fun r H1 s1 hr => ?_⟩
    walk_at "go"
    refine k_allT (SqT.of hr) ?_
    have ev : A.verdict = if (A.sure.all id) = true then Str.ofString "sure" else if A.full = true then Str.ofString "count" else Str.ofString "on" := rfl
    cases e : A.sure.all id with
    | true =>
      walk_at "go"
      have := kk H1 s1
      rw [ev, if_pos e] at this
      exact this
    | false =>
      walk_at "go"
      rw [ev, if_neg (by rw [e]; decide)] at kk
      refine k_fldx (s1 _ _ AA.ins) T.cl_Audit T.f_Audit_numbers (by walk_at "lk") ?_
      walk_at "go"
      refine k_lenL ?_ (SqL.of (s1 _ _ AA.nl))
      rw [List.length_map]
      walk_at "go"
      refine k_fldx (s1 _ _ AA.ins) T.cl_Audit T.f_Audit_most (by walk_at "lk") ?_
      walk_at "go"
      rw [show decide ((A.nums.length : Int) = (A.most : Int)) = decide (A.nums.length = A.most) by rw [decide_eq_decide]; omega]
      have ef : A.full = (decide (A.nums.length = A.most) || (!A.ag && decide (A.nums.length = A.n))) := rfl
      refine k_if (fun c => ?_) (fun c => ?_)
      · rw [decide_eq_true c] at ef
        rw [if_pos (by rw [ef]; rfl)] at kk
        walk_at "go"
        exact kk H1 s1
      rw [decide_eq_false c, Bool.false_or] at ef
      walk_at "go"
      refine k_fldx (s1 _ _ AA.ins) T.cl_Audit T.f_Audit_again (by walk_at "lk") ?_
      cases ea : A.ag with
      | true =>
        rw [ea] at ef
        rw [if_neg (by rw [ef]; simp)] at kk
        walk_at "go"
        exact kk H1 s1
      | false =>
        rw [ea] at ef
        walk_at "go"
        refine k_fldx (s1 _ _ AA.ins) T.cl_Audit T.f_Audit_numbers (by walk_at "lk") ?_
        walk_at "go"
        refine k_lenL ?_ (SqL.of (s1 _ _ AA.nl))
        rw [List.length_map]
        walk_at "go"
        refine k_fldx (s1 _ _ AA.ins) T.cl_Audit T.f_Audit_many (by walk_at "lk") ?_
        walk_at "go"
        rw [show decide ((A.nums.length : Int) = (A.n : Int)) = decide (A.nums.length = A.n) by rw [decide_eq_decide]; omega]
        refine k_if (fun c2 => ?_) (fun c2 => ?_)
        · rw [decide_eq_true c2] at ef
          rw [if_pos (by rw [ef]; rfl)] at kk
          walk_at "go"
          exact kk H1 s1
        · rw [decide_eq_false c2] at ef
          rw [if_neg (by rw [ef]; simp)] at kk
          walk_at "go"
          exact kk H1 s1
end
end Lw
namespace Lw
open PySem PySem.Spec PyProof.Rows L2 Gx
section
variable {P : Program} {w : World} {K : PySem.W.Frag} {mg : Str → Option Value} {base : Heap} {f : Addr} {fd : FuncData}
theorem ok_Audit_is_number (F : FnP K "is_number" "Audit.is_number" s_Audit_is_number f fd) (T : Txt K mg) : FnOk P w K mg base (L2.CX P w) 1 f fd ["self", "thing"] (sp_Audit_is_number K) := by
  refine F.ok sc_Audit_is_number (fun vs H Q E h => ?_) (fun cdv A outer s H vs Q E hr h => ?_)
  · obtain ⟨a, F, A, i, rfl, _⟩ := h; rfl
  · refine ⟨_, (pss_cons (ps_if (PW.pt (pw_or (pt_not (pt_val (pe_callB (callK (K := K) (r := rIsi) rfl call_isi) (by rfl) T.n_isinstance (by decide +kernel) (pa_cons (pv 1) (pa_cons (pe_bltn (v := .ty "int") (by rfl) T.n_int (by decide +kernel) rfl) pa_nil))))) (pw_or (pt_val (pe_callB (callK (K := K) (r := rIsi) rfl call_isi) (by rfl) T.n_isinstance (by decide +kernel) (pa_cons (pv 1) (pa_cons (pe_bltn (v := .ty "bool") (by rfl) T.n_bool (by decide +kernel) rfl) pa_nil)))) (pw_or1 (pt_not (pt_chain op_le op_lt pe_int (pv 1) (pe_fldK (K := K) rfl (pv 0) rfl))))))) (pss_one (ps_ret pe_bl)) pss_nil) (pss_one (ps_ret (pe_or (pe_fldK (K := K) rfl (pv 0) rfl) (pe_one (pe_cmpR (op_niUK (K := K) rfl hr) (pv 1) (pe_fldK (K := K) rfl (pv 0) rfl) (by with_unfolding_all rfl))))))), ?_⟩
    obtain ⟨a, F, A, i, rfl, ⟨dx, l, ln, sv, AA⟩, hi, kk⟩ := h
    walk_at "go"
    refine k_isi (.ty "int") (.base (.int _)) (kit_ty (r := true) (by decide +kernel)) ?_
    walk_at "go"
    refine k_isi (.ty "bool") (.base (.int _)) (kit_ty (r := false) (by decide +kernel)) ?_
    walk_at "go"
    refine k_if (fun c => ?_) (fun c => absurd (by omega) c)
    walk_at "go"
    refine k_fldx AA.ins T.cl_Audit T.f_Audit_many (by walk_at "lk") ?_
    walk_at "go"
    refine k_ifn (fun c => absurd (by omega) c) (fun c => ?_)
    walk_at "go"
    refine k_fldx AA.ins T.cl_Audit T.f_Audit_again (by walk_at "lk") ?_
    unfold Au.free at kk
    cases ea : A.ag with
    | true =>
      rw [ea] at kk
      walk_at "go"
      exact kk
    | false =>
      rw [ea] at kk
      walk_at "go"
      refine k_fldx AA.ins T.cl_Audit T.f_Audit_numbers (by walk_at "lk") ?_
      refine k_ni (.inl (SqL.of AA.nl)) rfl (by simp [flatV]) (Au.in_ints i A.nums) ?_
      walk_at "go"
      exact kk
end
end Lw
namespace Lw
open PySem PySem.Spec PyProof.Rows L2 Gx
section
variable {P : Program} {w : World} {K : PySem.W.Frag} {mg : Str → Option Value} {base : Heap} {f : Addr} {fd : FuncData}
theorem ok_Audit_is_ballot (F : FnP K "is_ballot" "Audit.is_ballot" s_Audit_is_ballot f fd) (T : Txt K mg) (c_is_mark : Cl P w K mg base 1 "is_mark" ["thing", "names"] (sp_is_mark K)) : FnOk P w K mg base (L2.CX P w) 2 f fd ["self", "thing"] (sp_Audit_is_ballot K) := by
  refine F.ok sc_Audit_is_ballot (fun vs H Q E h => ?_) (fun cdv A outer s H vs Q E hr h => ?_)
  · obtain ⟨a, F, A, v, o, rfl, _⟩ := h; rfl
  · refine ⟨_, (pss_cons (ps_if (pt_cmpR op_isNU (pv 1) pe_non (nomark _)) (pss_one (ps_ret pe_bl)) pss_nil) (pss_cons (ps_if (PW.pt (pw_or (pt_not (pt_val (pe_callB (callK (K := K) (r := rIsi) rfl call_isi) (by rfl) T.n_isinstance (by decide +kernel) (pa_cons (pv 1) (pa_cons (pe_bltn (v := .ty "tuple") (by rfl) T.n_tuple (by decide +kernel) rfl) pa_nil))))) (pw_or1 (pt_cmpR (op_neK (K := K) rfl hr) (pe_callB (callK (K := K) (r := rLenU) rfl call_lenU) (by rfl) T.n_len (by decide +kernel) (pa_cons (pv 1) pa_nil)) (pe_callB (callK (K := K) (r := rLenU) rfl call_lenU) (by rfl) T.n_len (by decide +kernel) (pa_cons (pe_fldK (K := K) rfl (pv 0) rfl) pa_nil)) (nomark _))))) (pss_one (ps_ret pe_bl)) pss_nil) (pss_one (ps_ret (pe_callB (callK (K := K) (r := rAll) rfl (cr_all rfl)) (by rfl) T.n_all (by decide +kernel) (pa_cons (pe_lc (own := [("mark", 2), ("sheet", 3)]) (g := (gTup _ 2 (gCons (gName 2) (gCons (gName 3) gNil)))) (by rfl) sc_Audit_is_ballot.nd (pi_zipM (K := K) rfl (by rfl) T.n_zip (pa_cons (pv 1) (pa_cons (pe_fldK (K := K) rfl (pv 0) rfl) pa_nil))) (blkOk_by (own := [("mark", 2), ("sheet", 3)]) (N := ["self", "thing", "mark", "sheet"]) (sc := defScope s_Audit_is_ballot) (by decide +kernel)) (fun _ _ _ _ _ => (pg_tup rfl (pgs_cons (pg_name (i := 2) sc_Audit_is_ballot.nd rfl (Or.inl rfl)) (pgs_cons (pg_name (i := 3) sc_Audit_is_ballot.nd rfl (Or.inl rfl)) pgs_nil)))) (fun _ _ _ _ _ => pts_nil) (fun _ _ _ _ _ => (pcallN c_is_mark hr (by first | decide | omega) (pa_cons (pv 2) (pa_cons (pe_fldK (K := K) rfl (pv 3) rfl) pa_nil))))) pa_nil)))))), ?_⟩
    obtain ⟨a, F, A, v, o, rfl, ⟨dx, l, ln, sv, AA⟩, hv, ok, l1, kk⟩ := h
    have sl := Paired.length AA.ss
    cases o with
    | none =>
      obtain rfl : v = .non := hv
      walk_at "go"
      exact kk H (Same.refl H)
    | some ms =>
      obtain ⟨p, rfl, hp⟩ := hv
      obtain ⟨ml, mok⟩ := ok
      walk_at "go"
      refine k_isi (.ty "tuple") (ty_tup hp) (kit_ty (r := true) (by decide +kernel)) ?_
      walk_at "go"
      refine k_lenT ?_ hp
      rw [List.length_map]
      walk_at "go"
      refine k_fldx AA.ins T.cl_Audit T.f_Audit_sheets (by walk_at "lk") ?_
      walk_at "go"
      refine k_lenL ?_ (SqL.of AA.sl)
      walk_at "go"
      refine k_ifn (fun c => absurd (by omega) c) (fun _ => ?_)
      walk_at "go"
      refine k_fldx AA.ins T.cl_Audit T.f_Audit_sheets (by walk_at "lk") ?_
      walk_at "go"
      refine k_zipMx hp (SqL.of AA.sl) ?_
      refine k_lcP (zipM_it (by rw [List.length_map]; omega)) (fun D i ys H' => ys = (List.replicate i true).map V.bl ∧ Same H H') (fun D H' nD sD hD => ⟨rfl, sD⟩) (fun D i ys H' nD h => ⟨seqT_same h.2 hp, SqL.of (h.2 _ _ AA.sl)⟩) ?_ ?_
      · rintro D i Tt ys G1 G2 nD hi ⟨rfl, sG⟩ nT sT hT hD
        rw [List.length_map] at hi
        obtain ⟨x1, s, e1, e2, sa, sx, p1, q1, lw, lg, wv, gv, rfl, S⟩ := paired_at AA.ss (i := i) (by omega)
        have g1 : (ms.map Cm.mv).getD i .non = Cm.mv (ms[i]'hi) := by simp [hi]
        have g2 : sv.getD i .non = .ref sa := by rw [List.getD_eq_getElem?_getD, e1]; rfl
        rw [g1, g2] at hT
        have hm := mok i s (ms[i]'hi) e2 (List.getElem?_eq_getElem hi)
        generalize ms[i]'hi = m at hT hm
        have S2 := S.kp (Kp.same (sG.trans sT))
        refine k_lcT ?_
        refine k_gtup (SqT.of hT) rfl ?_
        walk_at "go"
        refine ⟨rfl, ?_⟩
        walk_at "go"
        refine k_fldx S2.ins T.cl_Sheet T.f_Sheet_names (by walk_at "lk") ?_
        walk_at "go"
        refine ⟨m, p1, s.names, rfl, S2.names, ?_⟩
        rw [decide_eq_true hm]
        refine ⟨_, hD, (by rw [sizeLine_eq, List.length_map, List.length_replicate]; omega), _, ⟨?_, But.same nD (sG.trans sT) But.upd⟩, upd_same⟩
        rw [List.replicate_succ', List.map_append]
        rfl
      rintro D ys H1 nD ⟨rfl, s1⟩ hD
      walk_at "go"
      refine k_all (SqL.of hD) ?_
      walk_at "go"
      rw [show ((List.replicate (ms.map Cm.mv).length true).all id) = true by rw [List.all_replicate]; simp]
      exact kk H1 s1
end
end Lw
namespace Lw
open PySem PySem.Spec PyProof.Rows L2 Gx
section
variable {P : Program} {w : World} {K : PySem.W.Frag} {mg : Str → Option Value} {base : Heap} {f : Addr} {fd : FuncData}
theorem ok_Audit_draw (F : FnP K "draw" "Audit.draw" s_Audit_draw f fd) (T : Txt K mg) (m_Audit_verdict : MCl P w K mg base 7 "Audit" "verdict" ["self"] (sp_Audit_verdict K)) (m_Sheet_played : MCl P w K mg base 7 "Sheet" "played" ["self", "number", "mark"] (sp_Sheet_played K)) (m_Audit_is_ballot : MCl P w K mg base 2 "Audit" "is_ballot" ["self", "thing"] (sp_Audit_is_ballot K)) (m_Audit_is_number : MCl P w K mg base 1 "Audit" "is_number" ["self", "thing"] (sp_Audit_is_number K)) : FnOk P w K mg base (L2.CX P w) 8 f fd ["self", "number", "ballot"] (sp_Audit_draw K) := by
  refine F.ok sc_Audit_draw (fun vs H Q E h => ?_) (fun cdv A outer s H vs Q E hr h => ?_)
  · obtain ⟨a, F, A, i, v, o, rfl, _⟩ := h; rfl
  · refine ⟨_, (pss_cons (ps_if (pt_cmpR (op_neK (K := K) rfl hr) (pmeth0 rfl m_Audit_verdict hr (by first | decide | omega) (takes_of rfl rfl rfl rfl) (pv 0)) pe_str (nomark _)) (pss_one (ps_raise rfl (takes_of rfl rfl rfl rfl) (pmk_own PySem.F.excBase_ValueError T.x_Ended.1 T.g_Ended T.x_Ended.2.1 (raises_own T.x_Ended.2.2.1 T.x_Ended.2.2.2) rfl))) pss_nil) (pss_cons (ps_if (pt_not (pt_val (pmeth rfl m_Audit_is_number hr (by first | decide | omega) (takes_of rfl rfl rfl rfl) (pv 0) (pa_cons (pv 1) pa_nil)))) (pss_one (ps_raise rfl (takes_of rfl rfl rfl rfl) (pmk_own PySem.F.excBase_ValueError T.x_NoNumber.1 T.g_NoNumber T.x_NoNumber.2.1 (raises_own T.x_NoNumber.2.2.1 T.x_NoNumber.2.2.2) rfl))) pss_nil) (pss_cons (ps_if (pt_not (pt_val (pmeth rfl m_Audit_is_ballot hr (by first | decide | omega) (takes_of rfl rfl rfl rfl) (pv 0) (pa_cons (pv 2) pa_nil)))) (pss_one (ps_raise rfl (takes_of rfl rfl rfl rfl) (pmk_own PySem.F.excBase_ValueError T.x_NoBallot.1 T.g_NoBallot T.x_NoBallot.2.1 (raises_own T.x_NoBallot.2.2.1 T.x_NoBallot.2.2.2) rfl))) pss_nil) (pss_cons (ps_set (i := 3) sc_Audit_draw.nd rfl (Or.inl rfl) (pv 2)) (C8.pss_cut (ps_if (pt_cmpR op_isNU (pv 2) pe_non (nomark _)) (pss_one (ps_set (i := 3) sc_Audit_draw.nd rfl (Or.inl rfl) (pe_op (op_mulK (K := K) rfl) (pe_tup (pa_cons (C8.pe_gc (by rfl) T.c_LACKS) pa_nil)) (pe_callB (callK (K := K) (r := rLenU) rfl call_lenU) (by rfl) T.n_len (by decide +kernel) (pa_cons (pe_fldK (K := K) rfl (pv 0) rfl) pa_nil))))) pss_nil) (pss_cons (ps_setLc (i := 5) (own := [("sheet", 4), ("mark", 7)]) (g := (gTup _ 2 (gCons (gName 4) (gCons (gName 7) gNil)))) (by rfl) sc_Audit_draw.nd rfl rfl (sw_true rfl rfl rfl (by decide +kernel)) (pi_zipN (K := K) rfl (by rfl) T.n_zip (pa_cons (pe_fldK (K := K) rfl (pv 0) rfl) (pa_cons (pv 3) pa_nil))) (blkOk_by (own := [("sheet", 4), ("mark", 7)]) (N := ["self", "number", "ballot", "marks", "sheet", "rows", "games", "mark"]) (sc := defScope s_Audit_draw) (by decide +kernel)) (fun _ _ _ _ _ => (pg_tup rfl (pgs_cons (pg_name (i := 4) sc_Audit_draw.nd rfl (Or.inl rfl)) (pgs_cons (pg_name (i := 7) sc_Audit_draw.nd rfl (Or.inl rfl)) pgs_nil)))) (fun _ _ _ _ _ => pts_nil) (fun _ _ _ _ _ => (pmethN rfl m_Sheet_played hr (by first | decide | omega) (pv 4) (pa_cons (pv 1) (pa_cons (pv 7) pa_nil))))) (pss_cons (ps_for (passes_of rfl) rfl (pi_zipU (K := K) rfl (by rfl) T.n_zip (pa_cons (pe_fldK (K := K) rfl (pv 0) rfl) (pa_cons (pv 5) pa_nil))) (pg_tup rfl (pgs_cons (pg_name (i := 4) sc_Audit_draw.nd rfl (Or.inl rfl)) (pgs_cons (pg_name (i := 6) sc_Audit_draw.nd rfl (Or.inl rfl)) pgs_nil))) (pss_one (ps_fld (pv 4) (pv 6) rfl))) (pss_cons (ps_expr (pe_bmK (K := K) rfl PySem.F.plainAttrs_list PySem.F.slot_list_append PySem.F.type_list_append mt_append (pe_fldK (K := K) rfl (pv 0) rfl) (pa_cons (pv 1) pa_nil))) (pss_one (ps_ret (pmeth0 rfl m_Audit_verdict hr (by first | decide | omega) (takes_of rfl rfl rfl rfl) (pv 0)))))))))))), ?_⟩
    obtain ⟨a, F, A, i, v, o, rfl, h0, hv, ok, wok, cs⟩ := h
    have h0' := h0
    obtain ⟨dx, l, ln, sv, AA⟩ := h0'
    have sl := Paired.length AA.ss
    have nq : ∀ s ∈ A.ss, s.gs.length ≤ 1000 ∧ ∀ g ∈ s.gs, Au.LOk s.lim g := fun s hs => ⟨(ok.gs s hs).2, ok.lim s hs⟩
    have ml := Au.marks_len ok.bal
    walk_at "go"
    refine k_methx AA.ins (by walk_at "lz") ?_
    walk_at "go"
    have l60 := ok.len
    refine ⟨a, F, A, rfl, h0, by omega, nq, fun H1 s1 => ?_⟩
    walk_at "go"
    refine k_ifn (fun c => ?_) (fun c => ?_)
    · walk_at "go"
      rcases cs with ⟨_, ke⟩ | ⟨e, _⟩
      · exact ke H1 s1
      · exact absurd e c
    obtain ⟨_, kk⟩ : A.verdict = Str.ofString "on" ∧ ∀ H' G, Chg F H H' → (∀ x, G x → F x ∨ H x = none) → AAt K H' G a (A.draw i o) → Q (.str (A.draw i o).verdict) H' := by
      rcases cs with ⟨n, _⟩ | h
      · exact absurd c n
      · exact h
    replace AA := AA.kp (Kp.same s1)
    have h1 : AAt K H1 F a A := ⟨dx, l, ln, sv, AA⟩
    have hv1 := hv.same s1
    walk_at "go"
    refine k_methx AA.ins (by walk_at "lz") ?_
    walk_at "go"
    refine ⟨a, F, A, i, rfl, h1, ok.num, ?_⟩
    rw [ok.free]
    walk_at "go"
    refine k_methx AA.ins (by walk_at "lz") ?_
    walk_at "go"
    refine ⟨a, F, A, v, o, rfl, h1, hv1, ok.bal, by omega, fun H2 s2 => ?_⟩
    replace AA := AA.kp (Kp.same s2)
    have hv2 := hv1.same s2
    have s02 := s1.trans s2
    walk_at "go"
    refine k_cut (fun σ H' => ∃ (mp : Addr), σ = [some (.ref a), some (.int (i : Int)), some v, some (.ref mp), none, none, none, none] ∧ Same H2 H' ∧ SqT K H' mp ((Au.marksOf A.ss.length o).map Cm.mv)) ?_ ?_
    · cases o with
      | none =>
        obtain rfl : v = .non := hv2
        walk_at "go"
        refine k_tupx (fun t0 H3 n3 s3 ht0 => ?_) (by simp [sizeLine_eq])
        walk_at "go"
        refine k_fldx (s3 _ _ AA.ins) T.cl_Audit T.f_Audit_sheets (by walk_at "lk") ?_
        walk_at "go"
        refine k_lenL ?_ (SqL.of (s3 _ _ AA.sl))
        refine k_mulRT (k := sv.length) (SqT.of ht0) (by have := ok.pos; omega) (by omega) (fun mp H4 s4 hmp => ?_)
        walk_at "go"
        refine ⟨mp, rfl, s3.trans s4, ?_⟩
        show SqT K H4 mp ((List.replicate A.ss.length Au.q).map Cm.mv)
        rw [sl] at hmp
        simpa [Cm.mv, Au.q] using hmp
      | some ms =>
        obtain ⟨mp, rfl, hmp⟩ := hv2
        walk_at "go"
        exact ⟨mp, rfl, Same.refl _, hmp⟩
    rintro σ H3 ⟨mp, rfl, s3, hmp⟩
    replace AA := AA.kp (Kp.same s3)
    have s03 := s02.trans s3
    walk_at "go"
    refine k_fldx AA.ins T.cl_Audit T.f_Audit_sheets (by walk_at "lk") ?_
    walk_at "go"
    refine k_zipNx (SqL.of AA.sl) hmp ?_
    have n3 : ∀ x, F x → H3 x ≠ none := fun x f => (Kp.same s3).some f ((Kp.same s2).some f ((Kp.same s1).some f (by obtain ⟨_, _, _, _, A0⟩ := h0; exact A0.live x f)))
    refine k_lcP (zipN_it (xs := sv) (ys := (Au.marksOf A.ss.length o).map Cm.mv) (by rw [List.length_map]; omega)) (fun D j ys H' => Same H3 H' ∧ ys.length = j ∧ Rows K H3 H' D i ys ((A.ss.take j).zip ((Au.marksOf A.ss.length o).take j))) (fun D H' nD sD hD => ⟨sD, rfl, .nil⟩) (fun D j ys H' nD h => ⟨SqL.of (h.1 _ _ AA.sl), seqT_same h.1 hmp⟩) ?_ ?_
    · rintro D j Tt ys G1 G2 nD hj ⟨sG, yl, hr⟩ nT sT hT hD
      obtain ⟨x1, s, e1, e2, hs⟩ := paired_at AA.ss hj
      have hj' : j < (Au.marksOf A.ss.length o).length := by omega
      have e3 : (Au.marksOf A.ss.length o)[j]? = some ((Au.marksOf A.ss.length o)[j]'hj') := List.getElem?_eq_getElem hj'
      generalize (Au.marksOf A.ss.length o)[j]'hj' = m at e3
      have g1 : sv.getD j .non = x1 := by rw [List.getD_eq_getElem?_getD, e1]; rfl
      have g2 : ((Au.marksOf A.ss.length o).map Cm.mv).getD j .non = Cm.mv m := by rw [List.getD_eq_getElem?_getD, List.getElem?_map, e3]; rfl
      rw [g1, g2] at hT
      have sL := sG.trans sT
      have hs2 := hs.kp (Kp.same sL)
      have hsm := List.mem_of_getElem? e2
      refine k_lcT ?_
      refine k_gtup (SqT.of hT) rfl ?_
      walk_at "go"
      refine ⟨rfl, ?_⟩
      walk_at "go"
      obtain ⟨sa, sx, p1, q1, lw, lg, wv, gv, rfl, S⟩ := id hs2
      refine k_methx S.ins (by walk_at "lz") ?_
      walk_at "go"
      refine ⟨.ref sa, _, s, i, m, rfl, hs2, (ok.gs s hsm).1, (ok.gs s hsm).2, wok s hsm, fun k w g hw hg => ok.fits j k s m w g e2 e3 hw hg, fun D2 gv2 H4 s4 nD2 hD2 hgv => ?_⟩
      have hD4 := s4 _ _ hD
      have nDD : D2 ≠ D := fun e => by subst e; rw [hD] at nD2; cases nD2
      refine ⟨_, hD4, (by rw [sizeLine_eq]; omega), _, ⟨But.same nD (sL.trans s4) But.upd, by simp [yl], ?_⟩, upd_same⟩
      rw [zip_take e2 e3]
      have kp : Kp (fun x => x ≠ D) H4 (upd H4 D (.lst (ys ++ [.ref D2]))) := ⟨imm_but But.upd hD4, fun x o n h => But.upd _ _ n h, fun x C dx fs _ h => But.upd _ _ (ne_of h hD4 (by intro z; cases z)) h⟩
      refine paired_add ?_ ((hr.kp (Kp.same (sT.trans s4))).kp kp)
      refine ⟨D2, gv2, rfl, But.upd _ _ nDD hD2, sL.free nD2, nDD, ?_⟩
      have h4 : Paired (GmAt K H4 fun x => H3 x = none ∧ x ≠ D ∧ H4 x ≠ none) gv2 (Au.playW i m s.ws s.gs) := paired_map (fun _ _ h => h.sub fun x z => ⟨sL.free z.1, (fun e => by
        have z1 := z.1
        rw [e, hD] at z1
        cases z1), z.2.2⟩) hgv
      exact paired_map (fun _ _ h => (h.kp (kp.mono fun x z => z.2.1)).sub fun x z => ⟨z.1, z.2.1, kp.some z.2.1 z.2.2⟩) h4
    rintro D rows H4 nD ⟨s4, rl, hr⟩ hD
    rw [List.take_of_length_le (by omega), List.take_of_length_le (by omega)] at hr
    replace AA := AA.kp (Kp.same s4)
    have s04 := s03.trans s4
    walk_at "go"
    refine k_fldx AA.ins T.cl_Audit T.f_Audit_sheets (by walk_at "lk") ?_
    walk_at "go"
    refine k_zipLx (SqL.of AA.sl) (SqL.of hD) ?_
    have hdraw : (A.draw i o).ss = List.zipWith (fun s m => s.play i m) A.ss (Au.marksOf A.ss.length o) := rfl
    have nlF : ∀ x, H3 x = none → ¬ F x := fun x n f => n3 x f n
    refine k_loopP (zip_it (by omega)) (fun j σ H' => ∃ t1 t2 : Option V, σ = [some (.ref a), some (.int (i : Int)), some v, some (.ref mp), t1, some (.ref D), t2, none] ∧ Kp (IsL H4) H4 H' ∧ (∀ x o, ¬ F x → H4 x = some o → H' x = some o) ∧ (∀ x, H4 x ≠ none → H' x ≠ none) ∧
        (∀ (k : Nat) (x : Addr) (o : HO), j ≤ k → sv[k]? = some (V.ref x) → H4 x = some o → H' x = some o) ∧ Paired (SAt K H' fun x => F x ∧ x ≠ ln ∨ H3 x = none ∧ x ≠ D ∧ H4 x ≠ none) (sv.take j) ((A.draw i o).ss.take j))
      ⟨_, _, rfl, Kp.same (Same.refl _), fun _ _ _ h => h, fun _ h => h, fun _ _ _ _ _ h => h, .nil⟩ (fun j σ' H' ⟨_, _, _, P, _⟩ => ⟨SqL.of (P.own _ _ ⟨_, AA.sl⟩ AA.sl), SqL.of (P.own _ _ ⟨_, hD⟩ hD)⟩) ?_ ?_
    · rintro j Tt σ G1 G2 hj ⟨t1, t2, rfl, P1, P2, P3, P4, P5⟩ nT sT hT
      obtain ⟨x1, s, e1, e2, sa, sx, p1, q1, lw, lg, wv, gv, rfl, S⟩ := paired_at AA.ss hj
      obtain ⟨v2, sm, e3, e4, d, gv2, rfl, hd, nd3, ndD, hgv⟩ := paired_at hr (i := j) (by omega)
      obtain ⟨s', m⟩ := sm
      rw [List.getElem?_zip_eq_some] at e4
      obtain ⟨e5, e6⟩ := e4
      rw [e2] at e5
      obtain rfl := Option.some.inj e5
      have g1 : sv.getD j .non = .ref sa := by rw [List.getD_eq_getElem?_getD, e1]; rfl
      have g2 : rows.getD j .non = .ref d := by rw [List.getD_eq_getElem?_getD, e3]; rfl
      rw [g1, g2] at hT
      have i2 : G2 sa = some (.ins (He.ga K "Sheet") sx [("names", .ref p1), ("limit", .ref q1), ("ways", .ref lw), ("games", .ref lg)]) := sT _ _ (P4 j sa _ (Nat.le_refl _) e1 S.ins)
      refine k_gtup (SqT.of hT) rfl ?_
      walk_at "go"
      refine k_sfldx i2 T.cl_Sheet T.f_Sheet_games (fun G3 b3 h3 => ?_) (by walk_at "pl")
      replace h3 : G3 sa = some (.ins (He.ga K "Sheet") sx [("names", .ref p1), ("limit", .ref q1), ("ways", .ref lw), ("games", .ref d)]) := by rw [h3]; walk_at "pf"
      have k42 : Kp (IsL H4) H4 G2 := P1.trans (Kp.same sT)
      have k23 : Kp (IsL G2) G2 G3 := kpL b3 i2 rfl
      have k43 : Kp (IsL H4) H4 G3 := k42.trans (k23.mono fun x ⟨xs, h⟩ => ⟨xs, k42.own _ _ ⟨xs, h⟩ h⟩)
      have sF := S.fa
      have hdr := Au.draw_get (i := i) e2 e6
      refine ⟨_, _, rfl, k43, fun x o nf h => b3 _ _ (fun z => nf (z ▸ sF.1)) (sT _ _ (P2 x o nf h)), fun x h z => ?_, fun k x o hk hx h => b3 _ _ (fun z => ?_) (sT _ _ (P4 k x o (by omega) hx h)), ?_⟩
      · by_cases hxs : x = sa
        · rw [hxs, h3] at z; cases z
        · cases q : G2 x with
          | none => exact (Kp.same sT (F := fun _ => True)).some trivial (P3 x h) q
          | some o => rw [b3 _ _ hxs q] at z; cases z
      · subst z
        have h1 := (List.getElem?_eq_some_iff.mp hx)
        have h2 := (List.getElem?_eq_some_iff.mp e1)
        have := nodup_inj AA.nd h1.1 h2.1 (h1.2.trans h2.2.symm)
        omega
      · rw [take_snoc e1, take_snoc hdr]
        refine paired_add ?_ ?_
        · refine ⟨sa, sx, p1, q1, lw, d, wv, gv2, rfl, SB.sa ?_ h3 (.inl sF)⟩
          exact SB.kp ⟨S.names, S.lim, S.wl, paired_map (fun _ _ h => h.sub fun _ z => .inl z) S.ws, hd, paired_map (fun _ _ h => h.sub fun _ z => .inr z) hgv, .inl S.fw, .inr ⟨nd3, ndD, by rw [hd]; simp⟩⟩ k43
        · obtain ⟨h1, h2⟩ := List.getElem?_eq_some_iff.mp e1
          have mem : ∀ v, v ∈ sv.take j → v ≠ V.ref sa := fun v hv z => by
            subst z
            obtain ⟨k, hk, hk2⟩ := List.getElem_of_mem hv
            rw [List.length_take] at hk
            rw [List.getElem_take] at hk2
            have := nodup_inj AA.nd (by omega) h1 (hk2.trans h2.symm)
            omega
          exact paired_mem (fun v s hv h => (h.kp (Kp.same sT)).beside b3 i2 rfl (mem v hv)) P5
    rintro σ H5 ⟨t1, t2, rfl, P1, P2, P3, _, P5⟩
    have hsl : (A.draw i o).ss.length = A.ss.length := by rw [hdraw, List.length_zipWith]; omega
    rw [List.take_of_length_le (Nat.le_refl _), List.take_of_length_le (by omega)] at P5
    have h5 := P1.ins _ _ _ _ (by simp) AA.ins
    have hn5 := P1.own _ _ ⟨_, AA.nl⟩ AA.nl
    walk_at "go"
    refine k_fldx h5 T.cl_Audit T.f_Audit_numbers (by walk_at "lk") ?_
    refine ⟨k_app0 hn5, ?_⟩
    have few := ok.few
    walk_at "go"
    refine k_app1 hn5 (by rw [sizeLine_eq, List.length_map]; omega) (fun H6 b6 hn6 => ?_)
    have nln : H3 ln ≠ none := n3 ln AA.fn
    have kp6 : Kp (fun x => (F x ∨ H3 x = none ∧ x ≠ D ∧ H4 x ≠ none) ∧ x ≠ ln) H5 H6 := Kp.but b6 hn5 (fun z => z.2 rfl)
    have i6 := kp6.ins _ _ _ _ (by simp) h5
    have AA6 : Lw.AA K H6 (fun x => F x ∨ H3 x = none ∧ x ≠ D ∧ H4 x ≠ none) a (A.draw i o) dx l ln sv := ⟨i6, kp6.own _ _ ⟨.inl AA.fl.1, AA.fl.2⟩ (P1.own _ _ ⟨_, AA.sl⟩ AA.sl), paired_map (fun _ _ h => (h.sub fun x z => (by
        rcases z with z | z
        · exact ⟨.inl z.1, z.2⟩
        · exact ⟨.inr z, fun e => nln (e ▸ z.1)⟩ : (F x ∨ H3 x = none ∧ x ≠ D ∧ H4 x ≠ none) ∧ x ≠ ln)).kp kp6) P5, AA.nd, by rw [hn6, Au.draw_nums, List.map_append]; rfl, ⟨.inl AA.fl.1, AA.fl.2⟩, .inl AA.fn, fun x z => by
        have h4 : H4 x ≠ none := by
          rcases z with z | z
          · exact AA.live x z
          · exact z.2.2
        by_cases e : x = ln
        · rw [e, hn6]; simp
        · cases q : H5 x with
          | none => exact absurd q (P3 x h4)
          | some o => rw [b6 _ _ e q]; simp⟩
    have chg : Chg F H H6 := ((Chg.same s04).trans ⟨P1.imm, P2, P1.ins⟩).trans ⟨imm_but b6 hn5, fun x o nf h => b6 _ _ (fun z => nf (z ▸ AA.fn)) h, fun x C dx fs n h => b6 _ _ (ne_of h hn5 (by intro z; cases z)) h⟩
    walk_at "go"
    refine k_methx i6 (by walk_at "lz") ?_
    walk_at "go"
    refine ⟨a, _, _, rfl, ⟨dx, l, ln, sv, AA6⟩, by omega, fun s hs => ⟨?_, ok.lim2 s hs⟩, fun H7 s7 => ?_⟩
    · rw [hdraw] at hs
      obtain ⟨k, hk, rfl⟩ := List.getElem_of_mem hs
      rw [List.length_zipWith] at hk
      rw [List.getElem_zipWith]
      have := ok.gs (A.ss[k]'(by omega)) (List.getElem_mem _)
      show (Au.playW _ _ _ _).length ≤ 1000
      rw [Au.play_len this.1]
      exact this.2
    exact kk H7 _ (chg.trans (Chg.same s7)) (fun x z => z.imp id fun z => s03.free z.1) (AAt.same ⟨dx, l, ln, sv, AA6⟩ s7)
end
end Lw
namespace Lw
open PySem PySem.Spec PyProof.Rows L2 Gx
section
variable {P : Program} {w : World} {K : PySem.W.Frag} {mg : Str → Option Value} {base : Heap} {f : Addr} {fd : FuncData}
theorem ok_Claim_value (F : FnP K "value" "Claim.value" s_Claim_value f fd) (T : Txt K mg) (m_Beats_value_of : MCl P w K mg base 1 "Beats" "value_of" ["self", "mark"] (sp_Beats_value_of K)) (m_Claim_value_of : MCl P w K mg base 1 "Claim" "value_of" ["self", "mark"] (sp_Claim_value_of K)) : FnOk P w K mg base (L2.CX P w) 2 f fd ["self", "mark"] (sp_Claim_value K) := by
  refine F.ok sc_Claim_value (fun vs H Q E h => ?_) (fun cdv A outer s H vs Q E hr h => ?_)
  · obtain ⟨a, m, c, n, rfl, _⟩ := h; rfl
  · refine ⟨_, (pss_cons (ps_if (pt_cmpR (op_eqK (K := K) rfl hr) (pv 1) pe_str (nomark _)) (pss_one (ps_ret (C8.pe_gc (by rfl) T.c_NOUGHT_claims))) pss_nil) (pss_one (ps_ret (pe_or2 (pmeth rfl m_Claim_value_of hr (by first | decide | omega) (takes_of rfl rfl rfl rfl) (pv 0) (pa_cons (pv 1) pa_nil)) (pmeth rfl m_Beats_value_of hr (by first | decide | omega) (takes_of rfl rfl rfl rfl) (pv 0) (pa_cons (pv 1) pa_nil)))))), ?_⟩
    obtain ⟨a, m, c, n, rfl, hc, fam, ok, hn, kk⟩ := h
    walk_at "go"
    refine Cm.k_eqM ?_
    walk_at "go"
    refine k_if (fun c1 => ?_) (fun c1 => ?_)
    · walk_at "go"
      refine kk _ H (Same.refl H) ?_
      rw [show Cm.value c m = 0 from if_pos c1, Cm.fq0]
      exact T.t_NOUGHT_claims H
    have e : Cm.value c m = Cm.valueOf c m := if_neg c1
    walk_at "st"
    refine k_ret (k_mF (a := a) (c := c) fam (fun Q' h => ?_) hc ?_)
    · walk_at "go"
      exact h
    walk_at "go"
    cases c with
    | claim => exact ⟨a, m, _, n, rfl, hc, ok, hn, rfl, fun p H1 s1 hp => kk p H1 s1 (by rw [e]; exact hp)⟩
    | beats o t => exact ⟨a, m, _, n, rfl, hc, ok, hn, ⟨o, t, rfl⟩, fun p H1 s1 hp => kk p H1 s1 (by rw [e]; exact hp)⟩
    | over k s => first | exact fam.elim | exact ⟨a, m, _, n, rfl, hc, ok, hn, ⟨k, s, rfl⟩, fun p H1 s1 hp => kk p H1 s1 (by rw [e]; exact hp)⟩
    | under k s => first | exact fam.elim | exact ⟨a, m, _, n, rfl, hc, ok, hn, ⟨k, s, rfl⟩, fun p H1 s1 hp => kk p H1 s1 (by rw [e]; exact hp)⟩
end
end Lw
namespace Lw
open PySem PySem.Spec PyProof.Rows L2 Gx
section
variable {P : Program} {w : World} {K : PySem.W.Frag} {mg : Str → Option Value} {base : Heap} {f : Addr} {fd : FuncData}
theorem ok_Claim_value_of (F : FnP K "value_of" "Claim.value_of" s_Claim_value_of f fd) (T : Txt K mg) : FnOk P w K mg base (L2.CX P w) 1 f fd ["self", "mark"] (sp_Claim_value_of K) := by
  refine F.ok sc_Claim_value_of (fun vs H Q E h => ?_) (fun cdv A outer s H vs Q E hr h => ?_)
  · obtain ⟨a, m, c, n, rfl, _⟩ := h; rfl
  · refine ⟨_, (pss_one (ps_ret (C8.pe_gc (by rfl) T.c_HALF))), ?_⟩
    obtain ⟨a, m, c, n, rfl, hc, ok, hn, rfl, kk⟩ := h
    walk_at "go"
    refine kk _ H (Same.refl H) ?_
    rw [show Cm.valueOf .claim m = 1/2 from rfl, Cm.fqh]
    exact T.t_HALF H
end
end Lw
namespace Lw
open PySem PySem.Spec PyProof.Rows L2 Gx
section
variable {P : Program} {w : World} {K : PySem.W.Frag} {mg : Str → Option Value} {base : Heap} {f : Addr} {fd : FuncData}
theorem ok_Claim_greatest (F : FnP K "greatest" "Claim.greatest" s_Claim_greatest f fd) (T : Txt K mg) : FnOk P w K mg base (L2.CX P w) 1 f fd ["self"] (sp_Claim_greatest K) := by
  refine F.ok sc_Claim_greatest (fun vs H Q E h => ?_) (fun cdv A outer s H vs Q E hr h => ?_)
  · obtain ⟨a, c, n, rfl, _⟩ := h; rfl
  · refine ⟨_, (pss_one (ps_ret (C8.pe_gc (by rfl) T.c_HALF))), ?_⟩
    obtain ⟨a, c, n, rfl, hc, ok, hn, rfl, kk⟩ := h
    walk_at "go"
    refine kk _ H (Same.refl H) ?_
    rw [show Cm.greatest .claim = 1/2 from rfl, Cm.fqh]
    exact T.t_HALF H
end
end Lw
namespace Lw
open PySem PySem.Spec PyProof.Rows L2 Gx
section
variable {P : Program} {w : World} {K : PySem.W.Frag} {mg : Str → Option Value} {base : Heap} {f : Addr} {fd : FuncData}
theorem ok_Beats___init__ (F : FnP K "__init__" "Beats.__init__" s_Beats___init__ f fd) (T : Txt K mg) : FnOk P w K mg base (L2.CX P w) 1 f fd ["self", "one", "other"] (sp_Beats___init__ K) := by
  refine F.ok sc_Beats___init__ (fun vs H Q E h => ?_) (fun cdv A outer s H vs Q E hr h => ?_)
  · obtain ⟨a, dx, u0, u1, rfl, _⟩ := h; rfl
  · refine ⟨_, (pss_cons (ps_fld (pv 0) (pv 1) rfl) (pss_one (ps_fld (pv 0) (pv 2) rfl))), ?_⟩
    obtain ⟨a, dx, u0, u1, rfl, h0, kk⟩ := h
    walk_at "go"
    refine k_sfldx h0 T.cl_Beats T.f_Beats_one (fun H1 b1 h1 => ?_) (by walk_at "pl")
    walk_at "go"
    refine k_sfldx h1 T.cl_Beats T.f_Beats_other (fun H2 b2 h2 => ?_) (by walk_at "pl")
    walk_at "go"
    exact kk H2 (b1.trans b2) (by rw [h2]; walk_at "pf")
end
end Lw
namespace Lw
open PySem PySem.Spec PyProof.Rows L2 Gx
section
variable {P : Program} {w : World} {K : PySem.W.Frag} {mg : Str → Option Value} {base : Heap} {f : Addr} {fd : FuncData}
theorem ok_Beats_value_of (F : FnP K "value_of" "Beats.value_of" s_Beats_value_of f fd) (T : Txt K mg) : FnOk P w K mg base (L2.CX P w) 1 f fd ["self", "mark"] (sp_Beats_value_of K) := by
  refine F.ok sc_Beats_value_of (fun vs H Q E h => ?_) (fun cdv A outer s H vs Q E hr h => ?_)
  · obtain ⟨a, m, c, n, rfl, _⟩ := h; rfl
  · refine ⟨_, (pss_cons (ps_if (pt_cmpR (op_eqK (K := K) rfl hr) (pv 1) (pe_fldK (K := K) rfl (pv 0) rfl) (nomark _)) (pss_one (ps_ret (C8.pe_gc (by rfl) T.c_ONE_claims))) pss_nil) (pss_cons (ps_if (pt_cmpR (op_eqK (K := K) rfl hr) (pv 1) (pe_fldK (K := K) rfl (pv 0) rfl) (nomark _)) (pss_one (ps_ret (C8.pe_gc (by rfl) T.c_NOUGHT_claims))) pss_nil) (pss_one (ps_ret (C8.pe_gc (by rfl) T.c_HALF))))), ?_⟩
    obtain ⟨a, m, c, n, rfl, hc, ok, hn, ⟨o, t, rfl⟩, kk⟩ := h
    obtain ⟨dx, hi⟩ := hc
    have kk : ∀ p H', Same H H' → SqT K H' p (Fr.fq (if m = some o then 1 else if m = some t then 0 else 1/2)) → Q (.ref p) H' := kk
    walk_at "go"
    refine k_fldx hi T.cl_Beats T.f_Beats_one (by walk_at "lk") ?_
    walk_at "go"
    refine Cm.k_eqM ?_
    walk_at "go"
    refine k_if (fun c1 => ?_) (fun c1 => ?_)
    · walk_at "go"
      refine kk _ H (Same.refl H) ?_
      rw [if_pos c1, Cm.fq1]
      exact T.t_ONE_claims H
    · walk_at "go"
      refine k_fldx hi T.cl_Beats T.f_Beats_other (by walk_at "lk") ?_
      walk_at "go"
      refine Cm.k_eqM ?_
      walk_at "go"
      refine k_if (fun c2 => ?_) (fun c2 => ?_)
      · walk_at "go"
        refine kk _ H (Same.refl H) ?_
        rw [if_neg c1, if_pos c2, Cm.fq0]
        exact T.t_NOUGHT_claims H
      · walk_at "go"
        refine kk _ H (Same.refl H) ?_
        rw [if_neg c1, if_neg c2, Cm.fqh]
        exact T.t_HALF H
end
end Lw
namespace Lw
open PySem PySem.Spec PyProof.Rows L2 Gx
section
variable {P : Program} {w : World} {K : PySem.W.Frag} {mg : Str → Option Value} {base : Heap} {f : Addr} {fd : FuncData}
theorem ok_Beats_greatest (F : FnP K "greatest" "Beats.greatest" s_Beats_greatest f fd) (T : Txt K mg) : FnOk P w K mg base (L2.CX P w) 1 f fd ["self"] (sp_Beats_greatest K) := by
  refine F.ok sc_Beats_greatest (fun vs H Q E h => ?_) (fun cdv A outer s H vs Q E hr h => ?_)
  · obtain ⟨a, c, n, rfl, _⟩ := h; rfl
  · refine ⟨_, (pss_one (ps_ret (C8.pe_gc (by rfl) T.c_ONE_claims))), ?_⟩
    obtain ⟨a, c, n, rfl, hc, ok, hn, ⟨o, t, rfl⟩, kk⟩ := h
    walk_at "go"
    refine kk _ H (Same.refl H) ?_
    rw [show Cm.greatest (.beats o t) = 1 from rfl, Cm.fq1]
    exact T.t_ONE_claims H
end
end Lw
namespace Lw
open PySem PySem.Spec PyProof.Rows L2 Gx
section
variable {P : Program} {w : World} {K : PySem.W.Frag} {mg : Str → Option Value} {base : Heap} {f : Addr} {fd : FuncData}
theorem ok_Contest___init__ (F : FnP K "__init__" "Contest.__init__" s_Contest___init__ f fd) (T : Txt K mg) : FnOk P w K mg base (L2.CX P w) 1 f fd ["self", "names"] (sp_Contest___init__ K) := by
  refine F.ok sc_Contest___init__ (fun vs H Q E h => ?_) (fun cdv A outer s H vs Q E hr h => ?_)
  · obtain ⟨a, C, dx, u, rfl, _⟩ := h; rfl
  · refine ⟨_, (pss_one (ps_fld (pv 0) (pv 1) rfl)), ?_⟩
    obtain ⟨a, C, dx, u, rfl, h0, hc, hn, kk⟩ := h
    walk_at "go"
    refine k_sfldx h0 hc hn (fun H1 b1 h1 => ?_) (by walk_at "pl")
    walk_at "go"
    exact kk H1 b1 (by rw [h1]; walk_at "pf")
end
end Lw
namespace Lw
open PySem PySem.Spec PyProof.Rows L2 Gx
section
variable {P : Program} {w : World} {K : PySem.W.Frag} {mg : Str → Option Value} {base : Heap} {f : Addr} {fd : FuncData}
theorem ok_Contest_named (F : FnP K "named" "Contest.named" s_Contest_named f fd) (T : Txt K mg) : FnOk P w K mg base (L2.CX P w) 1 f fd ["self"] (sp_Contest_named K) := by
  refine F.ok sc_Contest_named (fun vs H Q E h => ?_) (fun cdv A outer s H vs Q E hr h => ?_)
  · obtain ⟨a, C, dx, fs, v, rfl, _⟩ := h; rfl
  · refine ⟨_, (pss_one (ps_ret (pe_fldK (K := K) rfl (pv 0) rfl))), ?_⟩
    obtain ⟨a, C, dx, fs, v, rfl, ha, hc, hn, hl, kk⟩ := h
    walk_at "go"
    refine k_fldx ha hc hn hl ?_
    walk_at "go"
    exact kk
end
end Lw
namespace Lw
open PySem PySem.Spec PyProof.Rows L2 Gx
section
variable {P : Program} {w : World} {K : PySem.W.Frag} {mg : Str → Option Value} {base : Heap} {f : Addr} {fd : FuncData}
theorem ok_Most___init__ (F : FnP K "__init__" "Most.__init__" s_Most___init__ f fd) (T : Txt K mg) (s_Contest___init__ : SCl P w K mg base 1 "Contest" "__init__" ["self", "names"] (sp_Contest___init__ K)) : FnOk P w K mg base (L2.CX P w) 2 f fd ["self", "names", "seats"] (sp_Most___init__ K) := by
  refine F.ok sc_Most___init__ (fun vs H Q E h => ?_) (fun cdv A outer s H vs Q E hr h => ?_)
  · obtain ⟨a, dx, u0, u1, rfl, _⟩ := h; rfl
  · refine ⟨_, (pss_cons (ps_expr (psup s_Contest___init__ hr (by first | decide | omega) (pa_cons (pv 0) (pa_cons (pv 1) pa_nil)))) (pss_one (ps_fld (pv 0) (pv 2) rfl))), ?_⟩
    obtain ⟨a, dx, u0, u1, rfl, h0, kk⟩ := h
    walk_at "go"
    refine ⟨a, _, dx, u0, rfl, h0, T.cl_Most, T.f_Most_names, fun H1 b1 h1 => ?_⟩
    walk_at "go"
    refine k_sfldx h1 T.cl_Most T.f_Most_seats (fun H2 b2 h2 => ?_) (by walk_at "pl")
    walk_at "go"
    exact kk H2 (b1.trans b2) (by rw [h2]; walk_at "pf")
end
end Lw
namespace Lw
open PySem PySem.Spec PyProof.Rows L2 Gx
section
variable {P : Program} {w : World} {K : PySem.W.Frag} {mg : Str → Option Value} {base : Heap} {f : Addr} {fd : FuncData}
theorem ok_Most_claims (F : FnP K "claims" "Most.claims" s_Most_claims f fd) (T : Txt K mg) (k_Beats : KCl P w K mg base 1 "Beats" ["self", "one", "other"] (sp_Beats___init__ K)) : FnOk P w K mg base (L2.CX P w) 3 f fd ["self", "outcome"] (sp_Most_claims K) := by
  refine F.ok sc_Most_claims (fun vs H Q E h => ?_) (fun cdv A outer s H vs Q E hr h => ?_)
  · obtain ⟨a, dx, p, q, ns, os, k, rfl, _⟩ := h; rfl
  · refine ⟨_, (pss_cons (ps_if (PW.pt (pw_or (pt_not (pt_val (pe_callB (callK (K := K) (r := rIsi) rfl call_isi) (by rfl) T.n_isinstance (by decide +kernel) (pa_cons (pv 1) (pa_cons (pe_bltn (v := .ty "tuple") (by rfl) T.n_tuple (by decide +kernel) rfl) pa_nil))))) (pw_or1 (pt_cmpR (op_neK (K := K) rfl hr) (pe_callB (callK (K := K) (r := rLenU) rfl call_lenU) (by rfl) T.n_len (by decide +kernel) (pa_cons (pv 1) pa_nil)) (pe_fldK (K := K) rfl (pv 0) rfl) (nomark _))))) (pss_one (ps_raise rfl (takes_of rfl rfl rfl rfl) (pmk_own PySem.F.excBase_ValueError T.x_NoOutcome.1 T.g_NoOutcome T.x_NoOutcome.2.1 (raises_own T.x_NoOutcome.2.2.1 T.x_NoOutcome.2.2.2) rfl))) pss_nil) (pss_cons (ps_if (pt_cmpR (op_neK (K := K) rfl hr) (pv 1) (pe_callTy (callK (K := K) (r := rTupV) rfl call_tupV) (by rfl) T.n_tuple (by decide +kernel) (pa_cons (pe_lc (own := [("name", 5)]) (g := gName 5) (by rfl) sc_Most_claims.nd (pi_seqU (pe_fldK (K := K) rfl (pv 0) rfl)) (blkOk_by (own := [("name", 5)]) (N := ["self", "outcome", "found", "one", "other", "name"]) (sc := defScope s_Most_claims) (by decide +kernel)) (fun _ _ _ _ _ => pg_name (i := 5) sc_Most_claims.nd rfl (Or.inl rfl)) (fun _ _ _ _ _ => (pts_one (pt_cmpR (op_inUK (K := K) rfl hr) (pv 5) (pv 1) (by with_unfolding_all rfl)))) (fun _ _ _ _ _ => (pv 5))) pa_nil)) (nomark _)) (pss_one (ps_raise rfl (takes_of rfl rfl rfl rfl) (pmk_own PySem.F.excBase_ValueError T.x_NoOutcome.1 T.g_NoOutcome T.x_NoOutcome.2.1 (raises_own T.x_NoOutcome.2.2.1 T.x_NoOutcome.2.2.2) rfl))) pss_nil) (pss_cons (ps_set (i := 2) sc_Most_claims.nd rfl (Or.inl rfl) (pe_lst pa_nil)) (pss_cons (ps_for (passes_of rfl) rfl (pi_seqU (pv 1)) (pg_name (i := 3) sc_Most_claims.nd rfl (Or.inl rfl)) (pss_one (ps_for (passes_of rfl) rfl (pi_seqU (pe_fldK (K := K) rfl (pv 0) rfl)) (pg_name (i := 4) sc_Most_claims.nd rfl (Or.inl rfl)) (pss_one (ps_if (pt_cmpR (op_niUK (K := K) rfl hr) (pv 4) (pv 1) (by with_unfolding_all rfl)) (pss_one (ps_expr (pe_bmK (K := K) rfl PySem.F.plainAttrs_list PySem.F.slot_list_append PySem.F.type_list_append mt_append (pv 2) (pa_cons (pmake rfl k_Beats hr (by first | decide | omega) (pa_cons (pv 3) (pa_cons (pv 4) pa_nil))) pa_nil)))) pss_nil))))) (pss_one (ps_ret (pv 2))))))), ?_⟩
    obtain ⟨a, dx, p, q, ns, os, k, rfl, ha, hp, hq, n60, o60, hnm, hok, kk, ke⟩ := h
    walk_at "go"
    refine k_isi (.ty "tuple") (ty_tup hq) (kit_ty (r := true) (by decide +kernel)) ?_
    walk_at "go"
    refine k_lenT ?_ hq
    rw [List.length_map]
    walk_at "go"
    refine k_fldx ha T.cl_Most T.f_Most_seats (by walk_at "lk") ?_
    walk_at "go"
    refine k_ifn (fun c => ?_) (fun c => ?_)
    · walk_at "go"
      exact ke (fun z => c (by rw [z.1])) H (Same.refl H)
    walk_at "go"
    refine k_fldx ha T.cl_Most T.f_Most_names (by walk_at "lk") ?_
    walk_at "go"
    refine k_lcU (.inr hp) (fun D i ys H' => ys = ((ns.take i).filter (Co.has os)).map V.str ∧ Same H H') (fun D H' nD sD hD => ⟨rfl, sD⟩) (fun D i ys H' nD h => h.2) ?_ ?_
    · rintro D i x ys H' nD hx ⟨rfl, s⟩ hD
      obtain ⟨n, hn, rfl⟩ := Cm.get_map hx
      have hlen : ((ns.take i).filter (Co.has os)).length ≤ 60 := Nat.le_trans (List.length_filter_le ..) (by rw [List.length_take]; omega)
      refine k_lcB rfl ?_
      walk_at "go"
      refine Co.k_has (.inr (seqT_same s hq)) ?_
      walk_at "go"
      refine k_ifb (fun c => ?_) (fun c => ?_)
      · walk_at "go"
        refine ⟨_, hD, (by rw [sizeLine_eq, List.length_map]; omega), _, ⟨?_, But.same nD s But.upd⟩, upd_same⟩
        rw [take_snoc hn, List.filter_append]
        simp [c]
      · refine ⟨_, ⟨?_, s⟩, hD⟩
        rw [take_snoc hn, List.filter_append]
        simp [c]
    rintro D ys H1 nD ⟨rfl, s1⟩ hD
    rw [List.length_map, List.take_of_length_le (Nat.le_refl _)] at hD
    walk_at "go"
    refine k_tupL (SqL.of hD) (fun w H2 nw s2 hw => ?_)
    have sh1 : SeqAt.shaped (.tuple (os.map .str)) = true := Dt.Sh.ok (k := 1) (Dt.sh_tup fun x hx => by
      obtain ⟨n, hn, rfl⟩ := List.mem_map.mp hx
      exact Dt.sh_str (hok n hn))
    have sh2 : SeqAt.shaped (.tuple ((ns.filter (Co.has os)).map .str)) = true := Dt.Sh.ok (k := 1) (Dt.sh_tup fun x hx => by
      obtain ⟨n, hn, rfl⟩ := List.mem_map.mp hx
      exact Dt.sh_str (hnm n (List.mem_filter.mp hn).1).ok)
    have s12 := s1.trans s2
    walk_at "go"
    refine k_neD (.tup (seqT_same s12 hq) (Dt.strz os)) (.tup (SqT.of hw) (Dt.strz _)) ?_ sh1 sh2
    rw [Co.eqv_tup]
    walk_at "go"
    refine k_ifn (fun c2 => ?_) (fun c2 => ?_)
    · walk_at "go"
      exact ke (fun z => c2 z.2) H2 s12
    have fits : Co.fit ns k os := ⟨by omega, c2⟩
    walk_at "go"
    refine k_lstx (fun f H3 nf s3 hf => ?_) (by simp)
    walk_at "go"
    have s03 := s12.trans s3
    have nf0 : H f = none := s12.free nf
    refine k_itUT (seqT_same s03 hq) ?_
    have bnd : ∀ i, (Co.mostA ns os (os.take i)).length ≤ 3600 := fun i => Nat.le_trans Co.most_len (Nat.mul_le_mul (Nat.le_trans (by rw [List.length_take]; omega) o60) n60)
    refine k_loopT (fun i σ H' => ∃ (t1 t2 : Option V) (vs : List V), σ = [some (.ref a), some (.ref q), some (.ref f), t1, t2, none] ∧ Same H H' ∧ H' f = some (.lst vs) ∧ Co.Cls K H' vs (Co.mostA ns os (os.take i))) ⟨none, none, [], rfl, s03, hf, .nil⟩ (fun i σ H' _ ⟨_, _, _, _, s, _⟩ => seqT_same s hq) ?_ ?_
    rotate_left
    · rintro σ H4 ⟨t1, t2, vs, rfl, s4, hf4, hc4⟩
      rw [List.length_map, List.take_of_length_le (Nat.le_refl _)] at hc4
      walk_at "go"
      exact kk fits f vs H4 nf0 s4 hf4 hc4
    rintro i x σ H4 hx ⟨t1, t2, vs, rfl, s4, hf4, hc4⟩
    obtain ⟨o, ho, rfl⟩ := Cm.get_map hx
    walk_at "go"
    refine k_fldx (s4 _ _ ha) T.cl_Most T.f_Most_names (by walk_at "lk") ?_
    refine k_itUT (seqT_same s4 hp) ?_
    refine k_loopT (fun j σ H' => ∃ (t2 : Option V) (vs : List V), σ = [some (.ref a), some (.ref q), some (.ref f), some (.str o), t2, none] ∧ Same H H' ∧ H' f = some (.lst vs) ∧ Co.Cls K H' vs (Co.mostA ns os (os.take i) ++ ((ns.take j).filter fun t => !Co.has os t).map fun t => .beats o t))
      ⟨_, vs, rfl, s4, hf4, by simpa using hc4⟩ (fun j σ H' _ ⟨_, _, _, s, _⟩ => seqT_same s hp) ?_ ?_
    rotate_left
    · rintro σ H5 ⟨t2, vs, rfl, s5, hf5, hc5⟩
      rw [List.length_map, List.take_of_length_le (Nat.le_refl _)] at hc5
      refine ⟨_, _, vs, rfl, s5, hf5, ?_⟩
      have e : Co.mostA ns os (os.take (i + 1)) = Co.mostA ns os (os.take i) ++ (ns.filter fun t => !Co.has os t).map fun t => .beats o t := by
        unfold Co.mostA
        rw [take_snoc ho, List.flatMap_append]
        simp
      rw [e]
      exact hc5
    rintro j y σ H5 hy ⟨t2, vs, rfl, s5, hf5, hc5⟩
    obtain ⟨t, ht, rfl⟩ := Cm.get_map hy
    have vl : vs.length ≤ 10000 := by
      have h1 := hc5.len
      have h2 := bnd i
      have h3 : ((ns.take j).filter fun t => !Co.has os t).length ≤ 60 := Nat.le_trans (List.length_filter_le ..) (by rw [List.length_take]; omega)
      rw [List.length_append, List.length_map] at h1
      omega
    walk_at "go"
    refine Co.k_nothas (.inr (seqT_same s5 hq)) ?_
    walk_at "go"
    refine k_ifnb (fun c => ?_) (fun c => ?_)
    · walk_at "go"
      refine ⟨k_app0 hf5, ?_⟩
      walk_at "go"
      refine k_makex (fun a0 d0 A1 x0 xd0 g0 i0 o0 => ⟨a0, d0, _, _, rfl, i0, fun A2 c0 i0 => ⟨rfl, ?_⟩⟩)
      have s6 := But.same x0 g0 c0
      have hf6 := s6 _ _ hf5
      walk_at "go"
      refine k_app1 hf6 (by rw [sizeLine_eq]; omega) (fun H7 b7 hf7 => ?_)
      refine ⟨_, _, rfl, But.same nf0 (s5.trans s6) b7, hf7, ?_⟩
      rw [take_snoc ht, List.filter_append, List.map_append, ← List.append_assoc]
      simp only [List.filter_cons, c, List.filter_nil]
      exact ((hc5.same s6).snoc (c := .beats o t) ⟨d0, i0⟩).but b7 hf6
    · walk_at "go"
      refine ⟨_, _, rfl, s5, hf5, ?_⟩
      rw [take_snoc ht, List.filter_append]
      simpa [c] using hc5
end
end Lw
namespace Lw
open PySem PySem.Spec PyProof.Rows L2 Gx
section
variable {P : Program} {w : World} {K : PySem.W.Frag} {mg : Str → Option Value} {base : Heap} {f : Addr} {fd : FuncData}
theorem ok_Rule_stake (F : FnP K "stake" "Rule.stake" s_Rule_stake f fd) (T : Txt K mg) : FnOk P w K mg base (L2.CX P w) 1 f fd ["self", "past", "price", "top"] (sp_Rule_stake K) := by
  refine F.ok sc_Rule_stake (fun vs H Q E h => ?_) (fun cdv A outer s H vs Q E hr h => ?_)
  · obtain ⟨a, b, c, d, rfl, _⟩ := h; rfl
  · refine ⟨_, (pss_one (ps_ret (C8.pe_gc (by rfl) T.c_NOUGHT_rules))), ?_⟩
    obtain ⟨a, b, c, d, rfl, kk⟩ := h
    walk_at "go"
    refine kk _ ?_
    rw [Cm.fq0]
    exact T.t_NOUGHT_rules H
end
end Lw
namespace Lw
open PySem PySem.Spec PyProof.Rows L2 Gx
section
variable {P : Program} {w : World} {K : PySem.W.Frag} {mg : Str → Option Value} {base : Heap} {f : Addr} {fd : FuncData}
theorem ok_Fixed___init__ (F : FnP K "__init__" "Fixed.__init__" s_Fixed___init__ f fd) (T : Txt K mg) : FnOk P w K mg base (L2.CX P w) 1 f fd ["self", "part"] (sp_Fixed___init__ K) := by
  refine F.ok sc_Fixed___init__ (fun vs H Q E h => ?_) (fun cdv A outer s H vs Q E hr h => ?_)
  · obtain ⟨a, dx, u, rfl, _⟩ := h; rfl
  · refine ⟨_, (pss_one (ps_fld (pv 0) (pv 1) rfl)), ?_⟩
    obtain ⟨a, dx, u, rfl, h0, kk⟩ := h
    walk_at "go"
    refine k_sfldx h0 T.cl_Fixed T.f_Fixed_part (fun H1 b1 h1 => ?_) (by walk_at "pl")
    walk_at "go"
    exact kk H1 b1 (by rw [h1]; walk_at "pf")
end
end Lw
namespace Lw
open PySem PySem.Spec PyProof.Rows L2 Gx
section
variable {P : Program} {w : World} {K : PySem.W.Frag} {mg : Str → Option Value} {base : Heap} {f : Addr} {fd : FuncData}
theorem ok_Fixed_stake (F : FnP K "stake" "Fixed.stake" s_Fixed_stake f fd) (T : Txt K mg) : FnOk P w K mg base (L2.CX P w) 1 f fd ["self", "past", "price", "top"] (sp_Fixed_stake K) := by
  refine F.ok sc_Fixed_stake (fun vs H Q E h => ?_) (fun cdv A outer s H vs Q E hr h => ?_)
  · obtain ⟨a, dx, u, b, c, d, rfl, _⟩ := h; rfl
  · refine ⟨_, (pss_one (ps_ret (pe_fldK (K := K) rfl (pv 0) rfl))), ?_⟩
    obtain ⟨a, dx, u, b, c, d, rfl, h0, kk⟩ := h
    walk_at "go"
    refine k_fldx h0 T.cl_Fixed T.f_Fixed_part (by walk_at "lk") ?_
    exact kk
end
end Lw
namespace Lw
open PySem PySem.Spec PyProof.Rows L2 Gx
section
variable {P : Program} {w : World} {K : PySem.W.Frag} {mg : Str → Option Value} {base : Heap} {f : Addr} {fd : FuncData}
theorem ok__law_at (F : FnP K "_law_at" "_law_at" s__law_at f fd) (T : Txt K mg) : FnOk P w K mg base (L2.CX P w) 1 f fd ["_law_script", "_law_k"] (sp__law_at K) := by
  refine F.ok sc__law_at (fun vs H Q E h => ?_) (fun cdv A outer s H vs Q E hr h => ?_)
  · obtain ⟨a, ns, k, rfl, _⟩ := h; rfl
  · refine ⟨_, (pss_cons (ps_if (pt_cmpR op_lt (pv 1) (pe_callB (callK (K := K) (r := rLenU) rfl call_lenU) (by rfl) T.n_len (by decide +kernel) (pa_cons (pv 0) pa_nil)) (nomark _)) (pss_one (ps_ret (pe_ix (ix_K (K := K) rfl) (pv 0) (pv 1) (fun _ _ => rfl)))) pss_nil) (pss_one (ps_ret (pe_op op_modN (pe_op (op_mulK (K := K) rfl) (pe_op (op_addK (K := K) rfl) (pe_op op_modN (pe_ix (ix_K (K := K) rfl) (pe_op (op_addK (K := K) rfl) (pv 0) (pe_lst (pa_cons pe_int pa_nil))) pe_int (fun _ _ => rfl)) pe_int) pe_int) (pe_op (op_addK (K := K) rfl) (pe_op (op_mulK (K := K) rfl) (pv 1) (pv 1)) pe_int)) pe_int)))), ?_⟩
    obtain ⟨a, ns, k, rfl, hS, hl, k0, k1, kk⟩ := h
    have hlm : (ns.map V.int).length = ns.length := List.length_map ..
    walk_at "go"
    refine k_lenL ?_ hS
    walk_at "go"
    refine k_if (fun c => ?_) (fun c => ?_)
    · walk_at "go"
      obtain ⟨z, hz⟩ := Dk.at_map (ns := ns) k0 (by omega)
      refine k_ixL hS hz ?_
      exact kk _ _ (Same.refl H)
    · walk_at "go"
      refine k_lstx (fun p H1 np s1 hp1 => ?_) (by rw [sizeLine_eq]; simp)
      refine k_addG (seqL_same s1 hS) (SqL.of hp1) (fun q H2 nq s2 hq => ?_) (by rw [sizeLine_eq, hlm]; simp; omega)
      have e : ns.map V.int ++ [V.int 0] = (ns ++ [0]).map V.int := by rw [List.map_append]; rfl
      rw [e] at hq
      obtain ⟨z, hz⟩ := Dk.at_map (ns := ns ++ [0]) (i := 0) (by omega) (by simp)
      refine k_ixL (SqL.of hq) hz ?_
      walk_at "go"
      refine k_mulB (m := 17) (n := 17) (by show k.natAbs < 131072; omega) (by show k.natAbs < 131072; omega) (by decide) ?_
      walk_at "go"
      refine k_mulB (m := 32) (n := 50) (by show (z % 1000003 + 31).natAbs < 4294967296; omega) ?_ (by decide) ?_
      · have : k * k ≤ 100000 * 100000 := Int.mul_le_mul k1 k1 k0 (by omega)
        have h0 : 0 ≤ k * k := Int.mul_nonneg k0 k0
        show (k * k + 40013).natAbs < 1125899906842624
        omega
      · walk_at "go"
        exact kk _ _ (s1.trans s2)
end
end Lw
namespace Lw
open PySem PySem.Spec PyProof.Rows L2 Gx
section
variable {P : Program} {w : World} {K : PySem.W.Frag} {mg : Str → Option Value} {base : Heap} {f : Addr} {fd : FuncData}
theorem ok__law_mix (F : FnP K "_law_mix" "_law_mix" s__law_mix f fd) (T : Txt K mg) : FnOk P w K mg base (L2.CX P w) 1 f fd ["_law_cell", "_law_k"] (sp__law_mix K) := by
  refine F.ok sc__law_mix (fun vs H Q E h => ?_) (fun cdv A outer s H vs Q E hr h => ?_)
  · obtain ⟨c, k, rfl, _⟩ := h; rfl
  · refine ⟨_, (pss_cons (ps_if (pt_cmpR (op_eqK (K := K) rfl hr) (pe_op op_modN (pv 0) pe_int) pe_int (nomark _)) (pss_cons (ps_set (i := 2) sc__law_mix.nd rfl (Or.inl rfl) (pe_op op_fdivG (pv 0) pe_int)) (pss_cons (ps_for (passes_of rfl) rfl (pi_range1 rfl T.n_range (pa_cons (pe_op op_modN (pv 1) pe_int) pa_nil)) (pg_name (i := 3) sc__law_mix.nd rfl (Or.inl rfl)) (pss_one (ps_set (i := 2) sc__law_mix.nd rfl (Or.inl rfl) (pe_op op_fdivG (pv 2) pe_int)))) (pss_one (ps_ret (pe_op op_modN (pv 2) pe_int))))) pss_nil) (pss_cons (ps_set (i := 2) sc__law_mix.nd rfl (Or.inl rfl) (pe_op op_modN (pe_op (op_mulK (K := K) rfl) (pe_op (op_addK (K := K) rfl) (pe_op (op_addK (K := K) rfl) (pe_op op_modN (pv 0) pe_int) (pe_op (op_mulK (K := K) rfl) pe_int (pv 1))) pe_int) pe_int) pe_int)) (pss_one (ps_ret (pe_op op_modN (pe_op (op_mulK (K := K) rfl) (pe_op (op_addK (K := K) rfl) (pv 2) (pv 1)) pe_int) pe_int))))), ?_⟩
    obtain ⟨c, k, rfl, k0, k1, kk⟩ := h
    walk_at "go"
    refine k_if (fun c2 => ?_) (fun c2 => ?_)
    · walk_at "go"
      refine k_rng1 (by omega) ?_
      refine k_loopR (fun _ σ H' => H' = H ∧ ∃ (n : Int) (t : Option V), σ = [some (.int c), some (.int k), some (.int n), t]) ⟨rfl, _, none, rfl⟩ ?_ ?_
      · rintro i σ H' hi ⟨rfl, n, t, rfl⟩
        walk_at "go"
        exact ⟨rfl, _, _, rfl⟩
      · rintro σ H' ⟨rfl, n, t, rfl⟩
        walk_at "go"
        exact kk _ (by omega) (by omega)
    · walk_at "go"
      refine k_mulB (m := 30) (n := 30) (by decide) (by show k.natAbs < 1073741824; omega) (by decide) ?_
      walk_at "go"
      refine k_mulB (m := 40) (n := 30) (by show (c % 1000000007 + 11 * k + 5).natAbs < 1099511627776; omega) (by decide) (by decide) ?_
      walk_at "go"
      refine k_mulB (m := 40) (n := 30) ?_ (by decide) (by decide) ?_
      · show (_ % 2147483647 + k).natAbs < 1099511627776
        omega
      walk_at "go"
      exact kk _ (by omega) (by omega)
end
end Lw
namespace Lw
open PySem PySem.Spec PyProof.Rows L2 Gx
section
variable {P : Program} {w : World} {K : PySem.W.Frag} {mg : Str → Option Value} {base : Heap} {f : Addr} {fd : FuncData}
theorem ok__law_names (F : FnP K "_law_names" "_law_names" s__law_names f fd) (T : Txt K mg) (c__law_mix : Cl P w K mg base 1 "_law_mix" ["_law_cell", "_law_k"] (sp__law_mix K)) : FnOk P w K mg base (L2.CX P w) 2 f fd ["_law_cell", "_law_many"] (sp__law_names K) := by
  refine F.ok sc__law_names (fun vs H Q E h => ?_) (fun cdv A outer s H vs Q E hr h => ?_)
  · obtain ⟨c, m, rfl, _⟩ := h; rfl
  · refine ⟨_, (pss_cons (ps_set (i := 2) sc__law_names.nd rfl (Or.inr rfl) pe_str) (pss_cons (ps_set (i := 3) sc__law_names.nd rfl (Or.inl rfl) (pe_op op_modN (pcall c__law_mix hr (by first | decide | omega) (takes_of rfl rfl rfl rfl) (pa_cons (pv 0) (pa_cons pe_int pa_nil))) pe_int)) (pss_cons (ps_set (i := 4) sc__law_names.nd rfl (Or.inr rfl) (pe_m1 PySem.F.slot_str_join PySem.F.type_str_join (mt_joinK (K := K) rfl) pe_str (pe_lc (own := [("_law_k", 8)]) (g := gName 8) (by rfl) sc__law_names.nd (pi_range1 rfl T.n_range (pa_cons (pv 3) pa_nil)) (blkOk_by (own := [("_law_k", 8)]) (N := ["_law_cell", "_law_many", "_law_letters", "_law_size", "_law_base", "_law_spot", "_law_first", "_law_step", "_law_k"]) (sc := defScope s__law_names) (by decide +kernel)) (fun _ _ _ _ _ => pg_name (i := 8) sc__law_names.nd rfl (Or.inl rfl)) (fun _ _ _ _ _ => pts_nil) (fun _ _ _ _ _ => (pe_ix (ix_K (K := K) rfl) (pv 2) (pe_op op_modN (pcallN c__law_mix hr (by first | decide | omega) (pa_cons (pv 0) (pa_cons (pe_op (op_addK (K := K) rfl) (pv 8) pe_int) pa_nil))) pe_int) (fun _ _ => rfl)))))) (pss_cons (ps_set (i := 5) sc__law_names.nd rfl (Or.inr rfl) (pe_op op_modN (pcall c__law_mix hr (by first | decide | omega) (takes_of rfl rfl rfl rfl) (pa_cons (pv 0) (pa_cons pe_int pa_nil))) (pe_op (op_addK (K := K) rfl) (pv 3) pe_int))) (pss_cons (ps_set (i := 6) sc__law_names.nd rfl (Or.inr rfl) (pe_op op_modN (pcall c__law_mix hr (by first | decide | omega) (takes_of rfl rfl rfl rfl) (pa_cons (pv 0) (pa_cons pe_int pa_nil))) pe_int)) (pss_cons (ps_set (i := 7) sc__law_names.nd rfl (Or.inr rfl) (pe_op (op_addK (K := K) rfl) pe_int (pe_op op_modN (pcall c__law_mix hr (by first | decide | omega) (takes_of rfl rfl rfl rfl) (pa_cons (pv 0) (pa_cons pe_int pa_nil))) pe_int))) (pss_one (ps_ret (pe_lc (own := [("_law_k", 8)]) (g := gName 8) (by rfl) sc__law_names.nd (pi_range1 rfl T.n_range (pa_cons (pv 1) pa_nil)) (blkOk_by (own := [("_law_k", 8)]) (N := ["_law_cell", "_law_many", "_law_letters", "_law_size", "_law_base", "_law_spot", "_law_first", "_law_step", "_law_k"]) (sc := defScope s__law_names) (by decide +kernel)) (fun _ _ _ _ _ => pg_name (i := 8) sc__law_names.nd rfl (Or.inl rfl)) (fun _ _ _ _ _ => pts_nil) (fun _ _ _ _ _ => (pe_op (op_addK (K := K) rfl) (pe_op (op_addK (K := K) rfl) (pe_slice (sl_K (K := K) rfl) (pv 4) po_none (po_some (pv 5))) (pe_ix (ix_K (K := K) rfl) (pv 2) (pe_op op_modN (pe_op (op_addK (K := K) rfl) (pv 6) (pe_op (op_mulK (K := K) rfl) (pv 8) (pv 7))) pe_int) (fun _ _ => rfl))) (pe_slice (sl_K (K := K) rfl) (pv 4) (po_some (pv 5)) po_none)))))))))))), ?_⟩
    obtain ⟨c, m, rfl, m8, kk⟩ := h
    walk_at "go"
    refine ⟨c, 1, rfl, by decide, by decide, fun r r0 r1 => ?_⟩
    walk_at "go"
    obtain ⟨z, ez⟩ := Int.eq_ofNat_of_zero_le (show 0 ≤ r % 8 by omega)
    have hz : z ≤ 7 := by omega
    rw [ez]
    refine k_rng1 (by omega) ?_
    rw [show ((z : Int)).toNat = z by omega]
    refine k_lcR (fun D i ys H' => ∃ ks : List Nat, ys = (ks.map Pl.one).map V.str ∧ ks.length = i ∧ Pl.Letters ks ∧ Same H H') (fun D H' nD sD hD => ⟨[], rfl, rfl, fun _ h => (nomatch h), sD⟩) ?_ ?_
    · rintro D i ys H' nD hi ⟨ks, rfl, hc, hL, s⟩ hD
      refine k_lcB rfl ?_
      walk_at "go"
      refine ⟨c, _, rfl, by omega, by omega, fun r r0 r1 => ?_⟩
      walk_at "go"
      refine k_ixS (by rw [sizeLine_eq]; decide +kernel) (Pl.abc_at (by omega) (by omega)) ?_
      refine ⟨_, hD, (by rw [sizeLine_eq]; simp; omega), _, ⟨ks ++ [_], by simp; rfl, by simp [hc], ?_, But.same nD s But.upd⟩, upd_same⟩
      intro x hx
      rcases List.mem_append.mp hx with h | h
      · exact hL x h
      · rw [List.mem_singleton.mp h]; omega
    rintro b ys H1 nb ⟨ks, rfl, hc, hL, s1⟩ hb
    walk_at "go"
    refine k_join (.inl (SqL.of hb)) (by rw [Pl.sum_ones, show (Str.ofString "").length = 0 by decide +kernel]; simp; omega) ?_
    rw [show Txt.join (Str.ofString "") (ks.map Pl.one) = ⟨ks.toArray⟩ from Pl.join_ones ks]
    walk_at "go"
    refine ⟨c, 11, rfl, by decide, by decide, fun r3 r30 r31 => ?_⟩
    walk_at "go"
    obtain ⟨sp, esp⟩ := Int.eq_ofNat_of_zero_le (show 0 ≤ r3 % ((z : Int) + 1) from Int.emod_nonneg _ (by omega))
    have hsp : sp ≤ z := by have := Int.emod_lt_of_pos r3 (show (0 : Int) < (z : Int) + 1 by omega); omega
    rw [esp]
    refine ⟨c, 12, rfl, by decide, by decide, fun r4 r40 r41 => ?_⟩
    walk_at "go"
    refine ⟨c, 13, rfl, by decide, by decide, fun r5 r50 r51 => ?_⟩
    walk_at "go"
    have f0 : 0 ≤ r4 % 26 ∧ r4 % 26 < 26 := by omega
    have g0 : 1 ≤ 1 + r5 % 3 ∧ 1 + r5 % 3 ≤ 3 := by omega
    generalize r4 % 26 = fi at f0 ⊢
    generalize 1 + r5 % 3 = st at g0 ⊢
    refine k_rng1 (by omega) ?_
    rw [show ((m : Int)).toNat = m by omega]
    refine k_lcR (fun D i ys H' => ys = (Pl.some2 ks sp fi st i).map V.str ∧ Same H1 H') (fun D H' nD sD hD => ⟨rfl, sD⟩) ?_ ?_
    · rintro D i ys H' nD hi ⟨rfl, s⟩ hD
      refine k_lcB rfl ?_
      walk_at "go"
      refine k_slS ?_ (by rw [sizeLine_eq]; show ks.toArray.size ≤ _; simp; omega)
      rw [Pl.cut_front (by simp; omega)]
      walk_at "go"
      refine k_mulB (m := 10) (n := 10) (by show ((0 : Int) + (i : Int)).natAbs < 1024; omega) (by show st.natAbs < 1024; omega) (by decide) ?_
      walk_at "go"
      refine k_ixS (by rw [sizeLine_eq]; decide +kernel) (Pl.abc_at (by omega) (by omega)) ?_
      walk_at "go"
      refine k_addS ?_ (by rw [sizeLine_eq]; show (_ : Array Nat).size + 1 ≤ _; simp; omega)
      walk_at "go"
      refine k_slS ?_ (by rw [sizeLine_eq]; show ks.toArray.size ≤ _; simp; omega)
      refine k_addS ?_ ?_
      · refine ⟨_, hD, (by rw [sizeLine_eq]; simp [Pl.some2]; omega), _, ⟨?_, But.same nD s But.upd⟩, upd_same⟩
        rw [Pl.some2_succ, List.map_append, Int.zero_add]
        congr 2
        exact congrArg V.str (Pl.nm2_eq (cs := ks) (k := sp) (by omega))
      · rw [sizeLine_eq, Pl.cut_back (s := ⟨ks.toArray⟩) (k := sp) (by simp; omega)]
        show ((_ : Array Nat) ++ _).size + (_ : Array Nat).size ≤ _
        simp; omega
    rintro D ys H2 nD ⟨rfl, s2⟩ hD
    refine kk D _ H2 (s1.trans s2) ?_ hD (by simp [Pl.some2]) (Pl.some2_nd (by omega) fi g0 m8) (Pl.some2_nm hL (by omega) fi st m)
    cases q : H D with
    | none => rfl
    | some o => rw [s1 _ _ q] at nD; cases nD
end
end Lw
namespace Lw
open PySem PySem.Spec PyProof.Rows L2 Gx
section
variable {P : Program} {w : World} {K : PySem.W.Frag} {mg : Str → Option Value} {base : Heap} {f : Addr} {fd : FuncData}
theorem ok__law_lowest (F : FnP K "_law_lowest" "_law_lowest" s__law_lowest f fd) (T : Txt K mg) : FnOk P w K mg base (L2.CX P w) 1 f fd ["_law_a", "_law_b"] (sp__law_lowest K) := by
  refine F.ok sc__law_lowest (fun vs H Q E h => ?_) (fun cdv A outer s H vs Q E hr h => ?_)
  · obtain ⟨a, b, rfl, _⟩ := h; rfl
  · refine ⟨_, (C8.pss_cut (ps_if (pt_cmpR op_lt (pv 1) pe_int (nomark _)) (pss_cons (ps_set (i := 0) sc__law_lowest.nd rfl (Or.inl rfl) (pe_op op_sub pe_int (pv 0))) (pss_one (ps_set (i := 1) sc__law_lowest.nd rfl (Or.inl rfl) (pe_op op_sub pe_int (pv 1))))) pss_nil) (pss_cons (ps_set (i := 2) sc__law_lowest.nd rfl (Or.inl rfl) (pe_callB (call_maxU rfl) (by rfl) T.n_max (by decide +kernel) (pa_cons (pv 0) (pa_cons (pe_op op_sub pe_int (pv 0)) pa_nil)))) (pss_cons (ps_set (i := 3) sc__law_lowest.nd rfl (Or.inl rfl) (pv 1)) (pss_cons (ps_while (passes_of rfl) (pt_cmpR op_gt (pv 3) pe_int (nomark _)) (pss_one (ps_par (i := 2) (j := 3) (by rfl) sc__law_lowest.nd rfl rfl (by decide) rfl rfl (pa_cons (pv 3) (pa_cons (pe_op op_modN (pv 2) (pv 3)) pa_nil)) (by rfl)))) (pss_one (ps_ret (pe_tup (pa_cons (pe_op op_fdivG (pv 0) (pv 2)) (pa_cons (pe_op op_fdivG (pv 1) (pv 2)) pa_nil))))))))), ?_⟩
    obtain ⟨a0, b0, rfl, bn, hd0, kk⟩ := h
    walk_at "st"
    refine k_cut (fun σ H' => H' = H ∧ ∃ a b : Int, σ = [some (.int a), some (.int b), none, none] ∧ 0 < b ∧ Okd a b ∧ Rat.divInt a b = Rat.divInt a0 b0) ?_ ?_
    · walk_at "go"
      refine k_if (fun c => ?_) (fun c => ?_)
      · walk_at "go"
        refine ⟨rfl, 0 - a0, 0 - b0, rfl, by omega, ?_, ?_⟩
        · unfold Okd at hd0 ⊢
          rw [Int.zero_sub, Int.zero_sub, Int.natAbs_neg, Int.natAbs_neg, Int.neg_gcd, Int.gcd_neg]
          exact hd0
        · rw [Int.zero_sub, Int.zero_sub, Rat.divInt_neg', Int.neg_neg]
      · walk_at "go"
        exact ⟨rfl, a0, b0, rfl, by omega, hd0, rfl⟩
    rintro σ G ⟨eG, a, b, rfl, bp, hd, er⟩
    subst eG
    rw [← er] at kk
    walk_at "go"
    rw [show max a (0 - a) = (a.natAbs : Int) by omega]
    walk_at "go"
    refine k_while (fun m σ H' => H' = G ∧ ∃ x y : Int, σ = [some (.int a), some (.int b), some (.int x), some (.int y)] ∧ m = y.natAbs ∧ 0 ≤ x ∧ 0 ≤ y ∧ Int.gcd x y = Int.gcd a b) b.natAbs ⟨rfl, (a.natAbs : Int), b, rfl, rfl, by omega, by omega, by show Nat.gcd ((a.natAbs : Int)).natAbs b.natAbs = Nat.gcd a.natAbs b.natAbs; rw [Int.natAbs_natCast]⟩ ?_
    rintro m σ H' ⟨rfl, x, y, rfl, rfl, x0, y0, e⟩
    walk_at "go"
    refine k_if (fun c => ?_) (fun c => ?_)
    · refine k_wN ?_
      walk_at "go"
      have v0 := Int.emod_nonneg x (show y ≠ 0 by omega)
      have v1 := Int.emod_lt_of_pos x c
      refine ⟨(x % y).natAbs, by omega, rfl, y, x % y, rfl, rfl, y0, v0, ?_⟩
      rw [← e, Int.gcd_comm x y, ← Int.fmod_eq_emod_of_nonneg x y0, Fr.gcd_fmod, Int.gcd_comm]
    · have ey : y = 0 := by omega
      subst ey
      walk_at "go"
      rw [Int.gcd_zero] at e
      have hx : x = (Int.gcd a b : Int) := by omega
      have hg := Int.gcd_pos_of_ne_zero_right a (show b ≠ 0 by omega)
      have ed : x = (if b < 0 then 0 - (Int.gcd a b : Int) else (Int.gcd a b : Int)) := by rw [if_neg (by omega)]; exact hx
      obtain ⟨d1, d2⟩ := hd.div (d := x) (by omega)
      refine k_I ?_ ⟨by omega, d1⟩
      walk_at "go"
      refine k_I ?_ ⟨by omega, d2⟩
      walk_at "go"
      refine k_tupx (fun p H2 np s1 hp => ?_) (by simp [sizeLine_eq])
      refine kk p H2 s1 np (SqT.of ?_)
      rw [hp, Fr.low_num (by omega) ed, Fr.low_den (by omega) ed]
end
end Lw
namespace Lw
open PySem PySem.Spec PyProof.Rows L2 Gx
section
variable {P : Program} {w : World} {K : PySem.W.Frag} {mg : Str → Option Value} {base : Heap} {f : Addr} {fd : FuncData}
theorem ok__law_plus (F : FnP K "_law_plus" "_law_plus" s__law_plus f fd) (T : Txt K mg) (c__law_lowest : Cl P w K mg base 1 "_law_lowest" ["_law_a", "_law_b"] (sp__law_lowest K)) : FnOk P w K mg base (L2.CX P w) 2 f fd ["_law_x", "_law_y"] (sp__law_plus K) := by
  refine F.ok sc__law_plus (fun vs H Q E h => ?_) (fun cdv A outer s H vs Q E hr h => ?_)
  · obtain ⟨p, q, x, y, m, n, rfl, _⟩ := h; rfl
  · refine ⟨_, (pss_one (ps_ret (pcall c__law_lowest hr (by first | decide | omega) (takes_of rfl rfl rfl rfl) (pa_cons (pe_op (op_addK (K := K) rfl) (pe_op (op_mulK (K := K) rfl) (pe_ix (ix_K (K := K) rfl) (pv 0) pe_int (fun _ _ => rfl)) (pe_ix (ix_K (K := K) rfl) (pv 1) pe_int (fun _ _ => rfl))) (pe_op (op_mulK (K := K) rfl) (pe_ix (ix_K (K := K) rfl) (pv 1) pe_int (fun _ _ => rfl)) (pe_ix (ix_K (K := K) rfl) (pv 0) pe_int (fun _ _ => rfl)))) (pa_cons (pe_op (op_mulK (K := K) rfl) (pe_ix (ix_K (K := K) rfl) (pv 0) pe_int (fun _ _ => rfl)) (pe_ix (ix_K (K := K) rfl) (pv 1) pe_int (fun _ _ => rfl))) pa_nil))))), ?_⟩
    obtain ⟨p, q, x, y, m, n, rfl, hp, hq, sx, sy, hmn, kk⟩ := h
    walk_at "go"
    refine k_ixT hp (v := .int x.num) rfl ?_
    walk_at "go"
    refine k_ixT hq (v := .int (y.den : Int)) rfl ?_
    walk_at "go"
    refine k_mulB sx.1 sy.den (by omega) ?_
    walk_at "go"
    refine k_ixT hq (v := .int y.num) rfl ?_
    walk_at "go"
    refine k_ixT hp (v := .int (x.den : Int)) rfl ?_
    walk_at "go"
    refine k_mulB sy.1 sx.den (by omega) ?_
    walk_at "go"
    refine k_ixT hp (v := .int (x.den : Int)) rfl ?_
    walk_at "go"
    refine k_ixT hq (v := .int (y.den : Int)) rfl ?_
    walk_at "go"
    refine k_mulB sx.den sy.den (by omega) ?_
    walk_at "go"
    refine ⟨_, _, rfl, Int.mul_ne_zero (Fr.den_ne x) (Fr.den_ne y), okd_den (Int.mul_ne_zero (Fr.den_ne x) (Fr.den_ne y)) (Fr.dd_lt sx sy) hmn, fun r H' s1 nr hr => ?_⟩
    rw [Fr.add_eq x y] at hr
    exact kk r H' s1 nr hr (sx.add sy)
end
end Lw
namespace Lw
open PySem PySem.Spec PyProof.Rows L2 Gx
section
variable {P : Program} {w : World} {K : PySem.W.Frag} {mg : Str → Option Value} {base : Heap} {f : Addr} {fd : FuncData}
theorem ok__law_times (F : FnP K "_law_times" "_law_times" s__law_times f fd) (T : Txt K mg) (c__law_lowest : Cl P w K mg base 1 "_law_lowest" ["_law_a", "_law_b"] (sp__law_lowest K)) : FnOk P w K mg base (L2.CX P w) 2 f fd ["_law_x", "_law_y"] (sp__law_times K) := by
  refine F.ok sc__law_times (fun vs H Q E h => ?_) (fun cdv A outer s H vs Q E hr h => ?_)
  · obtain ⟨p, q, x, y, m, n, rfl, _⟩ := h; rfl
  · refine ⟨_, (pss_one (ps_ret (pcall c__law_lowest hr (by first | decide | omega) (takes_of rfl rfl rfl rfl) (pa_cons (pe_op (op_mulK (K := K) rfl) (pe_ix (ix_K (K := K) rfl) (pv 0) pe_int (fun _ _ => rfl)) (pe_ix (ix_K (K := K) rfl) (pv 1) pe_int (fun _ _ => rfl))) (pa_cons (pe_op (op_mulK (K := K) rfl) (pe_ix (ix_K (K := K) rfl) (pv 0) pe_int (fun _ _ => rfl)) (pe_ix (ix_K (K := K) rfl) (pv 1) pe_int (fun _ _ => rfl))) pa_nil))))), ?_⟩
    obtain ⟨p, q, x, y, m, n, rfl, hp, hq, sx, sy, hmn, kk⟩ := h
    walk_at "go"
    refine k_ixT hp (v := .int x.num) rfl ?_
    walk_at "go"
    refine k_ixT hq (v := .int y.num) rfl ?_
    walk_at "go"
    refine k_mulB sx.1 sy.1 (by omega) ?_
    walk_at "go"
    refine k_ixT hp (v := .int (x.den : Int)) rfl ?_
    walk_at "go"
    refine k_ixT hq (v := .int (y.den : Int)) rfl ?_
    walk_at "go"
    refine k_mulB sx.den sy.den (by omega) ?_
    walk_at "go"
    refine ⟨_, _, rfl, Int.mul_ne_zero (Fr.den_ne x) (Fr.den_ne y), okd_den (Int.mul_ne_zero (Fr.den_ne x) (Fr.den_ne y)) (Fr.dd_lt sx sy) hmn, fun r H' s1 nr hr => ?_⟩
    rw [Fr.mul_eq x y] at hr
    exact kk r H' s1 nr hr (sx.mul sy)
end
end Lw
namespace Lw
open PySem PySem.Spec PyProof.Rows L2 Gx
section
variable {P : Program} {w : World} {K : PySem.W.Frag} {mg : Str → Option Value} {base : Heap} {f : Addr} {fd : FuncData}
theorem ok__law_value (F : FnP K "_law_value" "_law_value" s__law_value f fd) (T : Txt K mg) : FnOk P w K mg base (L2.CX P w) 1 f fd ["_law_one", "_law_other", "_law_mark"] (sp__law_value K) := by
  refine F.ok sc__law_value (fun vs H Q E h => ?_) (fun cdv A outer s H vs Q E hr h => ?_)
  · obtain ⟨o, t, m, rfl, _⟩ := h; rfl
  · refine ⟨_, (pss_cons (ps_if (pt_cmpR (op_eqK (K := K) rfl hr) (pv 2) pe_str (nomark _)) (pss_one (ps_ret (pe_tup (pa_cons pe_int (pa_cons pe_int pa_nil))))) pss_nil) (pss_one (ps_ret (pe_getN hr (pe_disp (pps_cons (pv 0) (pe_tup (pa_cons pe_int (pa_cons pe_int pa_nil))) (pps_cons (pv 1) (pe_tup (pa_cons pe_int (pa_cons pe_int pa_nil))) pps_nil)) rfl rfl (by simp) (by decide)) (pv 2) (pe_tup (pa_cons pe_int (pa_cons pe_int pa_nil))))))), ?_⟩
    obtain ⟨o, t, m, rfl, un, kk⟩ := h
    have zero : Cm.value (.beats o t) m = 0 → ∀ r H1, Same H H1 → H r = none → H1 r = some (.tup [.int 0, .int 1]) → Q (.ref r) H1 := fun e r H1 s n h => kk r H1 s n (by rw [e, Cm.fq0]; exact SqT.of h)
    have one : Cm.value (.beats o t) m = 1 → ∀ r H1, Same H H1 → H r = none → H1 r = some (.tup [.int 1, .int 1]) → Q (.ref r) H1 := fun e r H1 s n h => kk r H1 s n (by rw [e, Cm.fq1]; exact SqT.of h)
    have half : Cm.value (.beats o t) m = 1/2 → ∀ r H1, Same H H1 → H r = none → H1 r = some (.tup [.int 1, .int 2]) → Q (.ref r) H1 := fun e r H1 s n h => kk r H1 s n (by rw [e, Cm.fqh]; exact SqT.of h)
    walk_at "go"
    refine Cm.k_eqM ?_
    walk_at "go"
    refine k_if (fun c1 => ?_) (fun c1 => ?_)
    · walk_at "go"
      refine k_tupx (fun r H1 nr s1 hr => ?_) (by simp [sizeLine_eq])
      exact zero (if_pos c1) r H1 s1 nr hr
    have ev : Cm.value (.beats o t) m = Cm.valueOf (.beats o t) m := if_neg c1
    walk_at "go"
    refine k_getN ?_
    refine k_disp2 (fun d H1 nd s1 hd => ?_)
    walk_at "go"
    refine k_tupx (fun r2 H2 n2 s2 hr2 => ?_) (by simp [sizeLine_eq])
    walk_at "go"
    refine k_tupx (fun r3 H3 n3 s3 hr3 => ?_) (by simp [sizeLine_eq])
    have hd3 := s3 _ _ (s2 _ _ hd)
    refine k_disp2x hd3 (fun e => un e.symm) (fun H4 b4 hd4 => ?_)
    have s04 : Same H H4 := But.same nd (s1.trans (s2.trans s3)) b4
    have nr3 : r3 ≠ d := fun e => by subst e; rw [s2 _ _ hd] at n3; cases n3
    have nr2 : r2 ≠ d := fun e => by subst e; rw [hd] at n2; cases n2
    have hr34 := b4 _ _ nr3 hr3
    have hr24 := b4 _ _ nr2 (s3 _ _ hr2)
    refine k_getD hd4 ?_
    walk_at "go"
    refine k_tupx (fun r5 H5 n5 s5 hr5 => ?_) (by simp [sizeLine_eq])
    have hd5 := s5 _ _ hd4
    have f3 : H r3 = none := (s1.trans s2).free n3
    have f2 : H r2 = none := s1.free n2
    have f5 : H r5 = none := s04.free n5
    cases m with
    | none => exact k_getNone hd5 (half (by rw [ev]; rfl) r5 H5 (s04.trans s5) f5 hr5)
    | some z =>
      refine k_getStr hd5 ?_
      by_cases e1 : z = o
      · subst e1
        rw [valV_pos rfl]
        exact one (by rw [ev]; exact if_pos rfl) r2 H5 (s04.trans s5) f2 (s5 _ _ hr24)
      · rw [valV_neg (fun e => e1 (Sum.inr.inj e).symm)]
        have n1 : ¬ (some z = some o) := fun e => e1 (Option.some.inj e)
        by_cases e2 : z = t
        · subst e2
          rw [valV_pos rfl]
          exact zero (by rw [ev]; exact (if_neg n1).trans (if_pos rfl)) r3 H5 (s04.trans s5) f3 (s5 _ _ hr34)
        · rw [valV_neg (fun e => e2 (Sum.inr.inj e).symm), valV_nil]
          have n2 : ¬ (some z = some t) := fun e => e2 (Option.some.inj e)
          exact half (by rw [ev]; exact (if_neg n1).trans (if_neg n2)) r5 H5 (s04.trans s5) f5 hr5
end
end Lw
namespace Lw
open PySem PySem.Spec PyProof.Rows L2 Gx
section
variable {P : Program} {w : World} {K : PySem.W.Frag} {mg : Str → Option Value} {base : Heap} {f : Addr} {fd : FuncData}
theorem ok__law_contest (F : FnP K "_law_contest" "_law_contest" s__law_contest f fd) (T : Txt K mg) (c__law_mix : Cl P w K mg base 1 "_law_mix" ["_law_cell", "_law_k"] (sp__law_mix K)) : FnOk P w K mg base (L2.CX P w) 2 f fd ["_law_cell", "_law_names_here"] (sp__law_contest K) := by
  refine F.ok sc__law_contest (fun vs H Q E h => ?_) (fun cdv A outer s H vs Q E hr h => ?_)
  · obtain ⟨z, l, ns, rfl, _⟩ := h; rfl
  · refine ⟨_, (pss_one (ps_ret (pe_tup (pa_cons (pe_callTy (callK (K := K) (r := rTupV) rfl call_tupV) (by rfl) T.n_tuple (by decide +kernel) (pa_cons (pv 1) pa_nil)) (pa_cons (pe_op (op_addK (K := K) rfl) pe_int (pe_op op_modN (pcall c__law_mix hr (by first | decide | omega) (takes_of rfl rfl rfl rfl) (pa_cons (pv 0) (pa_cons pe_int pa_nil))) (pe_op op_sub (pe_callB (callK (K := K) (r := rLenU) rfl call_lenU) (by rfl) T.n_len (by decide +kernel) (pa_cons (pv 1) pa_nil)) pe_int))) pa_nil))))), ?_⟩
    obtain ⟨z, l, ns, rfl, hl, l2, l8, kk⟩ := h
    walk_at "go"
    refine k_tupL (SqL.of hl) (fun w H1 nw s1 hw => ?_)
    walk_at "go"
    refine ⟨z, 51, rfl, by decide, by decide, fun r1 r10 r11 => ?_⟩
    walk_at "go"
    refine k_lenL ?_ (SqL.of (s1 _ _ hl))
    rw [List.length_map]
    walk_at "go"
    have f0 := Int.emod_nonneg r1 (show (ns.length : Int) - 1 ≠ 0 by omega)
    have f1 := Int.emod_lt_of_pos r1 (show (0 : Int) < (ns.length : Int) - 1 by omega)
    obtain ⟨k, ek⟩ := Int.eq_ofNat_of_zero_le (show 0 ≤ 1 + r1 % ((ns.length : Int) - 1) by omega)
    rw [ek]
    refine k_tupx (fun p H2 np s2 hp => ?_) (by simp [sizeLine_eq])
    exact kk p k H2 (s1.trans s2) ⟨w, SqT.of hp, SqT.of (s2 _ _ hw)⟩ (by omega) (by omega)
end
end Lw
namespace Lw
open PySem PySem.Spec PyProof.Rows L2 Gx
section
variable {P : Program} {w : World} {K : PySem.W.Frag} {mg : Str → Option Value} {base : Heap} {f : Addr} {fd : FuncData}
theorem ok__law_guess (F : FnP K "_law_guess" "_law_guess" s__law_guess f fd) (T : Txt K mg) (c__law_mix : Cl P w K mg base 1 "_law_mix" ["_law_cell", "_law_k"] (sp__law_mix K)) : FnOk P w K mg base (L2.CX P w) 2 f fd ["_law_contest_here", "_law_cell"] (sp__law_guess K) := by
  refine F.ok sc__law_guess (fun vs H Q E h => ?_) (fun cdv A outer s H vs Q E hr h => ?_)
  · obtain ⟨z, p, c, rfl, _⟩ := h; rfl
  · refine ⟨_, (pss_cons (ps_asg (pv 0) (pg_tup rfl (pgs_cons (pg_name (i := 2) sc__law_guess.nd rfl (Or.inr rfl)) (pgs_cons (pg_name (i := 3) sc__law_guess.nd rfl (Or.inl rfl)) pgs_nil)))) (pss_cons (ps_set (i := 4) sc__law_guess.nd rfl (Or.inr rfl) (pe_op op_modN (pcall c__law_mix hr (by first | decide | omega) (takes_of rfl rfl rfl rfl) (pa_cons (pv 1) (pa_cons pe_int pa_nil))) (pe_callB (callK (K := K) (r := rLenU) rfl call_lenU) (by rfl) T.n_len (by decide +kernel) (pa_cons (pv 2) pa_nil)))) (pss_cons (ps_set (i := 5) sc__law_guess.nd rfl (Or.inr rfl) (pe_lc (own := [("_law_k", 6)]) (g := gName 6) (by rfl) sc__law_guess.nd (pi_range1 rfl T.n_range (pa_cons (pv 3) pa_nil)) (blkOk_by (own := [("_law_k", 6)]) (N := ["_law_contest_here", "_law_cell", "_law_names_here", "_law_part", "_law_first", "_law_some", "_law_k", "_law_name"]) (sc := defScope s__law_guess) (by decide +kernel)) (fun _ _ _ _ _ => pg_name (i := 6) sc__law_guess.nd rfl (Or.inl rfl)) (fun _ _ _ _ _ => pts_nil) (fun _ _ _ _ _ => (pe_ix (ix_K (K := K) rfl) (pv 2) (pe_op op_modN (pe_op (op_addK (K := K) rfl) (pv 4) (pv 6)) (pe_callB (callK (K := K) (r := rLenU) rfl call_lenU) (by rfl) T.n_len (by decide +kernel) (pa_cons (pv 2) pa_nil))) (fun _ _ => rfl))))) (pss_one (ps_ret (pe_callTy (callK (K := K) (r := rTupV) rfl call_tupV) (by rfl) T.n_tuple (by decide +kernel) (pa_cons (pe_lc (own := [("_law_name", 7)]) (g := gName 7) (by rfl) sc__law_guess.nd (pi_seqU (pv 2)) (blkOk_by (own := [("_law_name", 7)]) (N := ["_law_contest_here", "_law_cell", "_law_names_here", "_law_part", "_law_first", "_law_some", "_law_k", "_law_name"]) (sc := defScope s__law_guess) (by decide +kernel)) (fun _ _ _ _ _ => pg_name (i := 7) sc__law_guess.nd rfl (Or.inl rfl)) (fun _ _ _ _ _ => (pts_one (pt_cmpR (op_inUK (K := K) rfl hr) (pv 7) (pv 5) (by with_unfolding_all rfl)))) (fun _ _ _ _ _ => (pv 7))) pa_nil))))))), ?_⟩
    obtain ⟨z, p, ⟨ns, k⟩, rfl, ⟨q, hp, hq⟩, ft, kk⟩ := h
    have k1 := ft.k1
    have kn := ft.kn
    have n8 := ft.n8
    dsimp only at hp hq k1 kn n8 kk
    walk_at "go"
    refine k_gtup hp rfl ?_
    walk_at "go"
    refine ⟨z, 56, rfl, by decide, by decide, fun r0 r00 r01 => ?_⟩
    walk_at "go"
    refine k_lenT ?_ hq
    rw [List.length_map]
    walk_at "go"
    have f0 := Int.emod_nonneg r0 (show (ns.length : Int) ≠ 0 by omega)
    obtain ⟨f, ef⟩ := Int.eq_ofNat_of_zero_le f0
    rw [ef]
    refine k_rng1 (by omega) ?_
    rw [show ((k : Int)).toNat = k from rfl]
    refine k_lcR (lo := 0) (n := k) (fun D i ys H' => ys = ((List.range i).map fun i => ns.getD ((f + i) % ns.length) (Str.ofString "")).map V.str ∧ Same H H') (fun D H' nD sD hD => ⟨rfl, sD⟩) ?_ ?_
    · rintro D i ys H1 nD hi ⟨rfl, s1⟩ hD
      refine k_lcB rfl ?_
      walk_at "go"
      refine k_lenT ?_ (seqT_same s1 hq)
      rw [List.length_map]
      walk_at "go"
      have hj := Nat.mod_lt (f + i) (show 0 < ns.length by omega)
      have e : ((f : Int) + (0 + (i : Int))) % (ns.length : Int) = (((f + i) % ns.length : Nat) : Int) := by push_cast; rw [Int.zero_add]
      rw [e]
      refine k_ixT (seqT_same s1 hq) (v := .str (ns[(f + i) % ns.length]'hj)) (atI_nat (by rw [List.getElem?_map, List.getElem?_eq_getElem hj]; rfl)) ?_
      refine ⟨_, hD, (by rw [sizeLine_eq]; simp; omega), _, ⟨?_, But.same nD s1 But.upd⟩, upd_same⟩
      rw [List.range_succ, List.map_append, List.map_append]
      congr 1
      show _ = [V.str (ns.getD ((f + i) % ns.length) (Str.ofString ""))]
      rw [List.getD_eq_getElem?_getD, List.getElem?_eq_getElem hj]
      rfl
    rintro D ys H1 nD ⟨rfl, s1⟩ hD
    have hD : H1 D = some (.lst ((Co.round ns f k).map V.str)) := hD
    walk_at "go"
    refine k_lcU (.inr (seqT_same s1 hq)) (fun D2 i ys H' => ys = ((ns.take i).filter (Co.has (Co.round ns f k))).map V.str ∧ Same H1 H') (fun D2 H' nD sD hD => ⟨rfl, sD⟩) (fun D2 i ys H' nD h => h.2) ?_ ?_
    · rintro D2 i x ys H2 nD2 hx ⟨rfl, s2⟩ hD2
      obtain ⟨n, hn, rfl⟩ := Cm.get_map hx
      have hlen : ((ns.take i).filter (Co.has (Co.round ns f k))).length ≤ 60 := Nat.le_trans (List.length_filter_le ..) (by rw [List.length_take]; omega)
      refine k_lcB rfl ?_
      walk_at "go"
      refine Co.k_has (.inl (SqL.of (s2 _ _ hD))) ?_
      walk_at "go"
      refine k_ifb (fun c => ?_) (fun c => ?_)
      · walk_at "go"
        refine ⟨_, hD2, (by rw [sizeLine_eq, List.length_map]; omega), _, ⟨?_, But.same nD2 s2 But.upd⟩, upd_same⟩
        rw [take_snoc hn, List.filter_append]
        simp [c]
      · refine ⟨_, ⟨?_, s2⟩, hD2⟩
        rw [take_snoc hn, List.filter_append]
        simp [c]
    rintro D2 ys H2 nD2 ⟨rfl, s2⟩ hD2
    rw [List.length_map, List.take_of_length_le (Nat.le_refl _)] at hD2
    walk_at "go"
    refine k_tupL (SqL.of hD2) (fun w H3 nw s3 hw => ?_)
    exact kk w _ H3 (s1.trans (s2.trans s3)) (SqT.of hw) (Co.round_fit ft.nd kn)
end
end Lw
namespace Lw
open PySem PySem.Spec PyProof.Rows L2 Gx
section
variable {P : Program} {w : World} {K : PySem.W.Frag} {mg : Str → Option Value} {base : Heap} {f : Addr} {fd : FuncData}
theorem ok__law_ballot (F : FnP K "_law_ballot" "_law_ballot" s__law_ballot f fd) (T : Txt K mg) (c__law_mix : Cl P w K mg base 1 "_law_mix" ["_law_cell", "_law_k"] (sp__law_mix K)) : FnOk P w K mg base (L2.CX P w) 2 f fd ["_law_cell", "_law_contests"] (sp__law_ballot K) := by
  refine F.ok sc__law_ballot (fun vs H Q E h => ?_) (fun cdv A outer s H vs Q E hr h => ?_)
  · obtain ⟨z, l, us, cs, rfl, _⟩ := h; rfl
  · refine ⟨_, (pss_cons (ps_set (i := 2) sc__law_ballot.nd rfl (Or.inl rfl) (pe_lst pa_nil)) (pss_cons (ps_for (passes_of rfl) rfl (pi_range1 rfl T.n_range (pa_cons (pe_callB (callK (K := K) (r := rLenU) rfl call_lenU) (by rfl) T.n_len (by decide +kernel) (pa_cons (pv 1) pa_nil)) pa_nil)) (pg_name (i := 3) sc__law_ballot.nd rfl (Or.inl rfl)) (pss_cons (ps_set (i := 4) sc__law_ballot.nd rfl (Or.inl rfl) (pe_op (op_addK (K := K) rfl) (pe_callTy (callK (K := K) (r := rLstU) rfl call_lstU) (by rfl) T.n_list (by decide +kernel) (pa_cons (pe_ix (ix_K (K := K) rfl) (pe_ix (ix_K (K := K) rfl) (pv 1) (pv 3) (fun _ _ => rfl)) pe_int (fun _ _ => rfl)) pa_nil)) (pe_lst (pa_cons pe_str (pa_cons pe_non (pa_cons (pe_ix (ix_K (K := K) rfl) (pe_ix (ix_K (K := K) rfl) (pe_ix (ix_K (K := K) rfl) (pv 1) (pv 3) (fun _ _ => rfl)) pe_int (fun _ _ => rfl)) pe_int (fun _ _ => rfl)) pa_nil)))))) (pss_one (ps_expr (pe_bmK (K := K) rfl PySem.F.plainAttrs_list PySem.F.slot_list_append PySem.F.type_list_append mt_append (pv 2) (pa_cons (pe_ix (ix_K (K := K) rfl) (pv 4) (pe_op op_modN (pcall c__law_mix hr (by first | decide | omega) (takes_of rfl rfl rfl rfl) (pa_cons (pv 0) (pa_cons (pe_op (op_addK (K := K) rfl) pe_int (pv 3)) pa_nil))) (pe_callB (callK (K := K) (r := rLenU) rfl call_lenU) (by rfl) T.n_len (by decide +kernel) (pa_cons (pv 4) pa_nil))) (fun _ _ => rfl)) pa_nil)))))) (pss_cons (ps_if (pt_cmpR (op_eqK (K := K) rfl hr) (pe_op op_modN (pcall c__law_mix hr (by first | decide | omega) (takes_of rfl rfl rfl rfl) (pa_cons (pv 0) (pa_cons pe_int pa_nil))) pe_int) pe_int (nomark _)) (pss_one (ps_ret pe_non)) pss_nil) (pss_one (ps_ret (pe_callTy (callK (K := K) (r := rTupV) rfl call_tupV) (by rfl) T.n_tuple (by decide +kernel) (pa_cons (pv 2) pa_nil))))))), ?_⟩
    obtain ⟨z, l, us, cs, rfl, hl, hcs, fit, c10, kk⟩ := h
    have ul := hcs.len
    walk_at "go"
    refine k_lstx (fun m H1 nm s1 hm => ?_) (by simp)
    walk_at "go"
    refine k_lenL ?_ (seqL_same s1 hl)
    walk_at "go"
    refine k_rng1 (by omega) ?_
    rw [show ((us.length : Nat) : Int).toNat = us.length by omega]
    refine k_loopR (n := us.length) (fun i σ H' => ∃ (ms : List (Option Str)) (t1 t2 : Option V), σ = [some (.int z), some (.ref l), some (.ref m), t1, t2] ∧ But m H1 H' ∧ H' m = some (.lst (ms.map Cm.mv)) ∧ ms.length = i ∧ ∀ (j : Nat) (c : Ag.C) (x : Option Str), cs[j]? = some c → ms[j]? = some x → Cm.Mk c.1 false x)
      ⟨[], _, _, rfl, But.of (Same.refl _), hm, rfl, fun j c x _ h => by simp at h⟩ ?_ ?_
    rotate_left
    · rintro σ H2 ⟨ms, t1, t2, rfl, b2, hm2, ml, hk⟩
      have s2 : Same H H2 := But.same nm s1 b2
      walk_at "go"
      refine ⟨z, 5, rfl, by decide, by decide, fun r r0 r1 => ?_⟩
      walk_at "go"
      refine k_if (fun _ => ?_) (fun _ => ?_)
      · walk_at "go"
        exact kk .non none H2 s2 rfl (fun ms e => by cases e)
      walk_at "go"
      refine k_tupL (SqL.of hm2) (fun p H3 np s3 hp => ?_)
      refine kk (.ref p) (some ms) H3 (s2.trans s3) ⟨p, rfl, SqT.of hp⟩ fun ms' e => ?_
      obtain rfl := Option.some.inj e
      exact ⟨by omega, hk⟩
    rintro i σ H2 hi ⟨ms, t1, t2, rfl, b2, hm2, ml, hk⟩
    have s2 : Same H H2 := But.same nm s1 b2
    have hl2 := seqL_same s2 hl
    obtain ⟨p, c, e1, hci, q, hp, hq⟩ := hcs.get hi
    have eu : atI us (i : Int) = some (.ref p) := atI_nat e1
    have ft := fit c (List.mem_of_getElem? hci)
    have n8 := ft.n8
    have k1 := ft.k1
    have kn := ft.kn
    obtain ⟨ns, k⟩ := c
    dsimp only at hp hq n8 k1 kn
    obtain ⟨n0, hn0⟩ : ∃ n, ns[0]? = some n := ⟨_, List.getElem?_eq_getElem (by omega)⟩
    walk_at "go"
    refine k_ixL hl2 eu ?_
    walk_at "go"
    refine k_ixT (seqT_same s2 hp) (v := .ref q) rfl ?_
    walk_at "go"
    refine k_lstT (seqT_same s2 hq) (fun a H3 na s3 ha => ?_)
    walk_at "go"
    have s23 := s2.trans s3
    refine k_ixL (seqL_same s23 hl) eu ?_
    walk_at "go"
    refine k_ixT (seqT_same s23 hp) (v := .ref q) rfl ?_
    walk_at "go"
    refine k_ixT (seqT_same s23 hq) (v := .str n0) (atI_nat (j := 0) (by rw [List.getElem?_map, hn0]; rfl)) ?_
    walk_at "go"
    refine k_lstx (fun a2 H4 na2 s4 ha2 => ?_) (by simp [sizeLine_eq])
    walk_at "go"
    refine k_addL (s4 _ _ ha) ha2 (fun a3 H6 na3 s6' ha6 => ?_) (by rw [sizeLine_eq, List.length_map]; simp; omega)
    obtain ⟨pool, ep, p1, p20, hpool⟩ : ∃ pool : List (Option Str), (ns.map V.str ++ [V.str (Str.ofString ""), V.non, V.str n0]) = pool.map Cm.mv ∧ 1 ≤ pool.length ∧ pool.length ≤ 20 ∧ ∀ x ∈ pool, Cm.Mk ns false x := by
      refine ⟨ns.map some ++ [some (Str.ofString ""), none, some n0], ?_, by simp, by simp; omega, Cm.all_app Cm.mk_names ?_⟩
      · rw [Cm.strs_mv, List.map_append]; rfl
      · intro x hx
        have hx : x = some (Str.ofString "") ∨ x = none ∨ x = some n0 := by simpa using hx
        rcases hx with rfl | rfl | rfl
        · exact .inr (.inl rfl)
        · exact .inr (.inr (.inl rfl))
        · exact .inl ⟨n0, List.mem_of_getElem? hn0, rfl⟩
    rw [ep] at ha6
    have s6 := s3.trans (s4.trans s6')
    have hm6 := s6 _ _ hm2
    walk_at "go"
    refine ⟨k_app0 hm6, ?_⟩
    walk_at "go"
    refine ⟨z, _, rfl, by omega, by omega, fun r r0 r1 => ?_⟩
    walk_at "go"
    refine k_lenL ?_ (SqL.of ha6)
    rw [List.length_map]
    walk_at "go"
    have f0 := Int.emod_nonneg r (show (pool.length : Int) ≠ 0 by omega)
    have f1 := Int.emod_lt_of_pos r (show (0 : Int) < pool.length by omega)
    obtain ⟨mk, hmk, e⟩ := Cm.at_map (f := Cm.mv) (xs := pool) f0 f1
    refine k_ixL (SqL.of ha6) e ?_
    walk_at "go"
    refine k_app1 hm6 (by rw [sizeLine_eq, List.length_map]; omega) (fun H7 b7 hm7 => ?_)
    refine ⟨ms ++ [mk], _, _, rfl, (b2.trans (But.of s6)).trans b7, by rw [hm7, List.map_append]; rfl, by simp [ml], fun j c' x hc' hx => ?_⟩
    rcases Nat.lt_or_ge j ms.length with y | y
    · rw [List.getElem?_append_left y] at hx
      exact hk j c' x hc' hx
    · rw [List.getElem?_append_right y] at hx
      have ej : j = i := by
        rcases Nat.eq_zero_or_pos (j - ms.length) with w | w
        · omega
        · rw [List.getElem?_eq_none (by simp; omega)] at hx; cases hx
      subst ej
      rw [show j - ms.length = 0 by omega] at hx
      obtain rfl := Option.some.inj hx
      obtain rfl := Option.some.inj (hc'.symm.trans hci)
      exact hpool _ hmk
end
end Lw
namespace Lw
open PySem PySem.Spec PyProof.Rows L2 Gx
section
variable {P : Program} {w : World} {K : PySem.W.Frag} {mg : Str → Option Value} {base : Heap} {f : Addr} {fd : FuncData}
theorem ok__law_worths (F : FnP K "_law_worths" "_law_worths" s__law_worths f fd) (T : Txt K mg) (c__law_times : Cl P w K mg base 2 "_law_times" ["_law_x", "_law_y"] (sp__law_times K)) (c__law_plus : Cl P w K mg base 2 "_law_plus" ["_law_x", "_law_y"] (sp__law_plus K)) (c__law_value : Cl P w K mg base 1 "_law_value" ["_law_one", "_law_other", "_law_mark"] (sp__law_value K)) : FnOk P w K mg base (L2.CX P w) 3 f fd ["_law_contests", "_law_outcomes", "_law_draws", "_law_part"] (sp__law_worths K) := by
  refine F.ok sc__law_worths (fun vs H Q E h => ?_) (fun cdv A outer s H vs Q E hr h => ?_)
  · obtain ⟨cl, ol, dl, pa, us, ws, dv, cs, oss, ds, s, rfl, _⟩ := h; rfl
  · refine ⟨_, (pss_cons (ps_set (i := 4) sc__law_worths.nd rfl (Or.inl rfl) (pe_lst pa_nil)) (pss_cons (ps_for (passes_of rfl) rfl (pi_range1 rfl T.n_range (pa_cons (pe_callB (callK (K := K) (r := rLenU) rfl call_lenU) (by rfl) T.n_len (by decide +kernel) (pa_cons (pv 0) pa_nil)) pa_nil)) (pg_name (i := 5) sc__law_worths.nd rfl (Or.inr rfl)) (pss_cons (ps_set (i := 6) sc__law_worths.nd rfl (Or.inl rfl) (pe_lst pa_nil)) (pss_cons (ps_for (passes_of rfl) rfl (pi_seqU (pe_ix (ix_K (K := K) rfl) (pv 1) (pv 5) (fun _ _ => rfl))) (pg_name (i := 7) sc__law_worths.nd rfl (Or.inl rfl)) (pss_one (ps_for (passes_of rfl) rfl (pi_seqU (pe_lc (own := [("_law_name", 15)]) (g := gName 15) (by rfl) sc__law_worths.nd (pi_seqU (pe_ix (ix_K (K := K) rfl) (pe_ix (ix_K (K := K) rfl) (pv 0) (pv 5) (fun _ _ => rfl)) pe_int (fun _ _ => rfl))) (blkOk_by (own := [("_law_name", 15)]) (N := ["_law_contests", "_law_outcomes", "_law_draws", "_law_part", "_law_found", "_law_k", "_law_some", "_law_one", "_law_other", "_law_worth", "_law_number", "_law_ballot_here", "_law_mark", "_law_value_here", "_law_won", "_law_name"]) (sc := defScope s__law_worths) (by decide +kernel)) (fun _ _ _ _ _ => pg_name (i := 15) sc__law_worths.nd rfl (Or.inl rfl)) (fun _ _ _ _ _ => (pts_one (pt_cmpR (op_niUK (K := K) rfl hr) (pv 15) (pe_ix (ix_K (K := K) rfl) (pv 1) (pv 5) (fun _ _ => rfl)) (by with_unfolding_all rfl)))) (fun _ _ _ _ _ => (pv 15)))) (pg_name (i := 8) sc__law_worths.nd rfl (Or.inl rfl)) (pss_cons (ps_set (i := 9) sc__law_worths.nd rfl (Or.inl rfl) (pe_tup (pa_cons pe_int (pa_cons pe_int pa_nil)))) (pss_cons (ps_for (passes_of rfl) rfl (pi_seqU (pv 2)) (pg_tup rfl (pgs_cons (pg_name (i := 10) sc__law_worths.nd rfl (Or.inl rfl)) (pgs_cons (pg_name (i := 11) sc__law_worths.nd rfl (Or.inl rfl)) pgs_nil))) (pss_cons (ps_set (i := 12) sc__law_worths.nd rfl (Or.inl rfl) pe_str) (C8.pss_cut (ps_if (pt_cmpR op_notNU (pv 11) pe_non (nomark _)) (pss_one (ps_set (i := 12) sc__law_worths.nd rfl (Or.inl rfl) (pe_ix (ix_K (K := K) rfl) (pv 11) (pv 5) (fun _ _ => rfl)))) pss_nil) (pss_cons (ps_set (i := 13) sc__law_worths.nd rfl (Or.inl rfl) (pcall c__law_value hr (by first | decide | omega) (takes_of rfl rfl rfl rfl) (pa_cons (pv 7) (pa_cons (pv 8) (pa_cons (pv 12) pa_nil))))) (pss_cons (ps_set (i := 14) sc__law_worths.nd rfl (Or.inl rfl) (pcall c__law_times hr (by first | decide | omega) (takes_of rfl rfl rfl rfl) (pa_cons (pv 3) (pa_cons (pcall c__law_times hr (by first | decide | omega) (takes_of rfl rfl rfl rfl) (pa_cons (pe_tup (pa_cons pe_int (pa_cons pe_int pa_nil))) (pa_cons (pv 13) pa_nil))) pa_nil)))) (pss_one (ps_set (i := 9) sc__law_worths.nd rfl (Or.inl rfl) (pcall c__law_times hr (by first | decide | omega) (takes_of rfl rfl rfl rfl) (pa_cons (pv 9) (pa_cons (pcall c__law_plus hr (by first | decide | omega) (takes_of rfl rfl rfl rfl) (pa_cons (pe_tup (pa_cons (pe_op op_sub (pe_ix (ix_K (K := K) rfl) (pv 3) pe_int (fun _ _ => rfl)) (pe_ix (ix_K (K := K) rfl) (pv 3) pe_int (fun _ _ => rfl))) (pa_cons (pe_ix (ix_K (K := K) rfl) (pv 3) pe_int (fun _ _ => rfl)) pa_nil))) (pa_cons (pv 14) pa_nil))) pa_nil)))))))))) (pss_one (ps_expr (pe_bmK (K := K) rfl PySem.F.plainAttrs_list PySem.F.slot_list_append PySem.F.type_list_append mt_append (pv 6) (pa_cons (pv 9) pa_nil))))))))) (pss_one (ps_expr (pe_bmK (K := K) rfl PySem.F.plainAttrs_list PySem.F.slot_list_append PySem.F.type_list_append mt_append (pv 4) (pa_cons (pe_callTy (callK (K := K) (r := rTupV) rfl call_tupV) (by rfl) T.n_tuple (by decide +kernel) (pa_cons (pv 6) pa_nil)) pa_nil))))))) (pss_one (ps_ret (pe_callTy (callK (K := K) (r := rTupV) rfl call_tupV) (by rfl) T.n_tuple (by decide +kernel) (pa_cons (pv 4) pa_nil)))))), ?_⟩
    obtain ⟨cl, ol, dl, pa, us, ws, dv, cs, oss, ds, s, rfl, hcl, hcs, hol, hos, hdl, hds, hpa, sz, c10, ol1, d20, fit, ofit, bok, kk⟩ := h
    have ul := hcs.len
    have wl := Paired.length hos
    have dvl := Paired.length hds
    walk_at "go"
    refine k_lstx (fun f H1 nf s1 hf => ?_) (by simp)
    walk_at "go"
    refine k_lenL ?_ (seqL_same s1 hcl)
    walk_at "go"
    refine k_rng1 (by omega) ?_
    rw [show ((us.length : Nat) : Int).toNat = us.length by omega]
    refine k_loopR (n := us.length) (fun k σ H' => ∃ (t5 t6 t7 t8 t9 t10 t11 t12 t13 t14 t15 : Option V) (fv : List V), σ = [some (.ref cl), some (.ref ol), some (.ref dl), some (.ref pa), some (.ref f), t5, t6, t7, t8, t9, t10, t11, t12, t13, t14, t15] ∧ But f H1 H' ∧ H' f = some (.lst fv) ∧ fv.length = k ∧ Wos K H' fv (dueW s ds cs oss k))
      ⟨_, _, _, _, _, _, _, _, _, _, _, [], rfl, But.of (Same.refl _), hf, rfl, .nil⟩ ?_ ?_
    rotate_left
    · rintro σ H2 ⟨t5, t6, t7, t8, t9, t10, t11, t12, t13, t14, t15, fv, rfl, b2, hf2, fl, hw⟩
      walk_at "go"
      refine k_tupL (SqL.of hf2) (fun r H3 nr s3 hr => ?_)
      rw [ul] at hw
      exact kk r fv H3 ((But.same nf s1 b2).trans s3) (SqT.of hr) (hw.same s3)
    rintro k σ H2 hk ⟨t5, t6, t7, t8, t9, t10, t11, t12, t13, t14, t15, fv, rfl, b2, hf2, fl, hw⟩
    have s2 : Same H H2 := But.same nf s1 b2
    obtain ⟨p, c, e1, hci, q, hp, hq⟩ := hcs.get hk
    have eu : atI us (k : Int) = some (.ref p) := atI_nat e1
    obtain ⟨w1, os, e2, hok, op, rfl, hop⟩ := paired_at hos (i := k) (by omega)
    have eo : atI ws (k : Int) = some (.ref op) := atI_nat e2
    have ft := fit c (List.mem_of_getElem? hci)
    have off := ofit k c os hci hok
    have ek : dueK s ds cs oss k = (Co.mostC c.1 os).map (due1 s ds k) := by
      unfold dueK
      rw [List.getD_eq_getElem?_getD, List.getD_eq_getElem?_getD, hci, hok]
      rfl
    have n8 := ft.n8
    have on : os.length ≤ 8 := by have := off.1; have := ft.kn; omega
    walk_at "go"
    refine k_lstx (fun m H3 nm s3 hm => ?_) (by simp)
    walk_at "go"
    have s23 := s2.trans s3
    refine k_ixT (seqT_same s23 hol) eo ?_
    refine k_itUT (seqT_same s23 hop) ?_
    refine k_loopT (fun i σ H' => ∃ (t7 t8 t9 t10 t11 t12 t13 t14 t15 : Option V) (mv : List V), σ = [some (.ref cl), some (.ref ol), some (.ref dl), some (.ref pa), some (.ref f), some (.int (k : Int)), some (.ref m), t7, t8, t9, t10, t11, t12, t13, t14, t15] ∧ But m H3 H' ∧ H' m = some (.lst mv) ∧ PrOs K H' mv ((Co.mostA c.1 os (os.take i)).map (due1 s ds k)))
      ⟨_, _, _, _, _, _, _, _, _, [], rfl, But.of (Same.refl _), hm, .nil⟩ (fun i σ H' _ ⟨_, _, _, _, _, _, _, _, _, _, _, b, _⟩ => seqT_but b hm (seqT_same s23 hop)) ?_ ?_
    rotate_left
    · rintro σ H4 ⟨t7, t8, t9, t10, t11, t12, t13, t14, t15, mv, rfl, b4, hm4, hpr⟩
      rw [List.length_map, List.take_of_length_le (Nat.le_refl _)] at hpr
      have s24 : Same H2 H4 := But.same nm s3 b4
      have hf4 := s24 _ _ hf2
      walk_at "go"
      refine ⟨k_app0 hf4, ?_⟩
      walk_at "go"
      refine k_tupL (SqL.of hm4) (fun r H5 nr s5 hr => ?_)
      have hf5 := s5 _ _ hf4
      walk_at "go"
      refine k_app1 hf5 (by rw [sizeLine_eq]; omega) (fun H6 b6 hf6 => ?_)
      refine ⟨_, _, _, _, _, _, _, _, _, _, _, fv ++ [.ref r], rfl, (b2.trans (But.of (s24.trans s5))).trans b6, hf6, by simp [fl], ?_⟩
      unfold dueW
      rw [List.range_succ, List.map_append]
      refine paired_add ⟨r, mv, rfl, seqT_but b6 hf5 (SqT.of hr), ?_⟩ ((hw.same (s24.trans s5)).imm (imm_but b6 hf5))
      rw [ek]
      exact (hpr.same s5).imm (imm_but b6 hf5)
    rintro i x σ H4 hx ⟨t7, t8, t9, t10, t11, t12, t13, t14, t15, mv, rfl, b4, hm4, hpr⟩
    obtain ⟨o, ho, rfl⟩ := Cm.get_map hx
    have s04 : Same H H4 := But.same (s2.free nm) s23 b4
    walk_at "go"
    refine k_ixL (seqL_same s04 hcl) eu ?_
    walk_at "go"
    refine k_ixT (seqT_same s04 hp) (v := .ref q) rfl ?_
    walk_at "go"
    refine k_lcU (.inr (seqT_same s04 hq)) (fun D2 j ys H' => ys = ((c.1.take j).filter fun t => !Co.has os t).map V.str ∧ Same H4 H') (fun D2 H' nD sD hD => ⟨rfl, sD⟩) (fun D2 j ys H' nD h => h.2) ?_ ?_
    · rintro D2 j x ys H5 nD2 hx2 ⟨rfl, s5⟩ hD2
      obtain ⟨n, hn, rfl⟩ := Cm.get_map hx2
      have hlen : ((c.1.take j).filter fun t => !Co.has os t).length ≤ 60 := Nat.le_trans (List.length_filter_le ..) (by rw [List.length_take]; omega)
      refine k_lcB rfl ?_
      walk_at "go"
      refine k_ixT (seqT_same (s04.trans s5) hol) eo ?_
      refine Co.k_nothas (.inr (seqT_same (s04.trans s5) hop)) ?_
      walk_at "go"
      refine k_ifnb (fun z => ?_) (fun z => ?_)
      · walk_at "go"
        refine ⟨_, hD2, (by rw [sizeLine_eq, List.length_map]; omega), _, ⟨?_, But.same nD2 s5 But.upd⟩, upd_same⟩
        rw [take_snoc hn, List.filter_append]
        simp [z]
      · refine ⟨_, ⟨?_, s5⟩, hD2⟩
        rw [take_snoc hn, List.filter_append]
        simp [z]
    rintro D2 ys H5 nD2 ⟨rfl, s5⟩ hD2
    rw [List.length_map, List.take_of_length_le (Nat.le_refl _)] at hD2
    have hm5 := s5 _ _ hm4
    have nmD : D2 ≠ m := fun e => by subst e; rw [hm4] at nD2; cases nD2
    have s05 := s04.trans s5
    walk_at "go"
    refine k_itUL (SqL.of hD2) ?_
    refine k_loopL (fun j σ H' => ∃ (t8 t9 t10 t11 t12 t13 t14 t15 : Option V) (mv : List V), σ = [some (.ref cl), some (.ref ol), some (.ref dl), some (.ref pa), some (.ref f), some (.int (k : Int)), some (.ref m), some (.str o), t8, t9, t10, t11, t12, t13, t14, t15] ∧ But m H5 H' ∧ H' m = some (.lst mv) ∧ PrOs K H' mv ((Co.mostA c.1 os (os.take i) ++ ((c.1.filter fun t => !Co.has os t).take j).map fun t => Cm.C.beats o t).map (due1 s ds k)))
      ⟨_, _, _, _, _, _, _, _, mv, rfl, But.of (Same.refl _), hm5, by simpa using hpr.same s5⟩ (fun j σ H' _ ⟨_, _, _, _, _, _, _, _, _, _, b, _⟩ => SqL.of (b _ _ nmD hD2)) ?_ ?_
    rotate_left
    · rintro σ H6 ⟨t8, t9, t10, t11, t12, t13, t14, t15, mv, rfl, b6, hm6, hpr6⟩
      rw [List.length_map, List.take_of_length_le (Nat.le_refl _)] at hpr6
      refine ⟨_, _, _, _, _, _, _, _, _, mv, rfl, b4.trans ((But.of s5).trans b6), hm6, ?_⟩
      have e : Co.mostA c.1 os (os.take (i + 1)) = Co.mostA c.1 os (os.take i) ++ (c.1.filter fun t => !Co.has os t).map fun t => Cm.C.beats o t := by
        unfold Co.mostA
        rw [take_snoc ho, List.flatMap_append]
        simp
      rw [e]
      exact hpr6
    rintro j y σ H6 hy ⟨t8, t9, t10, t11, t12, t13, t14, t15, mv, rfl, b6, hm6, hpr6⟩
    obtain ⟨t, ht, rfl⟩ := Cm.get_map hy
    have s06 : Same H H6 := But.same (s2.free nm) s23 (b4.trans ((But.of s5).trans b6))
    have not : o ≠ t := fun e => by
      have h1 := (List.mem_filter.mp (List.mem_of_getElem? ht)).2
      rw [← e, Co.has_iff.mpr (List.mem_of_getElem? ho)] at h1
      cases h1
    walk_at "go"
    refine k_tupx (fun w0 H7 nw s7 hw0 => ?_) (by simp [sizeLine_eq])
    have s07 := s06.trans s7
    walk_at "go"
    refine k_itUL (seqL_same s07 hdl) ?_
    have e1s : Fr.fq (1 - s) = [.int ((s.den : Int) - s.num), .int (s.den : Int)] := by
      have := Wy.fq_sub 1 s
      rw [Int.one_mul] at this
      exact this
    have z1s : Fr.Sz 10 (1 - s) := sz_one_sub sz
    have vtk : ∀ (i : Nat) (d : Au.Dr), ds[i]? = some d → (vals ds k (.beats o t)).take (i + 1) = (vals ds k (.beats o t)).take i ++ [Cm.value (.beats o t) (Au.markAt k d.2)] := fun i d hd => by
      unfold vals
      exact take_snoc (by rw [List.getElem?_map, hd]; rfl)
    refine k_loopL (fun i σ H' => ∃ (wa : Addr) (t10 t11 t12 t13 t14 : Option V), σ = [some (.ref cl), some (.ref ol), some (.ref dl), some (.ref pa), some (.ref f), some (.int (k : Int)), some (.ref m), some (.str o), some (.str t), some (.ref wa), t10, t11, t12, t13, t14, t15] ∧ Same H7 H' ∧ SqT K H' wa (Fr.fq (Ag.wor s ((vals ds k (.beats o t)).take i))) ∧ Fr.Sz (30 * i + 2) (Ag.wor s ((vals ds k (.beats o t)).take i)))
      ⟨w0, _, _, _, _, _, rfl, Same.refl _, by show SqT K H7 w0 (Fr.fq 1); rw [Cm.fq1]; exact SqT.of hw0, Ru.sz1 (by omega)⟩ (fun i σ H' _ ⟨_, _, _, _, _, _, _, b, _⟩ => seqL_same (s07.trans b) hdl) ?_ ?_
    rotate_left
    · rintro σ H8 ⟨wa, t10, t11, t12, t13, t14, rfl, s8, hwa, zw⟩
      rw [dvl, List.take_of_length_le (by unfold vals; rw [List.length_map]; exact Nat.le_refl _)] at hwa
      have hm8 := s8 _ _ (s7 _ _ hm6)
      have ml : mv.length ≤ 1000 := by
        have h1 := hpr6.len
        have h2 := Co.most_len (ns := c.1) (os := os) (xs := os.take i)
        rw [List.length_map, List.length_append, List.length_map, List.length_take] at h1
        have h3 : (c.1.filter fun t => !Co.has os t).length ≤ 8 := Nat.le_trans (List.length_filter_le ..) n8
        have h4 : (os.take i).length * c.1.length ≤ 8 * 8 := Nat.mul_le_mul (by rw [List.length_take]; omega) n8
        omega
      walk_at "go"
      refine ⟨k_app0 hm8, ?_⟩
      walk_at "go"
      refine k_app1 hm8 (by rw [sizeLine_eq]; omega) (fun H9 b9 hm9 => ?_)
      refine ⟨_, _, _, _, _, _, _, _, mv ++ [.ref wa], rfl, b6.trans ((But.of (s7.trans s8)).trans b9), hm9, ?_⟩
      rw [take_snoc ht, List.map_append (f := fun t => Cm.C.beats o t), ← List.append_assoc, List.map_append (f := due1 s ds k)]
      exact PrOs.snoc (w := due1 s ds k (.beats o t)) ⟨wa, rfl, seqT_but b9 hm8 hwa⟩ ((hpr6.same (s7.trans s8)).imm (imm_but b9 hm8))
    rintro i' x σ H8 hx' ⟨wa, t10, t11, t12, t13, t14, rfl, s8, hwa, zw⟩
    have hi' := (List.getElem?_eq_some_iff.mp hx').1
    obtain ⟨x2, d, e3, e4, dp, bv, rfl, hdp, hbv⟩ := paired_at hds hi'
    rw [hx'] at e3
    obtain rfl := Option.some.inj e3
    have s08 := s07.trans s8
    have bd := bok d (List.mem_of_getElem? e4)
    have hdp8 := seqT_same s08 hdp
    have hbv8 := hbv.same s08
    refine k_gtup hdp8 rfl ?_
    walk_at "go"
    refine k_cut (fun σ H' => σ = [some (.ref cl), some (.ref ol), some (.ref dl), some (.ref pa), some (.ref f), some (.int (k : Int)), some (.ref m), some (.str o), some (.str t), some (.ref wa), some (.int (d.1 : Int)), some bv, some (Cm.mv (Au.markAt k d.2)), t13, t14, t15] ∧ H' = H8) ?_ ?_
    · cases hd2 : d.2 with
      | none =>
        rw [hd2] at hbv8
        obtain rfl : bv = .non := hbv8
        walk_at "go"
        exact ⟨rfl, rfl⟩
      | some ms =>
        rw [hd2] at hbv8
        obtain ⟨bp, rfl, hbp⟩ := hbv8
        obtain ⟨msl, _⟩ := bd ms hd2
        walk_at "go"
        refine k_ixT hbp (v := Cm.mv (ms.getD k none)) (atI_nat ?_) ?_
        · rw [List.getElem?_map, List.getElem?_eq_getElem (by omega), List.getD_eq_getElem?_getD, List.getElem?_eq_getElem (by omega)]
          rfl
        walk_at "go"
        exact ⟨rfl, rfl⟩
    rintro σ H9 ⟨rfl, rfl⟩
    walk_at "go"
    refine ⟨o, t, Au.markAt k d.2, rfl, not, fun va H10 s10 nva hva => ?_⟩
    have zv := Cm.sz_value (n := 0) (.beats o t) trivial (Au.markAt k d.2)
    walk_at "go"
    refine k_tupx (fun t2 H11 nt2 s11 ht2 => ?_) (by simp [sizeLine_eq])
    walk_at "go"
    refine ⟨t2, va, 2, _, 3, _, rfl, by rw [Wy.fq2]; exact SqT.of ht2, seqT_same s11 hva, Wy.sz2, zv, by omega, fun r1 H12 s12 nr1 hr1 z1 => ?_⟩
    walk_at "go"
    have s8c := s10.trans (s11.trans s12)
    refine ⟨pa, r1, s, _, 7, _, rfl, seqT_same (s08.trans s8c) hpa, hr1, sz, z1, by omega, fun r2 H13 s13 nr2 hr2 z2 => ?_⟩
    walk_at "go"
    have s8d := s8c.trans s13
    have hpa13 := seqT_same (s08.trans s8d) hpa
    refine k_ixT hpa13 (v := .int (s.den : Int)) rfl ?_
    walk_at "go"
    refine k_ixT hpa13 (v := .int s.num) rfl ?_
    walk_at "go"
    refine k_ixT hpa13 (v := .int (s.den : Int)) rfl ?_
    walk_at "go"
    refine k_tupx (fun t3 H14 nt3 s14 ht3 => ?_) (by simp [sizeLine_eq])
    walk_at "go"
    refine ⟨t3, r2, 1 - s, _, 10, _, rfl, by rw [e1s]; exact SqT.of ht3, seqT_same s14 hr2, z1s, z2, by omega, fun r3 H15 s15 nr3 hr3 z3 => ?_⟩
    walk_at "go"
    have s8e := s8d.trans (s14.trans s15)
    refine ⟨wa, r3, _, _, _, _, rfl, seqT_same s8e hwa, hr3, zw, z3, by omega, fun r4 H16 s16 nr4 hr4 z4 => ?_⟩
    have ew : Ag.wor s ((vals ds k (.beats o t)).take i') * (1 - s + s * (2 * Cm.value (.beats o t) (Au.markAt k d.2))) = Ag.wor s ((vals ds k (.beats o t)).take (i' + 1)) := by rw [vtk i' d e4, Ag.wor_snoc]; rfl
    rw [ew] at hr4 z4
    refine ⟨r4, _, _, _, _, _, rfl, s8.trans (s8e.trans s16), hr4, z4.mono (by omega)⟩
end
end Lw
namespace Lw
open PySem PySem.Spec PyProof.Rows L2 Gx
section
variable {P : Program} {w : World} {K : PySem.W.Frag} {mg : Str → Option Value} {base : Heap} {f : Addr} {fd : FuncData}
theorem ok__law_exchanged (F : FnP K "_law_exchanged" "_law_exchanged" s__law_exchanged f fd) (T : Txt K mg) (c__law_mix : Cl P w K mg base 1 "_law_mix" ["_law_cell", "_law_k"] (sp__law_mix K)) : FnOk P w K mg base (L2.CX P w) 2 f fd ["_law_draws", "_law_cell"] (sp__law_exchanged K) := by
  refine F.ok sc__law_exchanged (fun vs H Q E h => ?_) (fun cdv A outer s H vs Q E hr h => ?_)
  · obtain ⟨z, l, us, rfl, _⟩ := h; rfl
  · refine ⟨_, (pss_cons (ps_set (i := 2) sc__law_exchanged.nd rfl (Or.inl rfl) (pe_callTy (callK (K := K) (r := rLstU) rfl call_lstU) (by rfl) T.n_list (by decide +kernel) (pa_cons (pv 0) pa_nil))) (pss_cons (ps_set (i := 3) sc__law_exchanged.nd rfl (Or.inl rfl) (pe_lst pa_nil)) (pss_cons (ps_for (passes_of rfl) rfl (pi_range1 rfl T.n_range (pa_cons (pe_callB (callK (K := K) (r := rLenU) rfl call_lenU) (by rfl) T.n_len (by decide +kernel) (pa_cons (pv 0) pa_nil)) pa_nil)) (pg_name (i := 4) sc__law_exchanged.nd rfl (Or.inl rfl)) (pss_one (ps_expr (pe_bmK (K := K) rfl PySem.F.plainAttrs_list PySem.F.slot_list_append PySem.F.type_list_append mt_append (pv 3) (pa_cons (pe_bmK (K := K) rfl PySem.F.plainAttrs_list PySem.F.slot_list_pop PySem.F.type_list_pop mt_popAt (pv 2) (pa_cons (pe_op op_modN (pcall c__law_mix hr (by first | decide | omega) (takes_of rfl rfl rfl rfl) (pa_cons (pv 1) (pa_cons (pv 4) pa_nil))) (pe_callB (callK (K := K) (r := rLenU) rfl call_lenU) (by rfl) T.n_len (by decide +kernel) (pa_cons (pv 2) pa_nil))) pa_nil)) pa_nil))))) (pss_one (ps_ret (pv 3)))))), ?_⟩
    obtain ⟨z, l, us, rfl, hl, u100, kk⟩ := h
    walk_at "go"
    refine k_lstL hl (fun a H1 na s1 ha => ?_)
    walk_at "go"
    refine k_lstx (fun f H2 nf s2 hf => ?_) (by simp)
    walk_at "go"
    have ha2 := s2 _ _ ha
    have naf : a ≠ f := fun e => by subst e; rw [ha] at nf; cases nf
    refine k_lenL ?_ (seqL_same (s1.trans s2) hl)
    walk_at "go"
    refine k_rng1 (by omega) ?_
    rw [show ((us.length : Nat) : Int).toNat = us.length by omega]
    refine k_loopR (n := us.length) (fun i σ H' => ∃ (xs ys : List V) (t1 : Option V), σ = [some (.ref l), some (.int z), some (.ref a), some (.ref f), t1] ∧ But2 a f H2 H' ∧ H' a = some (.lst xs) ∧ H' f = some (.lst ys) ∧ xs.length + i = us.length ∧ (ys ++ xs).Perm us)
      ⟨us, [], _, rfl, But2.refl _ _ _, ha2, hf, by omega, List.Perm.refl _⟩ ?_ ?_
    rotate_left
    · rintro σ H3 ⟨xs, ys, t1, rfl, b3, ha3, hf3, xl, pm⟩
      walk_at "go"
      obtain rfl : xs = [] := List.eq_nil_of_length_eq_zero (by omega)
      rw [List.append_nil] at pm
      have f0 : H f = none := s1.free nf
      exact kk f ys H3 (fun c o h => b3 _ _ (ne_of_none h na) (ne_of_none h f0) (s2 _ _ (s1 _ _ h))) f0 hf3 pm
    rintro i σ H3 hi ⟨xs, ys, t1, rfl, b3, ha3, hf3, xl, pm⟩
    have pl := pm.length_eq
    rw [List.length_append] at pl
    walk_at "go"
    refine ⟨k_app0 hf3, ?_⟩
    walk_at "go"
    refine ⟨k_app0 ha3, ?_⟩
    walk_at "go"
    refine ⟨z, (i : Nat), rfl, by omega, by omega, fun r r0 r1 => ?_⟩
    walk_at "go"
    refine k_lenL ?_ (SqL.of ha3)
    walk_at "go"
    have f0 := Int.emod_nonneg r (show (xs.length : Int) ≠ 0 by omega)
    have f1 := Int.emod_lt_of_pos r (show (0 : Int) < xs.length by omega)
    obtain ⟨j, ej⟩ := Int.eq_ofNat_of_zero_le f0
    rw [ej] at f1 ⊢
    have hj : j < xs.length := by omega
    refine k_popAt ha3 (List.getElem?_eq_getElem hj) (by omega) (fun H4 b4 ha4 => ?_)
    have hf4 := b4 _ _ (Ne.symm naf) hf3
    walk_at "go"
    refine k_app1 hf4 (by rw [sizeLine_eq]; omega) (fun H5 b5 hf5 => ?_)
    refine ⟨_, _, _, rfl, b3.trans ((But2.left b4).trans (But2.right b5)), b5 _ _ naf ha4, hf5, ?_, ?_⟩
    · rw [List.length_eraseIdx_of_lt hj]; omega
    · rw [List.append_assoc]
      exact ((List.Perm.append_left ys (get_perm hj)).symm).trans pm
end
end Lw
namespace Lw
open PySem PySem.Spec PyProof.Rows L2 Gx
section
variable {P : Program} {w : World} {K : PySem.W.Frag} {mg : Str → Option Value} {base : Heap} {f : Addr} {fd : FuncData}
theorem ok_law (F : FnP K "law" "law" s_law f fd) (T : Txt K mg) (m_Audit_worths : MCl P w K mg base 2 "Audit" "worths" ["self"] (sp_Audit_worths K)) (m_Audit_draw : MCl P w K mg base 8 "Audit" "draw" ["self", "number", "ballot"] (sp_Audit_draw K)) (k_Audit : KCl P w K mg base 4 "Audit" ["self", "contests", "outcomes", "limits", "many", "record", "rule", "again", "most"] (sp_Audit___init__ K)) (k_Fixed : KCl P w K mg base 1 "Fixed" ["self", "part"] (sp_Fixed___init__ K)) (c__law_exchanged : Cl P w K mg base 2 "_law_exchanged" ["_law_draws", "_law_cell"] (sp__law_exchanged K)) (c__law_at : Cl P w K mg base 1 "_law_at" ["_law_script", "_law_k"] (sp__law_at K)) (k_Most : KCl P w K mg base 2 "Most" ["self", "names", "seats"] (sp_Most___init__ K)) (c__law_worths : Cl P w K mg base 3 "_law_worths" ["_law_contests", "_law_outcomes", "_law_draws", "_law_part"] (sp__law_worths K)) (c__law_ballot : Cl P w K mg base 2 "_law_ballot" ["_law_cell", "_law_contests"] (sp__law_ballot K)) (c__law_mix : Cl P w K mg base 1 "_law_mix" ["_law_cell", "_law_k"] (sp__law_mix K)) (c__law_lowest : Cl P w K mg base 1 "_law_lowest" ["_law_a", "_law_b"] (sp__law_lowest K)) (c__law_guess : Cl P w K mg base 2 "_law_guess" ["_law_contest_here", "_law_cell"] (sp__law_guess K)) (c__law_contest : Cl P w K mg base 2 "_law_contest" ["_law_cell", "_law_names_here"] (sp__law_contest K)) (c__law_names : Cl P w K mg base 2 "_law_names" ["_law_cell", "_law_many"] (sp__law_names K)) : FnOk P w K mg base CX0 9 f fd ["_law_script"] (sp_law K) := by
  refine F.ok sc_law (fun vs H Q E h => ?_) (fun cdv A outer s H vs Q E hr h => ?_)
  · obtain ⟨a, ns, rfl, _⟩ := h; rfl
  · refine ⟨_, PSs.nox (pss_cons (ps_set (i := 1) sc_law.nd rfl (Or.inl rfl) (pcallN c__law_at hr (by first | decide | omega) (pa_cons (pv 0) (pa_cons pe_int pa_nil)))) (pss_cons (ps_set (i := 2) sc_law.nd rfl (Or.inl rfl) (pcallN c__law_names hr (by first | decide | omega) (pa_cons (pcallN c__law_at hr (by first | decide | omega) (pa_cons (pv 0) (pa_cons pe_int pa_nil))) (pa_cons pe_int pa_nil)))) (pss_cons (ps_set (i := 3) sc_law.nd rfl (Or.inr rfl) (pe_lst pa_nil)) (pss_cons (ps_for PassesOwn.never rfl (pi_range1 rfl T.n_range (pa_cons (pe_op (op_addK (K := K) rfl) pe_int (pe_op op_modN (pcallN c__law_mix hr (by first | decide | omega) (pa_cons (pv 1) (pa_cons pe_int pa_nil))) pe_int)) pa_nil)) (pg_name (i := 4) sc_law.nd rfl (Or.inl rfl)) (pss_one (ps_expr (pe_bmK (K := K) rfl PySem.F.plainAttrs_list PySem.F.slot_list_append PySem.F.type_list_append mt_append (pv 3) (pa_cons (pcallN c__law_contest hr (by first | decide | omega) (pa_cons (pcallN c__law_at hr (by first | decide | omega) (pa_cons (pv 0) (pa_cons (pe_op (op_addK (K := K) rfl) pe_int (pv 4)) pa_nil))) (pa_cons (pe_slice (sl_K (K := K) rfl) (pv 2) (po_some (pe_op op_modN (pcallN c__law_mix hr (by first | decide | omega) (pa_cons (pcallN c__law_at hr (by first | decide | omega) (pa_cons (pv 0) (pa_cons (pe_op (op_addK (K := K) rfl) pe_int (pv 4)) pa_nil))) (pa_cons pe_int pa_nil))) pe_int)) po_none) pa_nil))) pa_nil))))) (pss_cons (ps_set (i := 5) sc_law.nd rfl (Or.inr rfl) (pe_callTy (callK (K := K) (r := rTupV) rfl call_tupV) (by rfl) T.n_tuple (by decide +kernel) (pa_cons (pe_lc (own := [("_law_k", 4)]) (g := gName 4) (by rfl) sc_law.nd (pi_range1 rfl T.n_range (pa_cons (pe_callB (callK (K := K) (r := rLenU) rfl call_lenU) (by rfl) T.n_len (by decide +kernel) (pa_cons (pv 3) pa_nil)) pa_nil)) (blkOk_by (own := [("_law_k", 4)]) (N := ["_law_script", "_law_head", "_law_names_here", "_law_contests", "_law_k", "_law_outcomes", "_law_part", "_law_many", "_law_draws", "_law_cell", "_law_due", "_law_made", "_law_limits", "_law_orders", "_law_order", "_law_audits", "_law_audit", "_law_names_here_here", "_law_seats"]) (sc := defScope s_law) (by decide +kernel)) (fun _ _ _ _ _ => pg_name (i := 4) sc_law.nd rfl (Or.inl rfl)) (fun _ _ _ _ _ => pts_nil) (fun _ _ _ _ _ => (pcallN c__law_guess hr (by first | decide | omega) (pa_cons (pe_ix (ix_K (K := K) rfl) (pv 3) (pv 4) (fun _ _ => rfl)) (pa_cons (pcallN c__law_at hr (by first | decide | omega) (pa_cons (pv 0) (pa_cons (pe_op (op_addK (K := K) rfl) pe_int (pv 4)) pa_nil))) pa_nil))))) pa_nil))) (pss_cons (ps_set (i := 6) sc_law.nd rfl (Or.inr rfl) (pcallN c__law_lowest hr (by first | decide | omega) (pa_cons (pe_op op_modN (pcallN c__law_mix hr (by first | decide | omega) (pa_cons (pv 1) (pa_cons pe_int pa_nil))) pe_int) (pa_cons pe_int pa_nil)))) (pss_cons (ps_set (i := 7) sc_law.nd rfl (Or.inr rfl) (pe_op (op_addK (K := K) rfl) pe_int (pe_op op_modN (pcallN c__law_mix hr (by first | decide | omega) (pa_cons (pv 1) (pa_cons pe_int pa_nil))) pe_int))) (pss_cons (ps_set (i := 8) sc_law.nd rfl (Or.inl rfl) (pe_lst pa_nil)) (pss_cons (ps_for PassesOwn.never rfl (pi_range2 rfl T.n_range (pa_cons pe_int (pa_cons (pe_callB (call_maxU rfl) (by rfl) T.n_max (by decide +kernel) (pa_cons pe_int (pa_cons (pe_callB (call_minU rfl) (by rfl) T.n_min (by decide +kernel) (pa_cons (pe_callB (callK (K := K) (r := rLenU) rfl call_lenU) (by rfl) T.n_len (by decide +kernel) (pa_cons (pv 0) pa_nil)) (pa_cons pe_int pa_nil))) pa_nil))) pa_nil))) (pg_name (i := 4) sc_law.nd rfl (Or.inl rfl)) (pss_cons (ps_set (i := 9) sc_law.nd rfl (Or.inl rfl) (pcallN c__law_at hr (by first | decide | omega) (pa_cons (pv 0) (pa_cons (pv 4) pa_nil)))) (pss_one (ps_expr (pe_bmK (K := K) rfl PySem.F.plainAttrs_list PySem.F.slot_list_append PySem.F.type_list_append mt_append (pv 8) (pa_cons (pe_tup (pa_cons (pe_op op_modN (pcallN c__law_mix hr (by first | decide | omega) (pa_cons (pv 9) (pa_cons pe_int pa_nil))) (pv 7)) (pa_cons (pcallN c__law_ballot hr (by first | decide | omega) (pa_cons (pv 9) (pa_cons (pv 3) pa_nil))) pa_nil))) pa_nil)))))) (pss_cons (ps_set (i := 10) sc_law.nd rfl (Or.inr rfl) (pcallN c__law_worths hr (by first | decide | omega) (pa_cons (pv 3) (pa_cons (pv 5) (pa_cons (pv 8) (pa_cons (pv 6) pa_nil)))))) (pss_cons (ps_set (i := 11) sc_law.nd rfl (Or.inr rfl) (pe_callTy (callK (K := K) (r := rTupV) rfl call_tupV) (by rfl) T.n_tuple (by decide +kernel) (pa_cons (pe_lc (own := [("_law_names_here_here", 17), ("_law_seats", 18)]) (g := (gTup _ 2 (gCons (gName 17) (gCons (gName 18) gNil)))) (by rfl) sc_law.nd (pi_seqU (pv 3)) (blkOk_by (own := [("_law_names_here_here", 17), ("_law_seats", 18)]) (N := ["_law_script", "_law_head", "_law_names_here", "_law_contests", "_law_k", "_law_outcomes", "_law_part", "_law_many", "_law_draws", "_law_cell", "_law_due", "_law_made", "_law_limits", "_law_orders", "_law_order", "_law_audits", "_law_audit", "_law_names_here_here", "_law_seats"]) (sc := defScope s_law) (by decide +kernel)) (fun _ _ _ _ _ => (pg_tup rfl (pgs_cons (pg_name (i := 17) sc_law.nd rfl (Or.inl rfl)) (pgs_cons (pg_name (i := 18) sc_law.nd rfl (Or.inl rfl)) pgs_nil)))) (fun _ _ _ _ _ => pts_nil) (fun _ _ _ _ _ => (pmake rfl k_Most hr (by first | decide | omega) (pa_cons (pv 17) (pa_cons (pv 18) pa_nil))))) pa_nil))) (pss_cons (ps_set (i := 12) sc_law.nd rfl (Or.inr rfl) (pe_op (op_mulK (K := K) rfl) (pe_tup (pa_cons (pe_tup (pa_cons pe_int (pa_cons pe_int pa_nil))) pa_nil)) (pe_callB (callK (K := K) (r := rLenU) rfl call_lenU) (by rfl) T.n_len (by decide +kernel) (pa_cons (pv 3) pa_nil)))) (pss_cons (ps_set (i := 13) sc_law.nd rfl (Or.inl rfl) (pe_lst (pa_cons (pv 8) (pa_cons (pe_revL (pv 8)) (pa_cons (pcallN c__law_exchanged hr (by first | decide | omega) (pa_cons (pv 8) (pa_cons (pcallN c__law_at hr (by first | decide | omega) (pa_cons (pv 0) (pa_cons pe_int pa_nil))) pa_nil))) pa_nil))))) (pss_cons (ps_setLc (i := 15) (own := [("_law_order", 14)]) (g := gName 14) (by rfl) sc_law.nd rfl rfl (sw_true rfl rfl rfl (by decide +kernel)) (pi_seqU (pv 13)) (blkOk_by (own := [("_law_order", 14)]) (N := ["_law_script", "_law_head", "_law_names_here", "_law_contests", "_law_k", "_law_outcomes", "_law_part", "_law_many", "_law_draws", "_law_cell", "_law_due", "_law_made", "_law_limits", "_law_orders", "_law_order", "_law_audits", "_law_audit", "_law_names_here_here", "_law_seats"]) (sc := defScope s_law) (by decide +kernel)) (fun _ _ _ _ _ => pg_name (i := 14) sc_law.nd rfl (Or.inl rfl)) (fun _ _ _ _ _ => pts_nil) (fun _ _ _ _ _ => (pmake rfl k_Audit hr (by first | decide | omega) (pa_cons (pv 11) (pa_cons (pv 5) (pa_cons (pv 12) (pa_cons (pv 7) (pa_cons pe_non (pa_cons (pmake rfl k_Fixed hr (by first | decide | omega) (pa_cons (pv 6) pa_nil)) (pa_cons pe_bl (pa_cons pe_int pa_nil))))))))))) (pss_cons (ps_for PassesOwn.never rfl (pi_range1 rfl T.n_range (pa_cons (pe_callB (callK (K := K) (r := rLenU) rfl call_lenU) (by rfl) T.n_len (by decide +kernel) (pa_cons (pv 8) pa_nil)) pa_nil)) (pg_name (i := 4) sc_law.nd rfl (Or.inl rfl)) (pss_one (ps_for PassesOwn.never rfl (pi_zipU (K := K) rfl (by rfl) T.n_zip (pa_cons (pv 15) (pa_cons (pv 13) pa_nil))) (pg_tup rfl (pgs_cons (pg_name (i := 16) sc_law.nd rfl (Or.inl rfl)) (pgs_cons (pg_name (i := 14) sc_law.nd rfl (Or.inl rfl)) pgs_nil))) (pss_one (ps_if (pt_cmpR (op_neK (K := K) rfl hr) (pmethN rfl m_Audit_draw hr (by first | decide | omega) (pv 16) (pa_cons (pe_ix (ix_K (K := K) rfl) (pe_ix (ix_K (K := K) rfl) (pv 14) (pv 4) (fun _ _ => rfl)) pe_int (fun _ _ => rfl)) (pa_cons (pe_ix (ix_K (K := K) rfl) (pe_ix (ix_K (K := K) rfl) (pv 14) (pv 4) (fun _ _ => rfl)) pe_int (fun _ _ => rfl)) pa_nil))) pe_str (nomark _)) (pss_one (ps_ret pe_bl)) pss_nil))))) (pss_one (ps_ret (pe_cmpR (op_eqK (K := K) rfl hr) (pe_lc (own := [("_law_audit", 16)]) (g := gName 16) (by rfl) sc_law.nd (pi_seqU (pv 15)) (blkOk_by (own := [("_law_audit", 16)]) (N := ["_law_script", "_law_head", "_law_names_here", "_law_contests", "_law_k", "_law_outcomes", "_law_part", "_law_many", "_law_draws", "_law_cell", "_law_due", "_law_made", "_law_limits", "_law_orders", "_law_order", "_law_audits", "_law_audit", "_law_names_here_here", "_law_seats"]) (sc := defScope s_law) (by decide +kernel)) (fun _ _ _ _ _ => pg_name (i := 16) sc_law.nd rfl (Or.inl rfl)) (fun _ _ _ _ _ => (pts_one (pt_cmpR (op_neK (K := K) rfl hr) (pmethN0 rfl m_Audit_worths hr (by first | decide | omega) (pv 16)) (pv 10) (nomark _)))) (fun _ _ _ _ _ => (pv 16))) (pe_lst pa_nil) (nomark _))))))))))))))))))), ?_⟩
    obtain ⟨a, ns, rfl, hS, hl, kk⟩ := h
    walk_at "go"
    refine ⟨a, ns, 0, rfl, hS, hl, by decide, by decide, fun head H1 s1 => ?_⟩
    walk_at "go"
    refine ⟨a, ns, 1, rfl, seqL_same s1 hS, hl, by decide, by decide, fun c1 H2 s2 => ?_⟩
    walk_at "go"
    refine ⟨c1, 4, rfl, by decide, fun q nm H3 s3 nq hq nml nd hnm => ?_⟩
    walk_at "go"
    refine k_lstx (fun cl H4 ncl s4 hcl => ?_) (by simp)
    walk_at "go"
    refine ⟨head, 1, rfl, by decide, by decide, fun r1 r10 r11 => ?_⟩
    walk_at "go"
    refine k_rng1 (by omega) ?_
    have s04 := s1.trans (s2.trans (s3.trans s4))
    have hq4 := s4 _ _ hq
    have nqc : q ≠ cl := fun e => by subst e; rw [hq] at ncl; cases ncl
    refine k_loopR (n := (1 + r1 % 2).toNat) (fun i σ H' => ∃ (t4 : Option V) (cv : List V) (cs : List Ag.C), σ = [some (.ref a), some (.int head), some (.ref q), some (.ref cl), t4, none, none, none, none, none, none, none, none, none, none, none, none, none, none] ∧ But cl H4 H' ∧ H' cl = some (.lst cv) ∧ Ag.Kqs K H' cv cs ∧ cs.length = i ∧ ∀ c ∈ cs, Ag.Fit c)
      ⟨_, [], [], rfl, But.of (Same.refl _), hcl, .nil, rfl, fun c h => by cases h⟩ ?_ ?_
    · rintro i σ H5 hi ⟨t4, cv, cs, rfl, b5, hcl5, hcs, csl, fit⟩
      have s05 : Same H H5 := But.same (((s1.trans s2).trans s3).free ncl) s04 b5
      have hq5 := b5 _ _ nqc hq4
      walk_at "go"
      refine ⟨k_app0 hcl5, ?_⟩
      walk_at "go"
      refine ⟨a, ns, _, rfl, seqL_same s05 hS, hl, by omega, by omega, fun c2 H6 s6 => ?_⟩
      walk_at "go"
      refine ⟨a, ns, _, rfl, seqL_same (s05.trans s6) hS, hl, by omega, by omega, fun c3 H7 s7 => ?_⟩
      walk_at "go"
      refine ⟨c3, 2, rfl, by decide, by decide, fun r2 r20 r21 => ?_⟩
      walk_at "go"
      obtain ⟨lo, elo⟩ := Int.eq_ofNat_of_zero_le (show 0 ≤ r2 % 3 by omega)
      rw [elo]
      have s57 := s6.trans s7
      refine k_slL (SqL.of (s57 _ _ hq5)) (fun l8 H8 nl8 s8 hl8 => ?_)
      rw [Ct.from_ (by rw [List.length_map]; omega), ← List.map_drop] at hl8
      walk_at "go"
      refine ⟨c2, l8, nm.drop lo, rfl, hl8, by rw [List.length_drop]; omega, by rw [List.length_drop]; omega, fun p k H9 s9 hk k1 kn => ?_⟩
      have s59 := s57.trans (s8.trans s9)
      have hcl9 := s59 _ _ hcl5
      have cvl := hcs.len
      walk_at "go"
      refine k_app1 hcl9 (by rw [sizeLine_eq]; omega) (fun H10 b10 hcl10 => ?_)
      refine ⟨_, _, cs ++ [(nm.drop lo, k)], rfl, (b5.trans (But.of s59)).trans b10, hcl10, Ag.Kqs.snoc (hk.imm (imm_but b10 hcl9)) (hcs.imm ((imm_same s59).trans (imm_but b10 hcl9))), by simp [csl], fun c hc => ?_⟩
      rcases List.mem_append.mp hc with hc | hc
      · exact fit c hc
      · obtain rfl := List.mem_singleton.mp hc
        exact ⟨k1, kn, by show (nm.drop lo).length ≤ 8; rw [List.length_drop]; omega, nd.sublist (List.drop_sublist _ _), fun s hs => hnm s (List.mem_of_mem_drop hs)⟩
    rintro σ H5 ⟨t4, cv, cs, rfl, b5, hcl5, hcs, csl, fit⟩
    have s05 : Same H H5 := But.same (((s1.trans s2).trans s3).free ncl) s04 b5
    have cvl := hcs.len
    have c1' : 1 ≤ cs.length := by omega
    have c2' : cs.length ≤ 2 := by omega
    clear b5 s04 hq4 nqc hcl s4 hq nd hnm nml
    walk_at "go"
    refine k_lenL ?_ (SqL.of hcl5)
    walk_at "go"
    refine k_rng1 (by omega) ?_
    rw [show ((cv.length : Nat) : Int).toNat = cv.length by omega]
    refine k_lcR (lo := 0) (n := cv.length) (fun D i ys H' => Same H5 H' ∧ ∃ oss : List (List Str), Oss K H' ys oss ∧ oss.length = i ∧ ∀ (k : Nat) (c : Ag.C) (os : List Str), cs[k]? = some c → oss[k]? = some os → Co.fit c.1 c.2 os) (fun D H' nD sD hD => ⟨sD, [], .nil, rfl, fun k c os _ h => by simp at h⟩) ?_ ?_
    · rintro D i ys H6 nD hi ⟨s6, oss, hos, ol, ofit⟩ hD
      refine k_lcB rfl ?_
      obtain ⟨p, c, e1, e2, hk⟩ := hcs.get hi
      walk_at "go"
      refine k_ixL (SqL.of (s6 _ _ hcl5)) (v := .ref p) (by rw [Int.zero_add]; exact atI_nat e1) ?_
      walk_at "go"
      refine ⟨a, ns, _, rfl, seqL_same (s05.trans s6) hS, hl, by omega, by omega, fun c3 H7 s7 => ?_⟩
      walk_at "go"
      have ft := fit c (List.mem_of_getElem? e2)
      refine ⟨c3, p, c, rfl, hk.imm (imm_same (s6.trans s7)), ft, fun r os H8 s8 hr fo => ?_⟩
      have s68 := s7.trans s8
      have hD8 := s68 _ _ hD
      have yl := Paired.length hos
      refine ⟨_, hD8, (by rw [sizeLine_eq]; omega), _, ⟨But.same nD (s6.trans s68) But.upd, oss ++ [os], paired_add ⟨r, rfl, seqT_but But.upd hD8 hr⟩ (Oss.imm ((imm_same s68).trans (imm_but But.upd hD8)) hos), by simp [ol], fun k c' os' h1 h2 => ?_⟩, upd_same⟩
      rcases Nat.lt_or_ge k oss.length with y | y
      · rw [List.getElem?_append_left y] at h2
        exact ofit k c' os' h1 h2
      · have hkl := (List.getElem?_eq_some_iff.mp h2).1
        rw [List.length_append] at hkl
        have ek : k = oss.length := by simp at hkl; omega
        subst ek
        rw [List.getElem?_append_right (Nat.le_refl _), Nat.sub_self] at h2
        obtain rfl := Option.some.inj h2
        rw [ol] at h1
        rw [h1] at e2
        obtain rfl := Option.some.inj e2
        exact fo
    rintro D ys H6 nD ⟨s6, oss, hos, ol, ofit⟩ hD
    walk_at "go"
    refine k_tupL (SqL.of hD) (fun ot H7 not s7 hot => ?_)
    have s57 := s6.trans s7
    replace hos := Oss.imm (imm_same s7) hos
    replace hcs := hcs.imm (imm_same s57)
    have hcl7 := s57 _ _ hcl5
    have s07 := s05.trans s57
    clear nD hD s6 s7 s57 s05 hcl5
    walk_at "go"
    refine ⟨head, 3, rfl, by decide, by decide, fun r3 r30 r31 => ?_⟩
    walk_at "go"
    refine ⟨_, 100, rfl, by decide, okd_den (n := 7) (by decide) (by decide) (by decide), fun pa H8 s8 npa hpa => ?_⟩
    have su := Ru.unit (a := r3 % 101) (b := 100) (by omega) (by omega) (by decide)
    have sz : Fr.Sz 7 (Rat.divInt (r3 % 101) 100) := Fr.sz_divInt (by decide) (by show _ < 128; omega) (by decide)
    generalize hss : Rat.divInt (r3 % 101) 100 = s at hpa su sz
    walk_at "go"
    refine ⟨head, 4, rfl, by decide, by decide, fun r4 r40 r41 => ?_⟩
    walk_at "go"
    obtain ⟨n, en⟩ := Int.eq_ofNat_of_zero_le (show 0 ≤ 1 + r4 % 60 by omega)
    rw [en]
    have n1 : 1 ≤ n := by omega
    have n60 : n ≤ 60 := by omega
    have S : Ag.Set cs oss n s := ⟨c1', by omega, by omega, fit, ofit, n1, n60, su.1, su.2, sz⟩
    refine k_lstx (fun dl H9 ndl s9 hdl => ?_) (by simp)
    walk_at "go"
    refine k_lenL ?_ (seqL_same (s07.trans (s8.trans s9)) hS)
    rw [List.length_map]
    walk_at "go"
    obtain ⟨m, em, m1, m12⟩ : ∃ m : Nat, (max 9 (min (ns.length : Int) 18) - 6).toNat = m ∧ 1 ≤ m ∧ m ≤ 12 := ⟨_, rfl, by omega, by omega⟩
    refine k_rng2 (by omega) ?_
    rw [em]
    have s79 := s8.trans s9
    have s09 := s07.trans s79
    have hcl9 := s79 _ _ hcl7
    have ndc : cl ≠ dl := fun e => by rw [← e, s8 _ _ hcl7] at ndl; cases ndl
    refine k_loopR2 (lo := 6) (n := m) (fun i σ H' => ∃ (t4 t9 : Option V) (dv : List V) (ds : List Au.Dr), σ = [some (.ref a), some (.int head), some (.ref q), some (.ref cl), t4, some (.ref ot), some (.ref pa), some (.int (n : Int)), some (.ref dl), t9, none, none, none, none, none, none, none, none, none] ∧ But dl H9 H' ∧ H' dl = some (.lst dv) ∧ Drs K H' dv ds ∧ ds.length = i ∧ ∀ d ∈ ds, d.1 < n ∧ Ag.BalOk cs d.2)
      ⟨_, _, [], [], rfl, But.of (Same.refl _), hdl, .nil, rfl, fun d h => by cases h⟩ ?_ ?_
    · rintro i σ G1 hi ⟨t4, t9, dv, ds, rfl, b1, hdl1, hds, dsl, dok⟩
      have sH : Same H G1 := But.same ((s07.trans s8).free ndl) s09 b1
      walk_at "go"
      refine ⟨a, ns, _, rfl, seqL_same sH hS, hl, by omega, by omega, fun c2 G2 g2 => ?_⟩
      walk_at "go"
      refine ⟨k_app0 (g2 _ _ hdl1), ?_⟩
      walk_at "go"
      refine ⟨c2, 6, rfl, by decide, by decide, fun r5 r50 r51 => ?_⟩
      walk_at "go"
      obtain ⟨d1, ed1⟩ := Int.eq_ofNat_of_zero_le (Int.emod_nonneg r5 (show (n : Int) ≠ 0 by omega))
      have dlt := Int.emod_lt_of_pos r5 (show (0 : Int) < n by omega)
      rw [ed1] at dlt ⊢
      refine ⟨c2, cl, cv, cs, rfl, SqL.of (g2 _ _ (b1 _ _ ndc hcl9)), hcs.imm ((imm_same s79).trans ((imm_but b1 hdl).trans (imm_same g2))), fit, by omega, fun v o G3 g3 hv bo => ?_⟩
      walk_at "go"
      refine k_tupx (fun tp G4 ntp g4 htp => ?_) (by simp [sizeLine_eq])
      have g14 := g2.trans (g3.trans g4)
      have hdl4 := g14 _ _ hdl1
      have dvl := Paired.length hds
      walk_at "go"
      refine k_app1 hdl4 (by rw [sizeLine_eq]; omega) (fun G5 b5 hdl5 => ?_)
      have im := imm_but b5 hdl4
      refine ⟨_, _, _, ds ++ [(d1, o)], rfl, (b1.trans (But.of g14)).trans b5, hdl5, paired_add ⟨tp, v, rfl, seqT_imm im (SqT.of htp), bal_imm im (hv.same g4)⟩ (Drs.imm ((imm_same g14).trans im) hds), by simp [dsl], fun d hd => ?_⟩
      rcases List.mem_append.mp hd with hd | hd
      · exact dok d hd
      · obtain rfl := List.mem_singleton.mp hd
        exact ⟨by show d1 < n; omega, bo⟩
    rintro σ G1 ⟨t4, t9, dv, ds, rfl, b1, hdl1, hds, dsl, dok⟩
    have sH : Same H G1 := But.same ((s07.trans s8).free ndl) s09 b1
    have im91 := imm_but b1 hdl
    replace hcs := hcs.imm ((imm_same s79).trans im91)
    replace hos := Oss.imm ((imm_same s79).trans im91) hos
    have hot1 : SqT K G1 ot ys := seqT_imm im91 (seqT_same s79 (SqT.of hot))
    have hcl1 := b1 _ _ ndc hcl9
    have hpa1 : SqT K G1 pa (Fr.fq s) := seqT_imm im91 (seqT_same s9 hpa)
    have dsk : Ag.DsOk cs n ds := ⟨by omega, dok⟩
    clear hcl9 hcl7 hot hpa hdl s79 s09 ndl npa em im91 b1
    walk_at "go"
    refine ⟨cl, ot, dl, pa, cv, ys, dv, cs, oss, ds, s, rfl, SqL.of hcl1, hcs, hot1, hos, SqL.of hdl1, hds, hpa1, sz, by omega, S.ol, by omega, fit, ofit, fun d hd => (dok d hd).2, fun due uw G2 g2 hdue hw => ?_⟩
    walk_at "go"
    refine k_itUL (SqL.of (g2 _ _ hcl1)) ?_
    refine k_lcLb (a := cl) (xs := cv) (P := fun D i ys H' => Same G2 H' ∧ Co.Cts K H' ys ((cs.take i).map fun c => Co.C.most c.1 c.2)) (fun D H' nD sD hD => ⟨sD, .nil⟩) (fun D i ys H' nD h => SqL.of (h.1 _ _ (g2 _ _ hcl1))) ?_ ?_
    · rintro D i x ys' G3 nD hx ⟨g3, hct⟩ hD
      have hi := (List.getElem?_eq_some_iff.mp hx).1
      obtain ⟨p, c, e1, e2, pq, hp, hpn⟩ := hcs.get hi
      rw [hx] at e1
      obtain rfl := Option.some.inj e1
      have g23 := g2.trans g3
      refine k_lcT ?_
      refine k_gtup (seqT_same g23 hp) rfl ?_
      walk_at "go"
      refine ⟨rfl, ?_⟩
      walk_at "go"
      refine k_makex (fun y dx A nay nad sA hA oo => ⟨y, dx, _, _, rfl, hA, fun B bB hB => ⟨rfl, ?_⟩⟩)
      have sB := But.same nay sA bB
      have hD2 := sB _ _ hD
      have yl := hct.len
      rw [List.length_map, List.length_take] at yl
      refine ⟨_, hD2, (by rw [sizeLine_eq]; omega), _, ⟨But.same nD (g3.trans sB) But.upd, ?_⟩, upd_same⟩
      rw [take_snoc e2, List.map_append]
      exact Co.Cts.snoc (c := Co.C.most c.1 c.2) (Co.At.but But.upd hD2 ⟨dx, pq, hB, seqT_same sB (seqT_same g23 hpn)⟩) ((hct.same sB).but But.upd hD2)
    rintro D zs G3 nD ⟨g3, hct⟩ hD
    rw [cvl, List.take_of_length_le (Nat.le_refl _)] at hct
    walk_at "go"
    refine k_tupL (SqL.of hD) (fun mt G4 nmt g4 hmt => ?_)
    walk_at "go"
    refine k_tupx (fun lt G5 nlt g5 hlt => ?_) (by simp [sizeLine_eq])
    walk_at "go"
    refine k_tupx (fun lq G6 nlq g6 hlq => ?_) (by simp [sizeLine_eq])
    have g26 := g3.trans (g4.trans (g5.trans g6))
    have g16 := g2.trans g26
    walk_at "go"
    refine k_lenL ?_ (SqL.of (g16 _ _ hcl1))
    refine k_mulRT (k := cv.length) (SqT.of hlq) (by omega) (by omega) (fun lms G7 g7 hlm => ?_)
    have g17 := g16.trans g7
    have hlt7 : SqT K G7 lt (Fr.fq Ag.lim) := by
      have e : Fr.fq Ag.lim = [.int 1, .int 999999] := by decide +kernel
      rw [e]
      exact SqT.of (g7 _ _ (g6 _ _ hlt))
    have hlq7 : Fqs K G7 (List.replicate cv.length (.ref lt)) ((Ag.ts cs oss).map (·.2.2)) := by
      have el : (Ag.ts cs oss).map (·.2.2) = List.replicate cv.length Ag.lim := by
        unfold Ag.ts
        rw [List.map_map]
        apply List.ext_getElem?
        intro j
        rw [List.getElem?_map, List.getElem?_replicate]
        rcases Nat.lt_or_ge j cv.length with h | h
        · rw [if_pos h, List.getElem?_eq_getElem (by rw [List.length_zip]; have := S.ol; omega)]
          rfl
        · rw [if_neg (by omega), List.getElem?_eq_none (by rw [List.length_zip]; have := S.ol; omega)]
          rfl
      rw [el]
      have key : ∀ k : Nat, Fqs K G7 (List.replicate k (.ref lt)) (List.replicate k Ag.lim) := fun k => by
        induction k with
        | zero => exact .nil
        | succ k ih => exact .cons ⟨lt, rfl, hlt7⟩ ih
      exact key _
    walk_at "go"
    refine k_rev1 (SqL.of (g17 _ _ hdl1)) (fun rv G8 nrv g8 hrv => ?_)
    have g18 := g17.trans g8
    walk_at "go"
    refine ⟨a, ns, 18, rfl, seqL_same (sH.trans g18) hS, hl, by decide, by decide, fun c18 G9 g9 => ?_⟩
    walk_at "go"
    have dvl := Paired.length hds
    refine ⟨c18, dl, dv, rfl, SqL.of (g9 _ _ (g18 _ _ hdl1)), by omega, fun ex dv2 G10 g10 nex hex pm2 => ?_⟩
    walk_at "go"
    refine k_lstx (fun ol G11 nol g11 hol => ?_) (by simp [sizeLine_eq])
    have g111 : Same G1 G11 := g18.trans (g9.trans (g10.trans g11))
    have h0 : Drs K G11 dv ds := Drs.imm (imm_same g111) hds
    obtain ⟨ds2, p2, q2⟩ := paired_perm pm2 h0
    obtain ⟨oa, ov, dsf, hD0⟩ : ∃ (oa : Nat → Addr) (ov : Nat → List V) (dsf : Nat → List Au.Dr), ∀ j, j < 3 → ([V.ref dl, .ref rv, .ref ex] : List V)[j]? = some (.ref (oa j)) ∧ SqL K G11 (oa j) (ov j) ∧ Drs K G11 (ov j) (dsf j) ∧ (dsf j).Perm ds := by
      refine ⟨fun j => if j = 0 then dl else if j = 1 then rv else ex, fun j => if j = 0 then dv else if j = 1 then dv.reverse else dv2, fun j => if j = 0 then ds else if j = 1 then ds.reverse else ds2, fun j hj => ?_⟩
      rcases (show j = 0 ∨ j = 1 ∨ j = 2 by omega) with rfl | rfl | rfl
      · exact ⟨rfl, SqL.of (g111 _ _ hdl1), h0, List.Perm.refl _⟩
      · exact ⟨rfl, SqL.of (g11 _ _ (g10 _ _ (g9 _ _ hrv))), h0.rev, List.reverse_perm ds⟩
      · exact ⟨rfl, SqL.of (g11 _ _ hex), q2, p2⟩
    have hoa : ∀ j, j < 3 → ([V.ref dl, .ref rv, .ref ex] : List V)[j]? = some (.ref (oa j)) := fun j hj => (hD0 j hj).1
    have hov : ∀ j, j < 3 → SqL K G11 (oa j) (ov j) := fun j hj => (hD0 j hj).2.1
    have hod : ∀ j, j < 3 → Drs K G11 (ov j) (dsf j) := fun j hj => (hD0 j hj).2.2.1
    have hpm : ∀ j, j < 3 → (dsf j).Perm ds := fun j hj => (hD0 j hj).2.2.2
    have dlen : ∀ j, j < 3 → (dsf j).length = ds.length := fun j hj => (hpm j hj).length_eq
    have dok3 : ∀ j, j < 3 → Ag.DsOk cs n (dsf j) := fun j hj => ⟨by rw [dlen j hj]; exact dsk.1, fun d hd => dok d ((hpm j hj).subset hd)⟩
    have hmt11 : SqT K G11 mt zs := SqT.of (g11 _ _ (g10 _ _ (g9 _ _ (g8 _ _ (g7 _ _ (g6 _ _ (g5 _ _ hmt)))))))
    have g411 : Same G4 G11 := g5.trans (g6.trans (g7.trans (g8.trans (g9.trans (g10.trans g11)))))
    have g711 : Same G7 G11 := g8.trans (g9.trans (g10.trans g11))
    have hct11 : Co.Cts K G11 zs ((Ag.ts cs oss).map (·.1)) := by
      have el : (Ag.ts cs oss).map (·.1) = cs.map fun c => Co.C.most c.1 c.2 := by
        unfold Ag.ts
        rw [List.map_map]
        apply List.ext_getElem?
        intro j
        rw [List.getElem?_map, List.getElem?_map]
        rcases Nat.lt_or_ge j cs.length with h | h
        · have hz : (cs.zip oss)[j]? = some (cs[j]'h, oss[j]'(by have := S.ol; omega)) := List.getElem?_zip_eq_some.mpr ⟨List.getElem?_eq_getElem h, List.getElem?_eq_getElem _⟩
          rw [hz, List.getElem?_eq_getElem h]
          rfl
        · rw [List.getElem?_eq_none (by rw [List.length_zip]; omega), List.getElem?_eq_none h]
          rfl
      rw [el]
      exact hct.same (g4.trans g411)
    have hos11 : Au.Out3 K G11 ys (Ag.ts cs oss) := by
      have yl := Paired.length hos
      refine paired_of (by rw [Ag.ts_len S, yl, S.ol]) fun i v t h1 h2 => ?_
      have hi := (List.getElem?_eq_some_iff.mp h1).1
      obtain ⟨v', os, e1, e2, f, rfl, hf⟩ := paired_at hos hi
      rw [h1] at e1
      obtain rfl := Option.some.inj e1
      obtain ⟨os', e3, e4⟩ := Ag.ts_get S (k := i) (List.getElem?_eq_getElem (by have := S.ol; omega))
      rw [h2] at e4
      rw [e2] at e3
      obtain rfl := Option.some.inj e3
      obtain rfl := Option.some.inj e4
      exact ⟨f, rfl, seqT_same g111 hf⟩
    walk_at "go"
    refine k_lcU (.inl (SqL.of hol)) (fun D i ys' H' => ∃ as : List Addr, ys' = as.map V.ref ∧ as.length = i ∧ Aus K G11 H' D as (fun _ => Ag.A0 cs oss n s)) (fun D H' nD sD hD => ⟨[], rfl, rfl, sD, fun _ _ => False, fun j x h => by simp at h, fun j x h => by simp at h, fun i j x h => by simp at h⟩) (fun D i ys' H' nD h => h.choose_spec.2.2.1) ?_ ?_
    · rintro D i x ys' A1 nD hx ⟨as, rfl, al, au⟩ hD
      have sA1 := au.1
      refine k_lcB rfl ?_
      walk_at "go"
      refine k_makex (fun y dx A2 nay nad sA2 hA2 oo => ⟨y, dx, _, rfl, hA2, fun A3 b3 h3 => ⟨rfl, ?_⟩⟩)
      have s13 := But.same nay sA2 b3
      have s03 := sA1.trans s13
      walk_at "go"
      refine k_makex (fun x dx2 A4 nax nad2 s4' h4 oo2 => ⟨x, dx2, mt, ot, lms, y, zs, ys, _, Ag.ts cs oss, n, 60, true, .fixed s, A3, rfl, s4', nax, h4, seqT_same s03 hmt11, hct11.same s03, seqT_same s03 (seqT_same g111 hot1), hos11.same s03, seqT_same s03 (seqT_same g711 hlm), (hlq7.same g711).same s03, ⟨dx, pa, h3, seqT_same s03 (seqT_same g111 hpa1)⟩, by rw [Ag.ts_len S]; omega, fun t ht => ⟨Ag.tok S t ht, ?_⟩, fun t ht c hc => ?_, fun A5 F' s5 hF aat => ⟨rfl, ?_⟩⟩)
      · obtain ⟨c, os, _, rfl, _⟩ := Ag.ts_mem S ht
        trivial
      · obtain ⟨c', os, _, rfl, _⟩ := Ag.ts_mem S ht
        obtain ⟨o, _, hc⟩ := List.mem_flatMap.mp (show c ∈ Co.mostA c'.1 os os from hc)
        obtain ⟨t', _, rfl⟩ := List.mem_map.mp hc
        trivial
      have hD5 := s5 _ _ (s13 _ _ hD)
      have au5 := Aus.add (au.same s13) s5 aat hF (by rw [s13 _ _ hD]; simp) rfl
      refine ⟨_, hD5, (by rw [sizeLine_eq, List.length_map]; have := (List.getElem?_eq_some_iff.mp hx).1; simp at this; omega), _, ⟨as ++ [x], by rw [List.map_append]; rfl, by rw [List.length_append, al]; rfl, au5.butD But.upd nD hD5⟩, upd_same⟩
    rintro D ys' A1 nD ⟨as, rfl, al, au⟩ hD
    replace al : as.length = 3 := al
    walk_at "go"
    refine k_lenL ?_ (SqL.of (au.1 _ _ (g111 _ _ hdl1)))
    walk_at "go"
    refine k_rng1 (by omega) ?_
    rw [show ((dv.length : Nat) : Int).toNat = dv.length by omega]
    have nDol : ol ≠ D := fun e => by rw [← e, hol] at nD; cases nD
    refine k_loopR (n := dv.length) (fun k σ H' => ∃ (t4 t14 t16 : Option V), σ = [some (.ref a), some (.int head), some (.ref q), some (.ref cl), t4, some (.ref ot), some (.ref pa), some (.int (n : Int)), some (.ref dl), t9, some (.ref due), some (.ref mt), some (.ref lms), some (.ref ol), t14, some (.ref D), t16, none, none] ∧ H' D = some (.lst (as.map V.ref)) ∧ Aus K G11 H' D as (fun i => (Ag.A0 cs oss n s).draws ((dsf i).take k)))
      ⟨_, _, _, rfl, hD, au⟩ ?_ ?_
    · rintro k σ A2 hk ⟨t4', t14, t16, rfl, hD2, au2⟩
      walk_at "go"
      refine k_zipLx (SqL.of hD2) (SqL.of (au2.1 _ _ hol)) ?_
      refine k_loopP (zip_it (by rw [List.length_map, al]; rfl)) (fun j σ H' => ∃ (t14 t16 : Option V), σ = [some (.ref a), some (.int head), some (.ref q), some (.ref cl), some (.int (k : Int)), some (.ref ot), some (.ref pa), some (.int (n : Int)), some (.ref dl), t9, some (.ref due), some (.ref mt), some (.ref lms), some (.ref ol), t14, some (.ref D), t16, none, none] ∧ H' D = some (.lst (as.map V.ref)) ∧ Aus K G11 H' D as (step (Ag.A0 cs oss n s) dsf k j))
        ⟨_, _, rfl, hD2, au2.congr fun i hi => by unfold step; rw [if_neg (by omega)]⟩ (fun j σ' H' ⟨_, _, _, h, g⟩ => ⟨SqL.of h, SqL.of (g.1 _ _ hol)⟩) ?_ ?_
      rotate_left
      · rintro σ A3 ⟨t14, t16, rfl, hD3, au3⟩
        exact ⟨_, _, _, rfl, hD3, au3.congr fun i hi => by unfold step; rw [List.length_map, if_pos hi]⟩
      rintro j Tt σ A3 A4 hj ⟨t14, t16, rfl, hD3, au3⟩ nT sT hT
      rw [List.length_map, al] at hj
      have hx : as[j]? = some (as[j]'(by omega)) := List.getElem?_eq_getElem _
      generalize as[j]'(by omega) = x at hx
      have g1' : (as.map V.ref).getD j .non = .ref x := by rw [List.getD_eq_getElem?_getD, List.getElem?_map, hx]; rfl
      have hj3 : j < 3 := hj
      have g2' : ([V.ref dl, .ref rv, .ref ex] : List V).getD j .non = .ref (oa j) := by
        have e := hoa j hj3
        rw [List.getD_eq_getElem?_getD]
        exact congrArg (fun o => Option.getD o V.non) e
      rw [g1', g2'] at hT
      have hD4 := sT _ _ hD3
      obtain ⟨s4', F, f1, f2, f3⟩ := au3.same sT
      obtain ⟨dx, l, ln, sv, AA⟩ := f1 j x hx
      have ovl := Paired.length (hod j hj)
      have hkd : k < (dsf j).length := by rw [dlen j hj]; omega
      obtain ⟨v5, d, e5, e6, dp, bv, rfl, hdp, hbv⟩ := paired_at (hod j hj) (i := k) (by rw [ovl]; exact hkd)
      have hovA := seqL_same s4' (hov j hj)
      have hdpA := seqT_same s4' hdp
      have eA : step (Ag.A0 cs oss n s) dsf k j j = (Ag.A0 cs oss n s).draws ((dsf j).take k) := by unfold step; rw [if_neg (by omega)]
      have dsn : Ag.DsOk cs n ((dsf j).take k ++ [d]) := by
        rw [← take_snoc e6]
        have := dok3 j hj
        exact ⟨by rw [List.length_take]; have := this.1; omega, fun d hd => this.2 d (List.mem_of_mem_take hd)⟩
      have ds0 : Ag.DsOk cs n ((dsf j).take k) := by
        have := dok3 j hj
        exact ⟨by rw [List.length_take]; have := this.1; omega, fun d hd => this.2 d (List.mem_of_mem_take hd)⟩
      have aj := f1 j x hx
      rw [eA] at aj
      have onE : ((Ag.A0 cs oss n s).draws ((dsf j).take k)).draw d.1 d.2 = (Ag.A0 cs oss n s).draws ((dsf j).take k ++ [d]) := (Au.draws_snoc _ _ _).symm
      refine k_gtup (SqT.of hT) rfl ?_
      walk_at "go"
      refine k_methx AA.ins (by walk_at "lz") ?_
      walk_at "go"
      refine k_ixL hovA (v := .ref dp) (atI_nat e5) ?_
      walk_at "go"
      refine k_ixT hdpA (v := .int (d.1 : Int)) rfl ?_
      walk_at "go"
      refine k_ixL hovA (v := .ref dp) (atI_nat e5) ?_
      walk_at "go"
      refine k_ixT hdpA (v := bv) rfl ?_
      walk_at "go"
      refine ⟨x, F j, _, d.1, bv, d.2, rfl, aj, hbv.same s4', Ag.dok S dsn, fun sh hs w hw => ?_, .inr ⟨Ag.on_ S ds0, fun A5 G chg hG aat => ?_⟩⟩
      · obtain ⟨o, t, rfl⟩ := Ag.ways S ds0 sh hs w hw
        exact ⟨trivial, ⟨0, trivial, by decide⟩, fun _ => rfl, fun z => by cases z⟩
      rw [onE] at aat ⊢
      rw [Ag.on_ S dsn]
      walk_at "go"
      refine k_ifn (fun c => absurd rfl c) (fun _ => ?_)
      have nDF : ¬ F j D := fun z => (f2 j D (by omega) z).2 rfl
      walk_at "go"
      refine ⟨_, _, rfl, chg.oth _ _ nDF hD4, Aus.draw s4' f1 f2 f3 (by rw [hD4]; simp) hx chg hG aat ?_ fun i hi ne => ?_⟩
      · unfold step
        rw [if_pos (by omega), take_snoc e6]
      · unfold step
        by_cases c : i < j
        · rw [if_pos c, if_pos (by omega)]
        · rw [if_neg c, if_neg (by omega)]
    rintro σ A2 ⟨t4', t14, t16, rfl, hD2, au2⟩
    have s112 := au2.1
    obtain ⟨_, F, f1, f2, f3⟩ := au2
    have hdue2 : SqT K A2 due uw := seqT_same s112 (seqT_same (g26.trans (g7.trans g711)) hdue)
    have hw2 := hw.same ((g26.trans (g7.trans g711)).trans s112)
    have dd : Dp K A2 (.ref due) (.tuple ((dueW s ds cs oss cs.length).map fun w => .tuple (w.map prD))) := .tup hdue2 hw2.dp
    walk_at "go"
    refine k_lcU (.inl (SqL.of hD2)) (fun D2 i zs' H' => zs' = [] ∧ Same A2 H') (fun D2 H' nD sD hD => ⟨rfl, sD⟩) (fun D2 i zs' H' nD h => h.2) ?_ ?_
    · rintro D2 j x zs' A3 nD2 hx ⟨rfl, s3'⟩ hD3
      have hj := (List.getElem?_eq_some_iff.mp hx).1
      rw [List.length_map, al] at hj
      rw [List.getElem?_map] at hx
      have hx' : as[j]? = some (as[j]'(by omega)) := List.getElem?_eq_getElem _
      generalize as[j]'(by omega) = y at hx'
      rw [hx'] at hx
      obtain rfl := (Option.some.inj hx).symm
      have aj := (f1 j y hx').same s3'
      dsimp only at aj
      rw [List.take_of_length_le (by rw [dlen j hj]; omega)] at aj
      obtain ⟨dx, l, ln, sv, AA⟩ := id aj
      have fin := Ag.fin_d S (dsf j) (dok3 j hj)
      refine k_lcB rfl ?_
      walk_at "go"
      refine k_methx AA.ins (by walk_at "lz") ?_
      walk_at "go"
      refine ⟨y, F j, _, rfl, aj, ?_, fin.l2, fun r us A4 s4' hr hw4 => ?_⟩
      · rw [Au.draws_len (fun z hz => Ag.bok S ((dok3 j hj).2 z hz).2) (Ag.lens S)]
        show ((Ag.ts cs oss).map _).length ≤ 1000
        rw [List.length_map, Ag.ts_len S]
        omega
      walk_at "go"
      rw [Ag.worths S (dok3 j hj) (hpm j hj)] at hw4
      refine Dt.k_ne (.tup hr (Wos.dp hw4)) (dp_same (s3'.trans s4') dd) (sh_wos _) ?_
      walk_at "go"
      exact ⟨[], ⟨rfl, s3'.trans s4'⟩, s4' _ _ hD3⟩
    rintro D2 zs' A3 nD2 ⟨rfl, s3'⟩ hD3
    walk_at "go"
    refine k_lstx (fun e0 A4 ne0 s4' he0 => ?_) (by simp)
    walk_at "go"
    refine k_eqNil (SqL.of (s4' _ _ hD3)) he0 ?_
    exact kk A4
end
end Lw
namespace Lw
open PySem PySem.Spec PyProof.Rows L2 Gx
theorem facts {P : Program} {w : World} {K : PySem.W.Frag} {h : Heap} {mg : Str → Option Value} {f : Addr} (X : K.In h) (G : h.Ns mainGlobals mg) (hfa : mg ("law" : Str) = some (.ref f)) (c : He.SaysD fa fn K) (cx : (exl.all fun f => f K) = true) :
    ∃ fd : FuncData, (∀ (s : Shared) (v : Value), BindsTo s fd ⟨[v], []⟩ [("_law_script", v)]) ∧ ∀ base : Heap, K.In base → base.Ns mainGlobals mg → FnOk P w K mg base CX0 9 f fd ["_law_script"] (sp_law K) := by
  obtain ⟨fd0, F0⟩ := c.def_ 0 (d := d_in_common) rfl
  obtain ⟨fd1, F1⟩ := c.def_ 1 (d := d_lowest) rfl
  obtain ⟨fd2, F2⟩ := c.def_ 2 (d := d_plus) rfl
  obtain ⟨fd3, F3⟩ := c.def_ 3 (d := d_minus) rfl
  obtain ⟨fd4, F4⟩ := c.def_ 4 (d := d_times) rfl
  obtain ⟨fd5, F5⟩ := c.def_ 5 (d := d_over) rfl
  obtain ⟨fd6, F6⟩ := c.def_ 6 (d := d_below) rfl
  obtain ⟨fd7, F7⟩ := c.def_ 7 (d := d_Game___init__) rfl
  obtain ⟨fd8, F8⟩ := c.def_ 8 (d := d_Game_twin) rfl
  obtain ⟨fd9, F9⟩ := c.def_ 9 (d := d_Game_ended) rfl
  obtain ⟨fd10, F10⟩ := c.def_ 10 (d := d_Game_price) rfl
  obtain ⟨fd11, F11⟩ := c.def_ 11 (d := d_Game_worth_behind) rfl
  obtain ⟨fd12, F12⟩ := c.def_ 12 (d := d_Game_play) rfl
  obtain ⟨fd13, F13⟩ := c.def_ 13 (d := d_Game_worth) rfl
  obtain ⟨fd14, F14⟩ := c.def_ 14 (d := d_Game_reached) rfl
  obtain ⟨fd15, F15⟩ := c.def_ 15 (d := d_Way___init__) rfl
  obtain ⟨fd16, F16⟩ := c.def_ 16 (d := d_Looking_value) rfl
  obtain ⟨fd17, F17⟩ := c.def_ 17 (d := d_Looking_top) rfl
  obtain ⟨fd18, F18⟩ := c.def_ 18 (d := d_way_of) rfl
  obtain ⟨fd19, F19⟩ := c.def_ 19 (d := d_is_mark) rfl
  obtain ⟨fd20, F20⟩ := c.def_ 20 (d := d_Sheet___init__) rfl
  obtain ⟨fd21, F21⟩ := c.def_ 21 (d := d_Sheet_add) rfl
  obtain ⟨fd22, F22⟩ := c.def_ 22 (d := d_Sheet_is_sure) rfl
  obtain ⟨fd23, F23⟩ := c.def_ 23 (d := d_Sheet_played) rfl
  obtain ⟨fd24, F24⟩ := c.def_ 24 (d := d_Audit___init__) rfl
  obtain ⟨fd25, F25⟩ := c.def_ 25 (d := d_Audit_sure_of) rfl
  obtain ⟨fd26, F26⟩ := c.def_ 26 (d := d_Audit_worths) rfl
  obtain ⟨fd27, F27⟩ := c.def_ 27 (d := d_Audit_verdict) rfl
  obtain ⟨fd28, F28⟩ := c.def_ 28 (d := d_Audit_is_number) rfl
  obtain ⟨fd29, F29⟩ := c.def_ 29 (d := d_Audit_is_ballot) rfl
  obtain ⟨fd30, F30⟩ := c.def_ 30 (d := d_Audit_draw) rfl
  obtain ⟨fd31, F31⟩ := c.def_ 31 (d := d_Claim_value) rfl
  obtain ⟨fd32, F32⟩ := c.def_ 32 (d := d_Claim_value_of) rfl
  obtain ⟨fd33, F33⟩ := c.def_ 33 (d := d_Claim_greatest) rfl
  obtain ⟨fd34, F34⟩ := c.def_ 34 (d := d_Beats___init__) rfl
  obtain ⟨fd35, F35⟩ := c.def_ 35 (d := d_Beats_value_of) rfl
  obtain ⟨fd36, F36⟩ := c.def_ 36 (d := d_Beats_greatest) rfl
  obtain ⟨fd37, F37⟩ := c.def_ 37 (d := d_Contest___init__) rfl
  obtain ⟨fd38, F38⟩ := c.def_ 38 (d := d_Contest_named) rfl
  obtain ⟨fd39, F39⟩ := c.def_ 39 (d := d_Most___init__) rfl
  obtain ⟨fd40, F40⟩ := c.def_ 40 (d := d_Most_claims) rfl
  obtain ⟨fd41, F41⟩ := c.def_ 41 (d := d_Rule_stake) rfl
  obtain ⟨fd42, F42⟩ := c.def_ 42 (d := d_Fixed___init__) rfl
  obtain ⟨fd43, F43⟩ := c.def_ 43 (d := d_Fixed_stake) rfl
  obtain ⟨fd44, F44⟩ := c.def_ 44 (d := d__law_at) rfl
  obtain ⟨fd45, F45⟩ := c.def_ 45 (d := d__law_mix) rfl
  obtain ⟨fd46, F46⟩ := c.def_ 46 (d := d__law_names) rfl
  obtain ⟨fd47, F47⟩ := c.def_ 47 (d := d__law_lowest) rfl
  obtain ⟨fd48, F48⟩ := c.def_ 48 (d := d__law_plus) rfl
  obtain ⟨fd49, F49⟩ := c.def_ 49 (d := d__law_times) rfl
  obtain ⟨fd50, F50⟩ := c.def_ 50 (d := d__law_value) rfl
  obtain ⟨fd51, F51⟩ := c.def_ 51 (d := d__law_contest) rfl
  obtain ⟨fd52, F52⟩ := c.def_ 52 (d := d__law_guess) rfl
  obtain ⟨fd53, F53⟩ := c.def_ 53 (d := d__law_ballot) rfl
  obtain ⟨fd54, F54⟩ := c.def_ 54 (d := d__law_worths) rfl
  obtain ⟨fd55, F55⟩ := c.def_ 55 (d := d__law_exchanged) rfl
  obtain ⟨fd56, F56⟩ := c.def_ 56 (d := d_law) rfl
  have T : Txt K mg := { n_abs := He.free_ok X G (c.fact 0 rfl), n_all := He.free_ok X G (c.fact 1 rfl), n_bool := He.free_ok X G (c.fact 2 rfl), n_enumerate := He.free_ok X G (c.fact 3 rfl), n_int := He.free_ok X G (c.fact 4 rfl), n_isinstance := He.free_ok X G (c.fact 5 rfl), n_len := He.free_ok X G (c.fact 6 rfl), n_list := He.free_ok X G (c.fact 7 rfl), n_max := He.free_ok X G (c.fact 8 rfl), n_min := He.free_ok X G (c.fact 9 rfl), n_range := He.free_ok X G (c.fact 10 rfl), n_sorted := He.free_ok X G (c.fact 11 rfl), n_str := He.free_ok X G (c.fact 12 rfl), n_tuple := He.free_ok X G (c.fact 13 rfl), n_zip := He.free_ok X G (c.fact 14 rfl), c_Ended := ⟨_, He.glo_ok X G (c.fact 15 rfl), rfl⟩, c_HALF := ⟨_, He.glo_ok X G (c.fact 16 rfl), rfl⟩, c_LACKS := (let ⟨_, h⟩ := He.str_ok X G (c.fact 17 rfl); ⟨_, h, _, rfl⟩), c_NOUGHT_claims := ⟨_, He.glo_ok X G (c.fact 18 rfl), rfl⟩, c_NOUGHT_games := ⟨_, He.glo_ok X G (c.fact 19 rfl), rfl⟩, c_NOUGHT_rules := ⟨_, He.glo_ok X G (c.fact 20 rfl), rfl⟩, c_NOUGHT_ways := ⟨_, He.glo_ok X G (c.fact 21 rfl), rfl⟩, c_NoBallot := ⟨_, He.glo_ok X G (c.fact 22 rfl), rfl⟩, c_NoFraction := ⟨_, He.glo_ok X G (c.fact 23 rfl), rfl⟩, c_NoMargin := ⟨_, He.glo_ok X G (c.fact 24 rfl), rfl⟩, c_NoNumber := ⟨_, He.glo_ok X G (c.fact 25 rfl), rfl⟩, c_NoOutcome := ⟨_, He.glo_ok X G (c.fact 26 rfl), rfl⟩, c_ONE_claims := ⟨_, He.glo_ok X G (c.fact 27 rfl), rfl⟩, c_ONE_games := ⟨_, He.glo_ok X G (c.fact 28 rfl), rfl⟩, c_ONE_ways := ⟨_, He.glo_ok X G (c.fact 29 rfl), rfl⟩, c_TWO := ⟨_, He.glo_ok X G (c.fact 30 rfl), rfl⟩, cl_Game := He.cls_ok (c.fact 31 rfl), f_Game_many := He.noat_ok (c.fact 32 rfl), f_Game_again := He.noat_ok (c.fact 33 rfl), f_Game_highest := He.noat_ok (c.fact 34 rfl), f_Game_rule := He.noat_ok (c.fact 35 rfl), f_Game_drawn_values := He.noat_ok (c.fact 36 rfl), f_Game_sum_so_far := He.noat_ok (c.fact 37 rfl), f_Game_now := He.noat_ok (c.fact 38 rfl), f_Game_most := He.noat_ok (c.fact 39 rfl), f_Game_certain := He.noat_ok (c.fact 40 rfl), cl_Fixed := He.cls_ok (c.fact 41 rfl), f_Fixed_part := He.noat_ok (c.fact 42 rfl), cl_Rule := He.cls_ok (c.fact 43 rfl), cl_Beats := He.cls_ok (c.fact 44 rfl), f_Beats_one := He.noat_ok (c.fact 45 rfl), f_Beats_other := He.noat_ok (c.fact 46 rfl), cl_Claim := He.cls_ok (c.fact 47 rfl), cl_Looking := He.cls_ok (c.fact 48 rfl), f_Looking_claim := He.noat_ok (c.fact 49 rfl), cl_Sheet := He.cls_ok (c.fact 50 rfl), f_Sheet_names := He.noat_ok (c.fact 51 rfl), f_Sheet_limit := He.noat_ok (c.fact 52 rfl), f_Sheet_ways := He.noat_ok (c.fact 53 rfl), f_Sheet_games := He.noat_ok (c.fact 54 rfl), cl_Most := He.cls_ok (c.fact 55 rfl), f_Most_seats := He.noat_ok (c.fact 56 rfl), f_Most_names := He.noat_ok (c.fact 57 rfl), cl_Audit := He.cls_ok (c.fact 58 rfl), f_Audit_sheets := He.noat_ok (c.fact 59 rfl), f_Audit_many := He.noat_ok (c.fact 60 rfl), f_Audit_again := He.noat_ok (c.fact 61 rfl), f_Audit_most := He.noat_ok (c.fact 62 rfl), f_Audit_numbers := He.noat_ok (c.fact 63 rfl), cl_Contest := He.cls_ok (c.fact 64 rfl), f_Contest_names := He.noat_ok (c.fact 65 rfl), cl_Way := He.cls_ok (c.fact 66 rfl), f_Way_claim := He.noat_ok (c.fact 67 rfl), cl_Comparing := He.cls_ok (c.fact 68 rfl), f_Comparing_told := He.noat_ok (c.fact 69 rfl), f_Comparing_scale := He.noat_ok (c.fact 70 rfl), f_Comparing_claim := He.noat_ok (c.fact 71 rfl), mk_Game := He.mkr_ok (c.fact 72 rfl), gk_Game := He.glo_ok X G (c.fact 73 rfl), me_Game_ended := He.meth_ok (c.fact 74 rfl), me_Fixed_stake := He.meth_ok (c.fact 75 rfl), me_Rule_stake := He.meth_ok (c.fact 76 rfl), me_Game_price := He.meth_ok (c.fact 77 rfl), me_Game_worth_behind := He.meth_ok (c.fact 78 rfl), me_Beats_value := (show He.ma K (He.ga K "Beats") "value" = He.ma K (He.ga K "Claim") "value" from of_decide_eq_true (xat cx 1 rfl)) ▸ He.meth_ok (c.fact 79 rfl), me_Claim_value := He.meth_ok (c.fact 80 rfl), me_Beats_greatest := He.meth_ok (c.fact 81 rfl), me_Claim_greatest := He.meth_ok (c.fact 82 rfl), mk_Looking := (show He.ma K (He.ga K "Looking") "__init__" = He.ma K (He.ga K "Way") "__init__" from of_decide_eq_true (xat cx 2 rfl)) ▸ He.mkr_ok (c.fact 83 rfl), gk_Looking := He.glo_ok X G (c.fact 84 rfl), me_Game_reached := He.meth_ok (c.fact 85 rfl), me_Game_play := He.meth_ok (c.fact 86 rfl), me_Looking_value := He.meth_ok (c.fact 87 rfl), me_Game_twin := He.meth_ok (c.fact 88 rfl), me_Sheet_add := He.meth_ok (c.fact 89 rfl), me_Looking_top := He.meth_ok (c.fact 90 rfl), mk_Sheet := He.mkr_ok (c.fact 91 rfl), gk_Sheet := He.glo_ok X G (c.fact 92 rfl), me_Most_named := (show He.ma K (He.ga K "Most") "named" = He.ma K (He.ga K "Contest") "named" from of_decide_eq_true (xat cx 3 rfl)) ▸ He.meth_ok (c.fact 93 rfl), me_Most_claims := He.meth_ok (c.fact 94 rfl), me_Sheet_is_sure := He.meth_ok (c.fact 95 rfl), me_Game_worth := He.meth_ok (c.fact 96 rfl), me_Audit_sure_of := He.meth_ok (c.fact 97 rfl), me_Audit_verdict := He.meth_ok (c.fact 98 rfl), me_Sheet_played := He.meth_ok (c.fact 99 rfl), me_Audit_is_ballot := He.meth_ok (c.fact 100 rfl), me_Audit_is_number := He.meth_ok (c.fact 101 rfl), me_Beats_value_of := He.meth_ok (c.fact 102 rfl), me_Claim_value_of := He.meth_ok (c.fact 103 rfl), gs_Contest___init__ := He.glo_ok X G (c.fact 104 rfl), mk_Beats := He.mkr_ok (c.fact 105 rfl), gk_Beats := He.glo_ok X G (c.fact 106 rfl), me_Audit_worths := He.meth_ok (c.fact 107 rfl), me_Audit_draw := He.meth_ok (c.fact 108 rfl), mk_Audit := He.mkr_ok (c.fact 109 rfl), gk_Audit := He.glo_ok X G (c.fact 110 rfl), mk_Fixed := He.mkr_ok (c.fact 111 rfl), gk_Fixed := He.glo_ok X G (c.fact 112 rfl), mk_Most := He.mkr_ok (c.fact 113 rfl), gk_Most := He.glo_ok X G (c.fact 114 rfl), g_Ended := He.glo_ok X G (c.fact 115 rfl), g_NoBallot := He.glo_ok X G (c.fact 116 rfl), g_NoFraction := He.glo_ok X G (c.fact 117 rfl), g_NoNumber := He.glo_ok X G (c.fact 118 rfl), g_NoOutcome := He.glo_ok X G (c.fact 119 rfl), x_Ended := He.exc_ok (c.fact 120 rfl), x_NoBallot := He.exc_ok (c.fact 121 rfl), x_NoFraction := He.exc_ok (c.fact 122 rfl), x_NoNumber := He.exc_ok (c.fact 123 rfl), x_NoOutcome := He.exc_ok (c.fact 124 rfl), su_Contest___init__ := supmB_ok (xat cx 0 rfl), t_HALF := fun H => He.tupB_ok (xat cx 4 rfl) H, t_NOUGHT_claims := fun H => He.tupB_ok (xat cx 5 rfl) H, t_NOUGHT_games := fun H => He.tupB_ok (xat cx 6 rfl) H, t_NOUGHT_rules := fun H => He.tupB_ok (xat cx 7 rfl) H, t_NOUGHT_ways := fun H => He.tupB_ok (xat cx 8 rfl) H, t_ONE_claims := fun H => He.tupB_ok (xat cx 9 rfl) H, t_ONE_games := fun H => He.tupB_ok (xat cx 10 rfl) H, t_ONE_ways := fun H => He.tupB_ok (xat cx 11 rfl) H, t_TWO := fun H => He.tupB_ok (xat cx 12 rfl) H }
  have g_in_common := He.glo_ok X G (c.fact 125 (f := .glo "in_common") rfl)
  have g_lowest := He.glo_ok X G (c.fact 126 (f := .glo "lowest") rfl)
  have g_plus := He.glo_ok X G (c.fact 127 (f := .glo "plus") rfl)
  have g_minus := He.glo_ok X G (c.fact 128 (f := .glo "minus") rfl)
  have g_times := He.glo_ok X G (c.fact 129 (f := .glo "times") rfl)
  have g_over := He.glo_ok X G (c.fact 130 (f := .glo "over") rfl)
  have g_below := He.glo_ok X G (c.fact 131 (f := .glo "below") rfl)
  have g_way_of := He.glo_ok X G (c.fact 132 (f := .glo "way_of") rfl)
  have g_is_mark := He.glo_ok X G (c.fact 133 (f := .glo "is_mark") rfl)
  have g__law_at := He.glo_ok X G (c.fact 134 (f := .glo "_law_at") rfl)
  have g__law_mix := He.glo_ok X G (c.fact 135 (f := .glo "_law_mix") rfl)
  have g__law_names := He.glo_ok X G (c.fact 136 (f := .glo "_law_names") rfl)
  have g__law_lowest := He.glo_ok X G (c.fact 137 (f := .glo "_law_lowest") rfl)
  have g__law_plus := He.glo_ok X G (c.fact 138 (f := .glo "_law_plus") rfl)
  have g__law_times := He.glo_ok X G (c.fact 139 (f := .glo "_law_times") rfl)
  have g__law_value := He.glo_ok X G (c.fact 140 (f := .glo "_law_value") rfl)
  have g__law_contest := He.glo_ok X G (c.fact 141 (f := .glo "_law_contest") rfl)
  have g__law_guess := He.glo_ok X G (c.fact 142 (f := .glo "_law_guess") rfl)
  have g__law_ballot := He.glo_ok X G (c.fact 143 (f := .glo "_law_ballot") rfl)
  have g__law_worths := He.glo_ok X G (c.fact 144 (f := .glo "_law_worths") rfl)
  have g__law_exchanged := He.glo_ok X G (c.fact 145 (f := .glo "_law_exchanged") rfl)
  have g_law := He.glo_ok X G (c.fact 146 (f := .glo "law") rfl)
  have e := hfa.symm.trans g_law
  cases e
  have b := FunD.bindsA (ps := ["_law_script"]) F56 fun _ _ _ _ _ _ us hl => match us, hl with | [_], _ => rfl
  refine ⟨fd56, fun s v => b s [v] rfl, fun base _ _ => ?_⟩
  have c_in_common : Cl P w K mg base 1 "in_common" ["a", "b"] (sp_in_common K) := ⟨_, fd0, ok_in_common F0 T , g_in_common, F0.kp, F0.bindsN fun _ _ _ _ _ _ us hl => match us, hl with | [_, _], _ => rfl⟩
  have c_below : Cl P w K mg base 1 "below" ["x", "y"] (sp_below K) := ⟨_, fd6, ok_below F6 T , g_below, F6.kp, F6.bindsN fun _ _ _ _ _ _ us hl => match us, hl with | [_, _], _ => rfl⟩
  have O_Game___init__ := ok_Game___init__ (P := P) (w := w) (mg := mg) (base := base) F7 T 
  have k_Game : KCl P w K mg base 1 "Game" ["self", "many", "again", "top", "rule"] (sp_Game___init__ K) := ⟨_, fd7, T.mk_Game, O_Game___init__, T.gk_Game, F7.bindsN fun _ _ _ _ _ _ us hl => match us, hl with | [_, _, _, _, _], _ => rfl⟩
  have O_Game_ended := ok_Game_ended (P := P) (w := w) (mg := mg) (base := base) F9 T 
  have m_Game_ended : MCl P w K mg base 1 "Game" "ended" ["self"] (sp_Game_ended K) := ⟨_, fd9, T.cl_Game, T.me_Game_ended, O_Game_ended, F9.bindsN fun _ _ _ _ _ _ us hl => match us, hl with | [_], _ => rfl⟩
  have O_Game_worth := ok_Game_worth (P := P) (w := w) (mg := mg) (base := base) F13 T 
  have m_Game_worth : MCl P w K mg base 1 "Game" "worth" ["self"] (sp_Game_worth K) := ⟨_, fd13, T.cl_Game, T.me_Game_worth, O_Game_worth, F13.bindsN fun _ _ _ _ _ _ us hl => match us, hl with | [_], _ => rfl⟩
  have O_Way___init__ := ok_Way___init__ (P := P) (w := w) (mg := mg) (base := base) F15 T 
  have k_Looking : KCl P w K mg base 1 "Looking" ["self", "claim"] (sp_Way___init__ K) := ⟨_, fd15, T.mk_Looking, O_Way___init__, T.gk_Looking, F15.bindsN fun _ _ _ _ _ _ us hl => match us, hl with | [_, _], _ => rfl⟩
  have c_is_mark : Cl P w K mg base 1 "is_mark" ["thing", "names"] (sp_is_mark K) := ⟨_, fd19, ok_is_mark F19 T , g_is_mark, F19.kp, F19.bindsN fun _ _ _ _ _ _ us hl => match us, hl with | [_, _], _ => rfl⟩
  have O_Sheet___init__ := ok_Sheet___init__ (P := P) (w := w) (mg := mg) (base := base) F20 T 
  have k_Sheet : KCl P w K mg base 1 "Sheet" ["self", "names", "limit"] (sp_Sheet___init__ K) := ⟨_, fd20, T.mk_Sheet, O_Sheet___init__, T.gk_Sheet, F20.bindsN fun _ _ _ _ _ _ us hl => match us, hl with | [_, _, _], _ => rfl⟩
  have O_Sheet_add := ok_Sheet_add (P := P) (w := w) (mg := mg) (base := base) F21 T 
  have m_Sheet_add : MCl P w K mg base 1 "Sheet" "add" ["self", "way", "game"] (sp_Sheet_add K) := ⟨_, fd21, T.cl_Sheet, T.me_Sheet_add, O_Sheet_add, F21.bindsN fun _ _ _ _ _ _ us hl => match us, hl with | [_, _, _], _ => rfl⟩
  have O_Audit_is_number := ok_Audit_is_number (P := P) (w := w) (mg := mg) (base := base) F28 T 
  have m_Audit_is_number : MCl P w K mg base 1 "Audit" "is_number" ["self", "thing"] (sp_Audit_is_number K) := ⟨_, fd28, T.cl_Audit, T.me_Audit_is_number, O_Audit_is_number, F28.bindsN fun _ _ _ _ _ _ us hl => match us, hl with | [_, _], _ => rfl⟩
  have O_Claim_value_of := ok_Claim_value_of (P := P) (w := w) (mg := mg) (base := base) F32 T 
  have m_Claim_value_of : MCl P w K mg base 1 "Claim" "value_of" ["self", "mark"] (sp_Claim_value_of K) := ⟨_, fd32, T.cl_Claim, T.me_Claim_value_of, O_Claim_value_of, F32.bindsN fun _ _ _ _ _ _ us hl => match us, hl with | [_, _], _ => rfl⟩
  have O_Claim_greatest := ok_Claim_greatest (P := P) (w := w) (mg := mg) (base := base) F33 T 
  have m_Claim_greatest : MCl P w K mg base 1 "Claim" "greatest" ["self"] (sp_Claim_greatest K) := ⟨_, fd33, T.cl_Claim, T.me_Claim_greatest, O_Claim_greatest, F33.bindsN fun _ _ _ _ _ _ us hl => match us, hl with | [_], _ => rfl⟩
  have O_Beats___init__ := ok_Beats___init__ (P := P) (w := w) (mg := mg) (base := base) F34 T 
  have k_Beats : KCl P w K mg base 1 "Beats" ["self", "one", "other"] (sp_Beats___init__ K) := ⟨_, fd34, T.mk_Beats, O_Beats___init__, T.gk_Beats, F34.bindsN fun _ _ _ _ _ _ us hl => match us, hl with | [_, _, _], _ => rfl⟩
  have O_Beats_value_of := ok_Beats_value_of (P := P) (w := w) (mg := mg) (base := base) F35 T 
  have m_Beats_value_of : MCl P w K mg base 1 "Beats" "value_of" ["self", "mark"] (sp_Beats_value_of K) := ⟨_, fd35, T.cl_Beats, T.me_Beats_value_of, O_Beats_value_of, F35.bindsN fun _ _ _ _ _ _ us hl => match us, hl with | [_, _], _ => rfl⟩
  have O_Beats_greatest := ok_Beats_greatest (P := P) (w := w) (mg := mg) (base := base) F36 T 
  have m_Beats_greatest : MCl P w K mg base 1 "Beats" "greatest" ["self"] (sp_Beats_greatest K) := ⟨_, fd36, T.cl_Beats, T.me_Beats_greatest, O_Beats_greatest, F36.bindsN fun _ _ _ _ _ _ us hl => match us, hl with | [_], _ => rfl⟩
  have O_Contest___init__ := ok_Contest___init__ (P := P) (w := w) (mg := mg) (base := base) F37 T 
  have s_Contest___init__ : SCl P w K mg base 1 "Contest" "__init__" ["self", "names"] (sp_Contest___init__ K) := ⟨_, fd37, T.su_Contest___init__.1, T.su_Contest___init__.2.1, T.su_Contest___init__.2.2, O_Contest___init__, T.gs_Contest___init__, F37.bindsN fun _ _ _ _ _ _ us hl => match us, hl with | [_, _], _ => rfl⟩
  have O_Contest_named := ok_Contest_named (P := P) (w := w) (mg := mg) (base := base) F38 T 
  have m_Most_named : MCl P w K mg base 1 "Most" "named" ["self"] (sp_Contest_named K) := ⟨_, fd38, T.cl_Most, T.me_Most_named, O_Contest_named, F38.bindsN fun _ _ _ _ _ _ us hl => match us, hl with | [_], _ => rfl⟩
  have O_Rule_stake := ok_Rule_stake (P := P) (w := w) (mg := mg) (base := base) F41 T 
  have m_Rule_stake : MCl P w K mg base 1 "Rule" "stake" ["self", "past", "price", "top"] (sp_Rule_stake K) := ⟨_, fd41, T.cl_Rule, T.me_Rule_stake, O_Rule_stake, F41.bindsN fun _ _ _ _ _ _ us hl => match us, hl with | [_, _, _, _], _ => rfl⟩
  have O_Fixed___init__ := ok_Fixed___init__ (P := P) (w := w) (mg := mg) (base := base) F42 T 
  have k_Fixed : KCl P w K mg base 1 "Fixed" ["self", "part"] (sp_Fixed___init__ K) := ⟨_, fd42, T.mk_Fixed, O_Fixed___init__, T.gk_Fixed, F42.bindsN fun _ _ _ _ _ _ us hl => match us, hl with | [_, _], _ => rfl⟩
  have O_Fixed_stake := ok_Fixed_stake (P := P) (w := w) (mg := mg) (base := base) F43 T 
  have m_Fixed_stake : MCl P w K mg base 1 "Fixed" "stake" ["self", "past", "price", "top"] (sp_Fixed_stake K) := ⟨_, fd43, T.cl_Fixed, T.me_Fixed_stake, O_Fixed_stake, F43.bindsN fun _ _ _ _ _ _ us hl => match us, hl with | [_, _, _, _], _ => rfl⟩
  have c__law_at : Cl P w K mg base 1 "_law_at" ["_law_script", "_law_k"] (sp__law_at K) := ⟨_, fd44, ok__law_at F44 T , g__law_at, F44.kp, F44.bindsN fun _ _ _ _ _ _ us hl => match us, hl with | [_, _], _ => rfl⟩
  have c__law_mix : Cl P w K mg base 1 "_law_mix" ["_law_cell", "_law_k"] (sp__law_mix K) := ⟨_, fd45, ok__law_mix F45 T , g__law_mix, F45.kp, F45.bindsN fun _ _ _ _ _ _ us hl => match us, hl with | [_, _], _ => rfl⟩
  have c__law_lowest : Cl P w K mg base 1 "_law_lowest" ["_law_a", "_law_b"] (sp__law_lowest K) := ⟨_, fd47, ok__law_lowest F47 T , g__law_lowest, F47.kp, F47.bindsN fun _ _ _ _ _ _ us hl => match us, hl with | [_, _], _ => rfl⟩
  have c__law_value : Cl P w K mg base 1 "_law_value" ["_law_one", "_law_other", "_law_mark"] (sp__law_value K) := ⟨_, fd50, ok__law_value F50 T , g__law_value, F50.kp, F50.bindsN fun _ _ _ _ _ _ us hl => match us, hl with | [_, _, _], _ => rfl⟩
  have c_lowest : Cl P w K mg base 2 "lowest" ["a", "b"] (sp_lowest K) := ⟨_, fd1, ok_lowest F1 T c_in_common, g_lowest, F1.kp, F1.bindsN fun _ _ _ _ _ _ us hl => match us, hl with | [_, _], _ => rfl⟩
  have O_Looking_top := ok_Looking_top (P := P) (w := w) (mg := mg) (base := base) F17 T m_Beats_greatest m_Claim_greatest
  have m_Looking_top : MCl P w K mg base 2 "Looking" "top" ["self"] (sp_Looking_top K) := ⟨_, fd17, T.cl_Looking, T.me_Looking_top, O_Looking_top, F17.bindsN fun _ _ _ _ _ _ us hl => match us, hl with | [_], _ => rfl⟩
  have O_Audit_worths := ok_Audit_worths (P := P) (w := w) (mg := mg) (base := base) F26 T m_Game_worth
  have m_Audit_worths : MCl P w K mg base 2 "Audit" "worths" ["self"] (sp_Audit_worths K) := ⟨_, fd26, T.cl_Audit, T.me_Audit_worths, O_Audit_worths, F26.bindsN fun _ _ _ _ _ _ us hl => match us, hl with | [_], _ => rfl⟩
  have O_Audit_is_ballot := ok_Audit_is_ballot (P := P) (w := w) (mg := mg) (base := base) F29 T c_is_mark
  have m_Audit_is_ballot : MCl P w K mg base 2 "Audit" "is_ballot" ["self", "thing"] (sp_Audit_is_ballot K) := ⟨_, fd29, T.cl_Audit, T.me_Audit_is_ballot, O_Audit_is_ballot, F29.bindsN fun _ _ _ _ _ _ us hl => match us, hl with | [_, _], _ => rfl⟩
  have O_Claim_value := ok_Claim_value (P := P) (w := w) (mg := mg) (base := base) F31 T m_Beats_value_of m_Claim_value_of
  have m_Beats_value : MCl P w K mg base 2 "Beats" "value" ["self", "mark"] (sp_Claim_value K) := ⟨_, fd31, T.cl_Beats, T.me_Beats_value, O_Claim_value, F31.bindsN fun _ _ _ _ _ _ us hl => match us, hl with | [_, _], _ => rfl⟩
  have m_Claim_value : MCl P w K mg base 2 "Claim" "value" ["self", "mark"] (sp_Claim_value K) := ⟨_, fd31, T.cl_Claim, T.me_Claim_value, O_Claim_value, F31.bindsN fun _ _ _ _ _ _ us hl => match us, hl with | [_, _], _ => rfl⟩
  have O_Most___init__ := ok_Most___init__ (P := P) (w := w) (mg := mg) (base := base) F39 T s_Contest___init__
  have k_Most : KCl P w K mg base 2 "Most" ["self", "names", "seats"] (sp_Most___init__ K) := ⟨_, fd39, T.mk_Most, O_Most___init__, T.gk_Most, F39.bindsN fun _ _ _ _ _ _ us hl => match us, hl with | [_, _, _], _ => rfl⟩
  have c__law_names : Cl P w K mg base 2 "_law_names" ["_law_cell", "_law_many"] (sp__law_names K) := ⟨_, fd46, ok__law_names F46 T c__law_mix, g__law_names, F46.kp, F46.bindsN fun _ _ _ _ _ _ us hl => match us, hl with | [_, _], _ => rfl⟩
  have c__law_plus : Cl P w K mg base 2 "_law_plus" ["_law_x", "_law_y"] (sp__law_plus K) := ⟨_, fd48, ok__law_plus F48 T c__law_lowest, g__law_plus, F48.kp, F48.bindsN fun _ _ _ _ _ _ us hl => match us, hl with | [_, _], _ => rfl⟩
  have c__law_times : Cl P w K mg base 2 "_law_times" ["_law_x", "_law_y"] (sp__law_times K) := ⟨_, fd49, ok__law_times F49 T c__law_lowest, g__law_times, F49.kp, F49.bindsN fun _ _ _ _ _ _ us hl => match us, hl with | [_, _], _ => rfl⟩
  have c__law_contest : Cl P w K mg base 2 "_law_contest" ["_law_cell", "_law_names_here"] (sp__law_contest K) := ⟨_, fd51, ok__law_contest F51 T c__law_mix, g__law_contest, F51.kp, F51.bindsN fun _ _ _ _ _ _ us hl => match us, hl with | [_, _], _ => rfl⟩
  have c__law_guess : Cl P w K mg base 2 "_law_guess" ["_law_contest_here", "_law_cell"] (sp__law_guess K) := ⟨_, fd52, ok__law_guess F52 T c__law_mix, g__law_guess, F52.kp, F52.bindsN fun _ _ _ _ _ _ us hl => match us, hl with | [_, _], _ => rfl⟩
  have c__law_ballot : Cl P w K mg base 2 "_law_ballot" ["_law_cell", "_law_contests"] (sp__law_ballot K) := ⟨_, fd53, ok__law_ballot F53 T c__law_mix, g__law_ballot, F53.kp, F53.bindsN fun _ _ _ _ _ _ us hl => match us, hl with | [_, _], _ => rfl⟩
  have c__law_exchanged : Cl P w K mg base 2 "_law_exchanged" ["_law_draws", "_law_cell"] (sp__law_exchanged K) := ⟨_, fd55, ok__law_exchanged F55 T c__law_mix, g__law_exchanged, F55.kp, F55.bindsN fun _ _ _ _ _ _ us hl => match us, hl with | [_, _], _ => rfl⟩
  have c_plus : Cl P w K mg base 3 "plus" ["x", "y"] (sp_plus K) := ⟨_, fd2, ok_plus F2 T c_lowest, g_plus, F2.kp, F2.bindsN fun _ _ _ _ _ _ us hl => match us, hl with | [_, _], _ => rfl⟩
  have c_minus : Cl P w K mg base 3 "minus" ["x", "y"] (sp_minus K) := ⟨_, fd3, ok_minus F3 T c_lowest, g_minus, F3.kp, F3.bindsN fun _ _ _ _ _ _ us hl => match us, hl with | [_, _], _ => rfl⟩
  have c_times : Cl P w K mg base 3 "times" ["x", "y"] (sp_times K) := ⟨_, fd4, ok_times F4 T c_lowest, g_times, F4.kp, F4.bindsN fun _ _ _ _ _ _ us hl => match us, hl with | [_, _], _ => rfl⟩
  have c_over : Cl P w K mg base 3 "over" ["x", "y"] (sp_over K) := ⟨_, fd5, ok_over F5 T c_lowest, g_over, F5.kp, F5.bindsN fun _ _ _ _ _ _ us hl => match us, hl with | [_, _], _ => rfl⟩
  have O_Game_twin := ok_Game_twin (P := P) (w := w) (mg := mg) (base := base) F8 T k_Game
  have m_Game_twin : MCl P w K mg base 3 "Game" "twin" ["self"] (sp_Game_twin K) := ⟨_, fd8, T.cl_Game, T.me_Game_twin, O_Game_twin, F8.bindsN fun _ _ _ _ _ _ us hl => match us, hl with | [_], _ => rfl⟩
  have O_Looking_value := ok_Looking_value (P := P) (w := w) (mg := mg) (base := base) F16 T m_Beats_value m_Claim_value
  have m_Looking_value : MCl P w K mg base 3 "Looking" "value" ["self", "number", "mark"] (sp_Looking_value K) := ⟨_, fd16, T.cl_Looking, T.me_Looking_value, O_Looking_value, F16.bindsN fun _ _ _ _ _ _ us hl => match us, hl with | [_, _, _], _ => rfl⟩
  have c_way_of : Cl P w K mg base 3 "way_of" ["claim", "record", "k"] (sp_way_of K) := ⟨_, fd18, ok_way_of F18 T k_Looking, g_way_of, F18.kp, F18.bindsN fun _ _ _ _ _ _ us hl => match us, hl with | [_, _, _], _ => rfl⟩
  have O_Most_claims := ok_Most_claims (P := P) (w := w) (mg := mg) (base := base) F40 T k_Beats
  have m_Most_claims : MCl P w K mg base 3 "Most" "claims" ["self", "outcome"] (sp_Most_claims K) := ⟨_, fd40, T.cl_Most, T.me_Most_claims, O_Most_claims, F40.bindsN fun _ _ _ _ _ _ us hl => match us, hl with | [_, _], _ => rfl⟩
  have c__law_worths : Cl P w K mg base 3 "_law_worths" ["_law_contests", "_law_outcomes", "_law_draws", "_law_part"] (sp__law_worths K) := ⟨_, fd54, ok__law_worths F54 T c__law_times c__law_plus c__law_value, g__law_worths, F54.kp, F54.bindsN fun _ _ _ _ _ _ us hl => match us, hl with | [_, _, _, _], _ => rfl⟩
  have O_Game_price := ok_Game_price (P := P) (w := w) (mg := mg) (base := base) F10 T c_over c_minus c_lowest m_Game_ended
  have m_Game_price : MCl P w K mg base 4 "Game" "price" ["self"] (sp_Game_price K) := ⟨_, fd10, T.cl_Game, T.me_Game_price, O_Game_price, F10.bindsN fun _ _ _ _ _ _ us hl => match us, hl with | [_], _ => rfl⟩
  have O_Game_reached := ok_Game_reached (P := P) (w := w) (mg := mg) (base := base) F14 T c_below c_times
  have m_Game_reached : MCl P w K mg base 4 "Game" "reached" ["self", "limit"] (sp_Game_reached K) := ⟨_, fd14, T.cl_Game, T.me_Game_reached, O_Game_reached, F14.bindsN fun _ _ _ _ _ _ us hl => match us, hl with | [_, _], _ => rfl⟩
  have O_Audit___init__ := ok_Audit___init__ (P := P) (w := w) (mg := mg) (base := base) F24 T m_Sheet_add k_Game m_Looking_top c_way_of k_Sheet m_Most_named m_Most_claims
  have k_Audit : KCl P w K mg base 4 "Audit" ["self", "contests", "outcomes", "limits", "many", "record", "rule", "again", "most"] (sp_Audit___init__ K) := ⟨_, fd24, T.mk_Audit, O_Audit___init__, T.gk_Audit, F24.bindsN fun _ _ _ _ _ _ us hl => match us, hl with | [_, _, _, _, _, _, _, _, _], _ => rfl⟩
  have O_Game_worth_behind := ok_Game_worth_behind (P := P) (w := w) (mg := mg) (base := base) F11 T c_times c_plus c_minus c_over m_Fixed_stake m_Rule_stake m_Game_price
  have m_Game_worth_behind : MCl P w K mg base 5 "Game" "worth_behind" ["self", "value"] (sp_Game_worth_behind K) := ⟨_, fd11, T.cl_Game, T.me_Game_worth_behind, O_Game_worth_behind, F11.bindsN fun _ _ _ _ _ _ us hl => match us, hl with | [_, _], _ => rfl⟩
  have O_Sheet_is_sure := ok_Sheet_is_sure (P := P) (w := w) (mg := mg) (base := base) F22 T m_Game_reached
  have m_Sheet_is_sure : MCl P w K mg base 5 "Sheet" "is_sure" ["self"] (sp_Sheet_is_sure K) := ⟨_, fd22, T.cl_Sheet, T.me_Sheet_is_sure, O_Sheet_is_sure, F22.bindsN fun _ _ _ _ _ _ us hl => match us, hl with | [_], _ => rfl⟩
  have O_Game_play := ok_Game_play (P := P) (w := w) (mg := mg) (base := base) F12 T c_below c_lowest c_plus m_Game_worth_behind m_Game_ended
  have m_Game_play : MCl P w K mg base 6 "Game" "play" ["self", "value"] (sp_Game_play K) := ⟨_, fd12, T.cl_Game, T.me_Game_play, O_Game_play, F12.bindsN fun _ _ _ _ _ _ us hl => match us, hl with | [_, _], _ => rfl⟩
  have O_Audit_sure_of := ok_Audit_sure_of (P := P) (w := w) (mg := mg) (base := base) F25 T m_Sheet_is_sure
  have m_Audit_sure_of : MCl P w K mg base 6 "Audit" "sure_of" ["self"] (sp_Audit_sure_of K) := ⟨_, fd25, T.cl_Audit, T.me_Audit_sure_of, O_Audit_sure_of, F25.bindsN fun _ _ _ _ _ _ us hl => match us, hl with | [_], _ => rfl⟩
  have O_Sheet_played := ok_Sheet_played (P := P) (w := w) (mg := mg) (base := base) F23 T m_Game_play m_Looking_value m_Game_twin
  have m_Sheet_played : MCl P w K mg base 7 "Sheet" "played" ["self", "number", "mark"] (sp_Sheet_played K) := ⟨_, fd23, T.cl_Sheet, T.me_Sheet_played, O_Sheet_played, F23.bindsN fun _ _ _ _ _ _ us hl => match us, hl with | [_, _, _], _ => rfl⟩
  have O_Audit_verdict := ok_Audit_verdict (P := P) (w := w) (mg := mg) (base := base) F27 T m_Audit_sure_of
  have m_Audit_verdict : MCl P w K mg base 7 "Audit" "verdict" ["self"] (sp_Audit_verdict K) := ⟨_, fd27, T.cl_Audit, T.me_Audit_verdict, O_Audit_verdict, F27.bindsN fun _ _ _ _ _ _ us hl => match us, hl with | [_], _ => rfl⟩
  have O_Audit_draw := ok_Audit_draw (P := P) (w := w) (mg := mg) (base := base) F30 T m_Audit_verdict m_Sheet_played m_Audit_is_ballot m_Audit_is_number
  have m_Audit_draw : MCl P w K mg base 8 "Audit" "draw" ["self", "number", "ballot"] (sp_Audit_draw K) := ⟨_, fd30, T.cl_Audit, T.me_Audit_draw, O_Audit_draw, F30.bindsN fun _ _ _ _ _ _ us hl => match us, hl with | [_, _, _], _ => rfl⟩
  exact ok_law F56 T m_Audit_worths m_Audit_draw k_Audit k_Fixed c__law_exchanged c__law_at k_Most c__law_worths c__law_ballot c__law_mix c__law_lowest c__law_guess c__law_contest c__law_names
end Lw
open PySem PySem.W PySem.Calls PyProof.Rows
theorem PySem.Challenge.cw_surecount_k49_draws_in_another_order_holds : PySem.Challenge.rw_surecount_k49_draws_in_another_order.Holds := by
  w_on; o_law
  refine HandSHeadRun.head_any (r := OpenLaw.row PySem.Challenge.rw_surecount_k49_draws_in_another_order) (q := view (OpenLaw.row PySem.Challenge.rw_surecount_k49_draws_in_another_order).prog [63]) (H := Lw.hk) (ob := Lw.ob) (M := 12000) (loose := Lw.loose) (d := HandSHeadRun.topDef (OpenLaw.row PySem.Challenge.rw_surecount_k49_draws_in_another_order).prog 63) (kwd := []) Lw.ob_eq
    (by kernel_rfl) (fun s => by kernel_rfl) Lw.run (by kernel_rfl) (by kernel_rfl) (by kernel_rfl) (by rfl) (by first | assumption | decide +kernel) (by decide +kernel) ⟨rfl, rfl, rfl, rfl, rfl, by decide +kernel⟩ ?hw ?hc
  case hw => w_witness2
  case hc =>
    refine L2.walk_ofE (l := PySem.Challenge.rw_surecount_k49_draws_in_another_order) (n := 63) (k := 9) (x := "_law_script") (CX := L2.CX0) rfl (by decide) (by kernel_rfl) ⟨rfl, by decide, by decide⟩ ?F (fun _ _ _ _ z => z)
    case F =>
      intro w mg fa h Y G hmg0
      obtain ⟨K, KX, c⟩ := Y
      have hmg : mg ("law" : PySem.Str) = some (.ref fa) := by
        have e : (HandSHeadRun.topDef (OpenLaw.row PySem.Challenge.rw_surecount_k49_draws_in_another_order).prog 63).name = ("law" : PySem.Str) := by kernel_rfl
        rw [← e]
        exact hmg0
      obtain ⟨fd, hb, hF⟩ := Lw.facts (P := (PySem.Challenge.rw_surecount_k49_draws_in_another_order).prog) (w := w) KX G hmg c.1 c.2
      exact ⟨K, fd, Lw.sp_law K, KX, hb, fun H a ns hl _ hS => ⟨a, ns, rfl, hS, hl, fun _ => rfl⟩, hF⟩
