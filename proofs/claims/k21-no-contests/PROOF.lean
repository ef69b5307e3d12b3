import PyProof.Rows.All
import Wide.All
import OpenK.AllK
import Wide.FinOn
import Lean
import HandS.ForMost
import HandS.ForExc
import HandS.Wide
import HandS.WideBits
import HandS.TupAny
import HandS.TupLe
import HandS.TryOnly
import HandS.TupMul
import HandS.Deep
import HandS.IsInst
import HandS.ExcIs
import KE.KExcIs
import KE.DataFind
import KE.GoesEnum
import KE.GoesMore
import KE.KxIndex
import KE.KeyNested
import HandS.ExcInit
import HandS.ExcField
import HandS.ClsMeth
import HandS.Style
import HandS.Codes
import HandS.Conv
import HandS.SetFor
import HandS.Zip
import HandS.More
import HandS.Replace
import HandS.RevRange
import HandS.Text
import HandS.Defaults
import HandS.Small
import HandS.HeadEnd
import HandS.HeadHook1
import HandS.HeadHook2
import HandS.HeadHook3
import HandS.HeadHook4
import HandS.Head0
import HandS.Head1
import HandS.Head2
import PySem.Challenge.RW_surecount_k21_no_contests
set_option Elab.async false
set_option linter.all false
set_option maxRecDepth 100000
set_option maxHeartbeats 16000000
/-! ### own short words over the hand layer -/
namespace Gx
open PySem PySem.Spec PyProof.Rows L2
/-- all but l stays -/
def But (l : Addr) (H H' : Hp) : Prop := ∀ a o, a ≠ l → H a = some o → H' a = some o
theorem But.of {H H' : Hp} {l : Addr} (e : Same H H') : But l H H' := fun a o _ h => e a o h
theorem But.trans {H H1 H2 : Hp} {l : Addr} (a : But l H H1) (b : But l H1 H2) : But l H H2 := fun c o n h => b c o n (a c o n h)
theorem But.upd {H : Hp} {l : Addr} {o : HO} : But l H (upd H l o) := fun a u n h => by
  rw [upd_ne n]
  exact h
theorem same_new {H : Hp} {p : Addr} {o : HO} (h : H p = none) : Same H (upd H p o) := fun b u q => by
  rw [upd_ne (ne_of_none q h)]
  exact q
theorem But.same {H H1 H2 : Hp} {l : Addr} (n : H l = none) (a : Same H H1) (b : But l H1 H2) : Same H H2 := fun c o h => b c o (ne_of_none h n) (a c o h)
/-! ### reading facts through heaps -/
theorem up_same {H H' : Hp} (e : Same H H') {a : Addr} {o : HO} (h : H a = some o) : H' a = some o := e a o h
theorem up_but {H H' : Hp} {l : Addr} (e : But l H H') {a : Addr} {o : HO} (n : a ≠ l) (h : H a = some o) : H' a = some o := e a o n h
theorem seqL_same {K : PySem.W.Frag} {H H' : Hp} (e : Same H H') {a : Addr} {xs : List V} (h : SqL K H a xs) : SqL K H' a xs := e.seq h
theorem seqT_same {K : PySem.W.Frag} {H H' : Hp} (e : Same H H') {a : Addr} {xs : List V} (h : SqT K H a xs) : SqT K H' a xs := by
  rcases h with (h | ⟨o, h⟩) | h
  · exact .inl (.inl (e _ _ h))
  · exact .inl (.inr ⟨o, e _ _ h⟩)
  · exact .inr h
/-- tuples stay while a list changes -/
theorem seqT_but {K : PySem.W.Frag} {H H' : Hp} {l : Addr} {ys : List V} (e : But l H H') (hl : H l = some (.lst ys)) {a : Addr} {xs : List V} (h : SqT K H a xs) : SqT K H' a xs := by
  rcases h with (h | ⟨o, h⟩) | h
  · exact .inl (.inl (e _ _ (ne_of h hl (by intro z; cases z)) h))
  · exact .inl (.inr ⟨o, e _ _ (ne_of h hl (by intro z; cases z)) h⟩)
  · exact .inr h
theorem seqL_mono {K : PySem.W.Frag} {H H' : Hp} {a : Addr} {xs : List V} (h : SqL K H a xs) (e : ∀ o, H a = some o → (∀ ps, o ≠ .tbl ps) → H' a = some o) : SqL K H' a xs := by
  rcases h with (h | ⟨o, h⟩) | h
  · exact .inl (.inl (e _ h (by intro ps z; cases z)))
  · exact .inl (.inr ⟨o, e _ h (by intro ps z; cases z)⟩)
  · exact .inr h
theorem seqL_but {K : PySem.W.Frag} {H H' : Hp} {l : Addr} (e : But l H H') {a : Addr} (n : a ≠ l) {xs : List V} (h : SqL K H a xs) : SqL K H' a xs := by
  rcases h with (h | ⟨o, h⟩) | h
  · exact .inl (.inl (e _ _ n h))
  · exact .inl (.inr ⟨o, e _ _ n h⟩)
  · exact .inr h
/-! ### data through heaps -/
mutual
theorem dp_same {K : PySem.W.Frag} {H H' : Hp} (e : Same H H') : ∀ {d : PyData} {v : V}, Dp K H v d → Dp K H' v d
  | _, _, .non => .non
  | _, _, .bl b => .bl b
  | _, _, .int i => .int i
  | _, _, .str x => .str x
  | _, _, .lst h a => .lst (seqL_same e h) (dpAll_same e a)
  | _, _, .tup h a => .tup (seqT_same e h) (dpAll_same e a)
theorem dpAll_same {K : PySem.W.Frag} {H H' : Hp} (e : Same H H') : ∀ {ds : List PyData} {vs : List V}, DpAll K H vs ds → DpAll K H' vs ds
  | _, _, .nil => .nil
  | _, _, .cons a r => .cons (dp_same e a) (dpAll_same e r)
end
/-! data without lists -/
mutual
def noL : PyData → Bool
  | .list _ => false
  | .tuple ds => noLs ds
  | _ => true
def noLs : List PyData → Bool
  | [] => true
  | d :: ds => noL d && noLs ds
end
mutual
theorem dp_but {K : PySem.W.Frag} {H H' : Hp} {l : Addr} {ys : List V} (e : But l H H') (hl : H l = some (.lst ys)) : ∀ {d : PyData} {v : V}, noL d = true → Dp K H v d → Dp K H' v d
  | _, _, _, .non => .non
  | _, _, _, .bl b => .bl b
  | _, _, _, .int i => .int i
  | _, _, _, .str x => .str x
  | _, _, n, .lst h a => by simp [noL] at n
  | _, _, n, .tup h a => .tup (seqT_but e hl h) (dpAll_but e hl (by simpa [noL] using n) a)
theorem dpAll_but {K : PySem.W.Frag} {H H' : Hp} {l : Addr} {ys : List V} (e : But l H H') (hl : H l = some (.lst ys)) : ∀ {ds : List PyData} {vs : List V}, noLs ds = true → DpAll K H vs ds → DpAll K H' vs ds
  | _, _, _, .nil => .nil
  | _, _, n, .cons a r => by
    simp [noLs] at n
    exact .cons (dp_but e hl n.1 a) (dpAll_but e hl n.2 r)
end
theorem tyof_same {K : PySem.W.Frag} {H H' : Hp} (e : Same H H') {x : V} {t : Value} (h : TyOf K H x t) : TyOf K H' x t := by
  cases h with
  | non => exact .non
  | bl x => exact .bl x
  | int i => exact .int i
  | str x => exact .str x
  | flt x => exact .flt x
  | lst h => exact .lst (e _ _ h)
  | frz h => exact .frz (e _ _ h)
  | tup h => exact .tup (e _ _ h)
  | dK h => exact .dK (e _ _ h)
  | dT h => exact .dT (e _ _ h)
  | ins h cl ha hn htk hm => exact .ins (e _ _ h) cl ha hn htk hm
theorem tyx_same {K : PySem.W.Frag} {H H' : Hp} (e : Same H H') {x : V} {t : Value} (h : TyX K H x t) : TyX K H' x t := by
  cases h with
  | base h => exact .base (tyof_same e h)
  | byt b => exact .byt b
  | set h => exact .set (e _ _ h)
  | kList h c => exact .kList h c
  | kTuple h c => exact .kTuple h c
  | kDict h c => exact .kDict h c
  | fTuple h => exact .fTuple (e _ _ h)
  | fDict h => exact .fDict (e _ _ h)
/-! ### a def that may be called -/
structure Cl (P : Program) (w : World) (K : PySem.W.Frag) (mg : Str → Option Value) (base : Heap) (k : Nat) (x : Str) (ps : List Str) (sp : Sp) : Prop where
  ex : ∃ f fd, FnOk P w K mg base (L2.CX P w) k f fd ps sp ∧ mg x = some (.ref f) ∧ PySem.W.keepIn K (.ref f) = true ∧ Binds K fd ps []
section
variable {X : Cx} {W : WX} {e : Expr} {es : List Expr} {p pos : Pos} {t : TA} {x : Str} {ps : List Str} {sp : Sp} {j k : Nat}
theorem pcall (c : Cl X.prog X.w X.K X.mg X.base k x ps sp) (hr : Room j X.A) (hk : k ≤ j) (tk : Takes X W) (ha : PA X (e :: es) t) (hg : Gl X x := by rfl)
    (he : starEach (e :: es) X.env = (false, eval e X.env) :: starEach es X.env := by rfl) (hpl : (backTo pos (starEach es X.env)).any (·.1) = false := by rfl) (hdb : (x == ("__debug__" : Str)) = false := by decide) :
    PE X (.Call (.Name x p) (e :: es) [] pos) (tCallS sp (WE W) t) := by
  obtain ⟨f, fd, F, m, kp, b⟩ := c.ex
  exact pe_callS F (hr.mono hk) hg m kp b (fun σ => passAt tk σ) ha hdb he hpl
theorem pcall0 (c : Cl X.prog X.w X.K X.mg X.base k x ps sp) (hr : Room j X.A) (hk : k ≤ j) (hg : Gl X x := by rfl) (hdb : (x == ("__debug__" : Str)) = false := by decide) :
    PE X (.Call (.Name x p) [] [] pos) (tCall sp [] E0 tNil) := by
  obtain ⟨f, fd, F, m, kp, b⟩ := c.ex
  exact pe_call0 F (hr.mono hk) hg m kp b .nil passL hdb
/-- where nothing may be raised -/
theorem pcallN (c : Cl X.prog X.w X.K X.mg X.base k x ps sp) (hr : Room j X.A) (hk : k ≤ j) (ha : PA X (e :: es) t) (hg : Gl X x := by rfl)
    (he : starEach (e :: es) X.env = (false, eval e X.env) :: starEach es X.env := by rfl) (hpl : (backTo pos (starEach es X.env)).any (·.1) = false := by rfl) (hdb : (x == ("__debug__" : Str)) = false := by decide) :
    PE X (.Call (.Name x p) (e :: es) [] pos) (tCall sp [] E0 t) := by
  obtain ⟨f, fd, F, m, kp, b⟩ := c.ex
  exact pe_call F (hr.mono hk) hg m kp b .nil passL ha hdb he hpl
end
/-- a recursion: nothing is promised at 0 -/
theorem fn_void {P : Program} {w : World} {K : PySem.W.Frag} {mg : Str → Option Value} {base : Heap} {CX : CXT} {k : Nat} {f : Addr} {fd : FuncData} {ps : List Str} {sp : Sp} (h : ∀ vs H Q E, ¬ sp vs H Q E) : FnOk P w K mg base CX k f fd ps sp :=
  ⟨fun vs H Q E z => (h vs H Q E z).elim, fun _ _ _ H _ _ vs Q E _ _ _ _ z => (h vs H Q E z).elim⟩
/-! ### exceptions with fields, their own __init__ walked -/
section
def oexB (K : PySem.W.Frag) (x : Str) : Bool := (match K.lookup (He.ga K x) with
  | some ⟨.type "type", _, .cls cd, sl⟩ => (match cd.mro, sl.toList with
    | .ref C' :: bm, [_, _, _, _, some (.builtin n), _] => C' == He.ga K x && n == "ValueError.__new__" && !cd.hasDel && cd.hasDict && PySem.HandSPX.refsVE bm
    | _, _ => false)
  | _ => false) && (He.eqO (PySem.W.findIn K (.ref (He.ga K x)) "__setattr__") (some (some (.builtin "object.__setattr__"))) && (decide (PySem.W.subIn K (.ref (He.ga K x)) (.type "BaseException") = some true) && (decide (PySem.W.typeIn K (.ref (He.ga K x)) = some (.type "type")) && PySem.W.keepIn K (.ref (He.ga K x)))))
theorem oexB_ok {K : PySem.W.Frag} {x : Str} (h : oexB K x = true) : OexC K (He.ga K x) := by
  unfold oexB at h
  obtain ⟨q, h⟩ := He.ba h
  obtain ⟨h1, h⟩ := He.ba h
  obtain ⟨h2, h⟩ := He.ba h
  obtain ⟨h3, h4⟩ := He.ba h
  refine ⟨?_, He.eqO_ok h1, of_decide_eq_true h2, of_decide_eq_true h3, h4⟩
  split at q
  · rename_i dd cd sl ho
    split at q
    · rename_i C' bm k0 k1 k2 k3 n k5 hm hs
      simp only [Bool.and_eq_true, beq_iff_eq, Bool.not_eq_true'] at q
      obtain ⟨⟨⟨⟨hC, hn⟩, hdel⟩, hdc⟩, hr⟩ := q
      obtain ⟨nm, bs, mro, ns, qn, hd, sn, sub, ab, col, del⟩ := cd
      dsimp only at hm hdel hdc
      subst hm hdel hdc hC hn
      have hsl : sl = #[k0, k1, k2, k3, some (.builtin "ValueError.__new__"), k5] := by
        obtain ⟨l⟩ := sl
        simp only at hs
        rw [hs]
      subst hsl
      exact ⟨_, _, _, _, _, _, _, _, _, _, _, _, _, _, _, ho, hr⟩
    · cases q
  · cases q
/-- the own __init__ of an exception -/
def oinB (K : PySem.W.Frag) (x : Str) : Bool := He.eqO (PySem.W.findIn K (.ref (He.ga K x)) "__init__") (some (some (.ref (He.ma K (He.ga K x) "__init__")))) && decide (PySem.W.typeIn K (.ref (He.ma K (He.ga K x) "__init__")) = some (.type "function"))
theorem oinB_ok {K : PySem.W.Frag} {x : Str} (h : oinB K x = true) : PySem.W.findIn K (.ref (He.ga K x)) "__init__" = some (some (.ref (He.ma K (He.ga K x) "__init__"))) ∧ PySem.W.typeIn K (.ref (He.ma K (He.ga K x) "__init__")) = some (.type "function") := by
  obtain ⟨h1, h2⟩ := He.ba h
  exact ⟨He.eqO_ok h1, of_decide_eq_true h2⟩
/-- Base.__init__(self, ..) of an exception class that has ValueError's -/
structure SupC (K : PySem.W.Frag) (C : Addr) : Prop where
  r : ClX.CRead K C (.type "type")
  at_ : PySem.W.findCls K (.ref C) (.type "type") "__init__" = some (.val (.builtin "ValueError.__init__"))
def supB (K : PySem.W.Frag) (x : Str) : Bool := PySem.W.readsIn K (He.ga K x) (.type "type") && (He.eqO (PySem.W.specialIn K (.ref (He.ga K x)) "__getattribute__") (some (some (.builtin "type.__getattribute__"))) && (match PySem.W.findCls K (.ref (He.ga K x)) (.type "type") "__init__" with
  | some (.val (.builtin n)) => n == "ValueError.__init__"
  | _ => false))
theorem supB_ok {K : PySem.W.Frag} {x : Str} (h : supB K x = true) : SupC K (He.ga K x) := by
  obtain ⟨h1, h⟩ := He.ba h
  obtain ⟨h2, h3⟩ := He.ba h
  refine ⟨⟨h1, He.eqO_ok h2⟩, ?_⟩
  split at h3
  · rename_i n e
    rw [e, beq_iff_eq.mp h3]
  · cases h3
theorem pe_svinit {X : Cx} {n : Str} {C : Addr} {e : Expr} {es : List Expr} {ta : TA} {p1 p2 pos : Pos} {pl : Sem Bool} (S : SupC X.K C) (hg : Gl X n) (hm : X.mg n = some (.ref C)) (ha : PA X (e :: es) ta)
    (hc : eval (.Call (.Attribute (.Name n p1) "__init__" p2) (e :: es) [] pos) X.env = (do
      let ov ← eval (.Name n p1) X.env
      standAt p2.atName
      let (f, first) ← holding [ov] (getMethod ov "__init__" pl)
      callWith pos f first (backTo pos (starEach (e :: es) X.env)) (backToKw pos (keywordEach [] X.env))) := by rfl)
    (he : starEach (e :: es) X.env = (false, eval e X.env) :: starEach es X.env := by rfl) (hpl : (backTo pos (starEach es X.env)).any (·.1) = false := by rfl) (hdb : (n == ("__debug__" : Str)) = false := by decide) :
    PE X (.Call (.Attribute (.Name n p1) "__init__" p2) (e :: es) [] pos) (tVeI X.K ta) := by
  refine ⟨fun pins s σ H Q I h => ?_⟩
  refine PySem.W.methodCall_KW (ld_glob I hg hm ?_ hdb) hc
  refine PySem.W.method_cls I.kIn S.r.ga (PySem.W.cls_value I.kIn S.r.rd S.at_ rfl ?_)
  show wpAny _ _ (callWith pos (Value.builtin "ValueError.__init__") [] (backTo pos (starEach (e :: es) X.env)) []) _ _ _
  refine PyProof.Rows.callWith_method1 (thn (ha.run pos pins _ σ H _ (I.tok _) h) fun us s1 ⟨vs, H1, I1, r1, a, C', ws, ev, hl, T, ea, q⟩ => ?_) he hpl
  subst ev
  cases r1 with
  | @cons _ u0 _ ur ra rw' =>
    obtain rfl : u0 = Value.ref a := ra
    have hlen : ur.length ≤ sizeLine := by
      rw [← Paired.length rw', sizeLine_eq]
      omega
    exact oinit_ok T I1 ea hlen fun s' J => ⟨.non, H1, J, rfl, q⟩
/-- what the __init__ of an exception with one field keeps -/
def spXI (C : Addr) (f : Str) : Sp := fun vs H Q _ => ∃ (a : Addr) (v : V), vs = [.ref a, v] ∧ H a = some (exo a C none) ∧ ∀ d, H d = none → d ≠ a → Q .non (upd (upd H d (exd d [(f, v)])) a (exo a C (some d)))
structure XCl (P : Program) (w : World) (K : PySem.W.Frag) (mg : Str → Option Value) (base : Heap) (k : Nat) (x : Str) (ps : List Str) (sp : Sp) : Prop where
  ex : ∃ fd, OexC K (He.ga K x) ∧ PySem.W.findIn K (.ref (He.ga K x)) "__init__" = some (some (.ref (He.ma K (He.ga K x) "__init__"))) ∧ PySem.W.typeIn K (.ref (He.ma K (He.ga K x) "__init__")) = some (.type "function") ∧
    FnOk P w K mg base (L2.CX P w) k (He.ma K (He.ga K x) "__init__") fd ps sp ∧ mg x = some (.ref (He.ga K x)) ∧ Binds K fd ps []
theorem pmkO {X : Cx} {e : Expr} {es : List Expr} {ta : TA} {p pos : Pos} {x : Str} {ps : List Str} {sp : Sp} {j k : Nat} (c : XCl X.prog X.w X.K X.mg X.base k x ps sp) (hr : Room j X.A) (hk : k + 1 ≤ j) (ha : PA X (e :: es) ta) (hg : Gl X x := by rfl)
    (hdb : (x == ("__debug__" : Str)) = false := by decide) (he : starEach (e :: es) X.env = (false, eval e X.env) :: starEach es X.env := by rfl) (hpl : (backTo pos (starEach es X.env)).any (·.1) = false := by rfl) :
    PMk X (.Call (.Name x p) (e :: es) [] pos) (tMkO (He.ga X.K x) sp [] ta) := by
  obtain ⟨fd, T, iC, tI, F, m, b⟩ := c.ex
  exact pmk_oex T iC tI F (hr.mono hk) b .nil passL hg m ha hdb he hpl
def rMkO (C : Addr) (sp : Sp) (vs : List V) (H1 : Hp) (E : XK) : Prop := vs.length ≤ 1000 ∧ ∀ a, H1 a = none → sp (.ref a :: (vs ++ [])) (upd H1 a (exo a C none))
  (fun v H2 => v = .non ∧ ∃ (d : Addr) (fs : List (Str × V)), H2 a = some (exo a C (some d)) ∧ H2 d = some (exd d fs) ∧ H1 d = none ∧ E (.ref C) (some d) (upd (del H2 a) d (.xd fs))) (fun _ _ _ => False)
theorem k_mk0 {C : Addr} {sp : Sp} {ta : TA} {σ : L2.St} {H : Hp} {E : XK} (q : ta σ H fun vs H1 => rMkO C sp vs H1 E) : tMkO C sp [] ta σ H E := q
theorem k_mkx {C : Addr} {f : Str} {v : V} {H1 : Hp} {E : XK} (k : ∀ d H2, H1 d = none → Same H1 H2 → H2 d = some (.xd [(f, v)]) → E (.ref C) (some d) H2) : rMkO C (spXI C f) [v] H1 E :=
  ⟨by simp, fun a ha => ⟨a, v, rfl, upd_same, fun d hd hda => ⟨rfl, d, [(f, v)], upd_same, by rw [upd_ne hda, upd_same], by rw [upd_ne hda] at hd; exact hd, by
      have hd1 : H1 d = none := by rw [upd_ne hda] at hd; exact hd
      have e : upd (del (upd (upd (upd H1 a (exo a C none)) d (exd d [(f, v)])) a (exo a C (some d))) a) d (.xd [(f, v)]) = upd H1 d (.xd [(f, v)]) := by
        funext b
        by_cases h1 : b = d
        · rw [h1, upd_same, upd_same]
        · rw [upd_ne h1, upd_ne h1]
          by_cases h2 : b = a
          · rw [h2, del_same, ha]
          · rw [del_ne h2, upd_ne h2, upd_ne h1, upd_ne h2]
      rw [e]
      exact k d _ hd1 (same_new hd1) upd_same⟩⟩⟩
def rVeI (K : PySem.W.Frag) (vs : List V) (H1 : Hp) (Q : VK) : Prop := ∃ (a C : Addr) (ws : List V), vs = .ref a :: ws ∧ ws.length ≤ 1000 ∧ OexC K C ∧ H1 a = some (exo a C none) ∧ Q .non H1
theorem k_veI {K : PySem.W.Frag} {ta : TA} {σ : L2.St} {H : Hp} {Q : VK} (q : ta σ H fun vs H1 => rVeI K vs H1 Q) : tVeI K ta σ H Q := q
theorem k_veIx {K : PySem.W.Frag} {a C : Addr} {ws : List V} {H : Hp} {Q : VK} (T : OexC K C) (h : H a = some (exo a C none)) (q : Q .non H) (hl : ws.length ≤ 1000) : rVeI K (.ref a :: ws) H Q := ⟨a, C, ws, rfl, hl, T, h, q⟩
def rOst (K : PySem.W.Frag) (f : Str) (x y : V) (H2 : Hp) (Q : Hp → Prop) : Prop := ∃ a C : Addr, x = .ref a ∧ OexC K C ∧ PySem.W.findIn K (.ref C) f = some none ∧
  ((H2 a = some (exo a C none) ∧ ∀ dx, H2 dx = none → dx ≠ a → Q (upd (upd H2 dx (exd dx [(f, y)])) a (exo a C (some dx)))) ∨
    ∃ (dx : Addr) (fs : List (Str × V)), H2 a = some (exo a C (some dx)) ∧ H2 dx = some (exd dx fs) ∧ fs.length ≤ 900 ∧ Q (upd H2 dx (exd dx ((f, y) :: fs))))
theorem k_ost {K : PySem.W.Frag} {f : Str} {to te : TE} {D : Ends} {σ : L2.St} {H : Hp} (q : te σ H fun y H1 => to σ H1 fun x H2 => rOst K f x y H2 fun H3 => D.nx σ H3) : tOst K f to te D σ H := q
theorem k_ostx {K : PySem.W.Frag} {f : Str} {a C : Addr} {y : V} {H : Hp} {Q : Hp → Prop} (T : OexC K C) (hn : PySem.W.findIn K (.ref C) f = some none) (h : H a = some (exo a C none)) (q : ∀ d, H d = none → d ≠ a → Q (upd (upd H d (exd d [(f, y)])) a (exo a C (some d)))) : rOst K f (.ref a) y H Q := ⟨a, C, rfl, T, hn, .inl ⟨h, q⟩⟩
/-- a field of the error that a suite holds -/
def rXf (a : Addr) (cls : Value) (d : Option Addr) (C : Addr) (f : Str) (x : V) (H1 : Hp) (Q : VK) : Prop := x = .ref a ∧ cls = .ref C ∧ ∃ (dd : Addr) (fs : List (Str × V)) (v : V), d = some dd ∧ H1 dd = some (.xd fs) ∧ fs.lookup f = some v ∧ Q v H1
theorem k_xf {a C : Addr} {cls : Value} {d : Option Addr} {f : Str} {te : TE} {σ : L2.St} {H : Hp} {Q : VK} (q : te σ H fun x H1 => rXf a cls d C f x H1 Q) : tXf a cls d C f te σ H Q := q
theorem k_xfx {a C dd : Addr} {f : Str} {v : V} {H : Hp} {Q : VK} (h : H dd = some (.xd [(f, v)])) (q : Q v H) : rXf a (.ref C) (some dd) C f (.ref a) H Q := ⟨rfl, rfl, dd, _, v, rfl, h, by simp [List.lookup], q⟩
end
/-! ### classes -/
structure MCl (P : Program) (w : World) (K : PySem.W.Frag) (mg : Str → Option Value) (base : Heap) (k : Nat) (C m : Str) (ps : List Str) (sp : Sp) : Prop where
  ex : ∃ f fd, Cls K (He.ga K C) ∧ Meth K (He.ga K C) m f ∧ FnOk P w K mg base (L2.CX P w) k f fd ps sp ∧ Binds K fd ps []
structure KCl (P : Program) (w : World) (K : PySem.W.Frag) (mg : Str → Option Value) (base : Heap) (k : Nat) (C : Str) (ps : List Str) (sp : Sp) : Prop where
  ex : ∃ f fd, Mk K (He.ga K C) f ∧ FnOk P w K mg base (L2.CX P w) k f fd ps sp ∧ mg C = some (.ref (He.ga K C)) ∧ Binds K fd ps []
/-- a class's def, called through the class: C.m(self, ..) -/
structure SCl (P : Program) (w : World) (K : PySem.W.Frag) (mg : Str → Option Value) (base : Heap) (k : Nat) (C m : Str) (ps : List Str) (sp : Sp) : Prop where
  ex : ∃ f fd, ClX.CRead K (He.ga K C) (.type "type") ∧ PySem.W.findCls K (.ref (He.ga K C)) (.type "type") m = some (.val (.ref f)) ∧ PySem.W.keepIn K (.ref f) = true ∧ FnOk P w K mg base (L2.CX P w) k f fd ps sp ∧ mg C = some (.ref (He.ga K C)) ∧ Binds K fd ps []
def tMethS (C : Addr) (m : Str) (sp : Sp) (E : L2.St → XK) (ta : TE) (t : TA) : TE := fun σ H Q => ta σ H fun x H1 => ∃ a dx fs, x = .ref a ∧ H1 a = some (.ins C dx fs) ∧ fs.lookup m = none ∧ t σ H1 fun vs H2 => sp (x :: vs) H2 Q (E σ)
def tOr2 (t u : TE) : TE := fun σ H Q => t σ H Q ∨ u σ H Q
section
variable {X : Cx} {W : WX} {e o : Expr} {es : List Expr} {p pos apos : Pos} {ta : TE} {t : TA} {C m x : Str} {ps : List Str} {sp : Sp} {j k : Nat}
theorem pe_or2 {e : Expr} {t u : TE} (a : PE X e t) (b : PE X e u) : PE X e (tOr2 t u) := ⟨fun pins s σ H Q I h => h.elim (a.run pins s σ H Q I) (b.run pins s σ H Q I)⟩
theorem pmeth {pl : Sem Bool} {K : PySem.W.Frag} (hK : X.K = K) (c : MCl X.prog X.w K X.mg X.base k C m ps sp) (hr : Room j X.A) (hk : k ≤ j) (tk : Takes X W) (he : PE X o ta) (ha : PA X (e :: es) t)
    (hst : starEach (e :: es) X.env = (false, eval e X.env) :: starEach es X.env := by rfl) (hpl : (backTo pos (starEach es X.env)).any (·.1) = false := by rfl)
    (ht : eval (.Call (.Attribute o m apos) (e :: es) [] pos) X.env = (do
      let ov ← eval o X.env
      standAt apos.atName
      let (f, first) ← holding [ov] (getMethod ov m pl)
      callWith pos f first (backTo pos (starEach (e :: es) X.env)) (backToKw pos (keywordEach [] X.env))) := by rfl) :
    PE X (.Call (.Attribute o m apos) (e :: es) [] pos) (tMethS (He.ga K C) m sp (WE W) ta t) := by
  subst hK
  obtain ⟨f, fd, hc, hm, F, b⟩ := c.ex
  refine ⟨fun pins s σ H Q I h => ?_⟩
  refine PySem.W.methodCall_KW (pl := pl) (thn (he.run pins s σ H _ I h) fun u s1 ⟨x, H1, I1, rx, a, dx, fs, ex, ea, l, q⟩ => ?_) ht
  subst ex
  obtain rfl : u = Value.ref a := rx
  refine getmeth_ok I1 ea hc hm l ?_
  refine PySem.W.callWith_K (first := [.ref a]) (h₀ := X.base) I.ok.mod.kin hm.kp (thn (ha.run pos pins s1 σ H1 _ I1 q) fun us s2 ⟨vs, H2, I2, r, q2⟩ => ⟨I2.kIn, ?_⟩) hst hpl
  exact run_fnS (us := .ref a :: us) (vs := .ref a :: vs) (E := WE W) F (hr.mono hk) b (passAt tk σ) I2 (.cons rfl r) q2
theorem pmeth0 {pl : Sem Bool} {K : PySem.W.Frag} (hK : X.K = K) (c : MCl X.prog X.w K X.mg X.base k C m ps sp) (hr : Room j X.A) (hk : k ≤ j) (tk : Takes X W) (he : PE X o ta)
    (ht : eval (.Call (.Attribute o m apos) [] [] pos) X.env = (do
      let ov ← eval o X.env
      standAt apos.atName
      let (f, first) ← holding [ov] (getMethod ov m pl)
      callWith pos f first (backTo pos (starEach [] X.env)) (backToKw pos (keywordEach [] X.env))) := by rfl) :
    PE X (.Call (.Attribute o m apos) [] [] pos) (tMethS (He.ga K C) m sp (WE W) ta tNil) := by
  subst hK
  obtain ⟨f, fd, hc, hm, F, b⟩ := c.ex
  refine ⟨fun pins s σ H Q I h => ?_⟩
  refine PySem.W.methodCall_KW (pl := pl) (thn (he.run pins s σ H _ I h) fun u s1 ⟨x, H1, I1, rx, a, dx, fs, ex, ea, l, q⟩ => ?_) ht
  subst ex
  obtain rfl : u = Value.ref a := rx
  refine getmeth_ok I1 ea hc hm l ?_
  exact PySem.W.callWith_K0 (first := [.ref a]) I1.kIn hm.kp (run_fnS (us := [.ref a]) (vs := [.ref a]) (E := WE W) F (hr.mono hk) b (passAt tk σ) I1 (.cons rfl .nil) q)
/-- where nothing may be raised -/
theorem pmethN {pl : Sem Bool} {K : PySem.W.Frag} (hK : X.K = K) (c : MCl X.prog X.w K X.mg X.base k C m ps sp) (hr : Room j X.A) (hk : k ≤ j) (he : PE X o ta) (ha : PA X (e :: es) t)
    (hst : starEach (e :: es) X.env = (false, eval e X.env) :: starEach es X.env := by rfl) (hpl : (backTo pos (starEach es X.env)).any (·.1) = false := by rfl)
    (ht : eval (.Call (.Attribute o m apos) (e :: es) [] pos) X.env = (do
      let ov ← eval o X.env
      standAt apos.atName
      let (f, first) ← holding [ov] (getMethod ov m pl)
      callWith pos f first (backTo pos (starEach (e :: es) X.env)) (backToKw pos (keywordEach [] X.env))) := by rfl) :
    PE X (.Call (.Attribute o m apos) (e :: es) [] pos) (tMethS (He.ga K C) m sp (fun _ => E0) ta t) := by
  subst hK
  obtain ⟨f, fd, hc, hm, F, b⟩ := c.ex
  refine ⟨fun pins s σ H Q I h => (pe_meth (pl := pl) he hc hm F (hr.mono hk) b .nil passL ha hst hpl ht).run pins s σ H Q I ?_⟩
  simp only [tMeth, List.append_nil]
  exact h
theorem pmethN0 {pl : Sem Bool} {K : PySem.W.Frag} (hK : X.K = K) (c : MCl X.prog X.w K X.mg X.base k C m ps sp) (hr : Room j X.A) (hk : k ≤ j) (he : PE X o ta)
    (ht : eval (.Call (.Attribute o m apos) [] [] pos) X.env = (do
      let ov ← eval o X.env
      standAt apos.atName
      let (f, first) ← holding [ov] (getMethod ov m pl)
      callWith pos f first (backTo pos (starEach [] X.env)) (backToKw pos (keywordEach [] X.env))) := by rfl) :
    PE X (.Call (.Attribute o m apos) [] [] pos) (tMethS (He.ga K C) m sp (fun _ => E0) ta tNil) := by
  subst hK
  obtain ⟨f, fd, hc, hm, F, b⟩ := c.ex
  refine ⟨fun pins s σ H Q I h => (pe_meth0 (pl := pl) he hc hm F (hr.mono hk) b .nil passL ht).run pins s σ H Q I ?_⟩
  simp only [tMeth, List.append_nil]
  exact h
theorem pmake {K : PySem.W.Frag} (hK : X.K = K) (c : KCl X.prog X.w K X.mg X.base k C ps sp) (hr : Room j X.A) (hk : k + 1 ≤ j) (ha : PA X (e :: es) t) (hg : Gl X C := by rfl)
    (hdb : (C == ("__debug__" : Str)) = false := by decide) (he : starEach (e :: es) X.env = (false, eval e X.env) :: starEach es X.env := by rfl) (hpl : (backTo pos (starEach es X.env)).any (·.1) = false := by rfl) :
    PE X (.Call (.Name C p) (e :: es) [] pos) (tMake (He.ga K C) sp [] E0 t) := by
  subst hK
  obtain ⟨f, fd, M, F, hm, b⟩ := c.ex
  exact pe_make M F (hr.mono hk) hg hm b .nil passL ha hdb he hpl
/-- C.m(self, ..) -/
theorem psup {pl : Sem Bool} (c : SCl X.prog X.w X.K X.mg X.base k C m ps sp) (hr : Room j X.A) (hk : k ≤ j) (ha : PA X (e :: es) t) (hg : Gl X C := by rfl)
    (hc : eval (.Call (.Attribute (.Name C p) m apos) (e :: es) [] pos) X.env = (do
      let ov ← eval (.Name C p) X.env
      standAt apos.atName
      let (f, first) ← holding [ov] (getMethod ov m pl)
      callWith pos f first (backTo pos (starEach (e :: es) X.env)) (backToKw pos (keywordEach [] X.env))) := by rfl)
    (he : starEach (e :: es) X.env = (false, eval e X.env) :: starEach es X.env := by rfl) (hpl : (backTo pos (starEach es X.env)).any (·.1) = false := by rfl) (hdb : (C == ("__debug__" : Str)) = false := by decide) :
    PE X (.Call (.Attribute (.Name C p) m apos) (e :: es) [] pos) (tCall sp [] E0 t) := by
  obtain ⟨f, fd, cr, ca, kp, F, hm, b⟩ := c.ex
  refine ⟨fun pins s σ H Q I h => ?_⟩
  refine PySem.W.methodCall_KW (ld_glob I hg hm ?_ hdb) hc
  refine PySem.W.method_cls I.kIn cr.ga (PySem.W.cls_value I.kIn cr.rd ca rfl ?_)
  refine PySem.W.callWith_K (first := []) (h₀ := X.base) I.ok.mod.kin kp (thn (ha.run pos pins _ σ H _ (I.tok _) h) fun us s2 ⟨vs, H2, I2, r, q2⟩ => ⟨I2.kIn, ?_⟩) he hpl
  exact run_fn F (hr.mono hk) b .nil passL I2 r q2
/-- C(), C without an __init__ -/
structure MbC (K : PySem.W.Frag) (mg : Str → Option Value) (C : Str) : Prop where
  mks : PySem.W.makesIn K (He.ga K C) = true
  ini : PySem.W.findIn K (.ref (He.ga K C)) "__init__" = some (some (.builtin "object.__init__"))
  kp : PySem.W.keepIn K (.ref (He.ga K C)) = true
  ob : PySem.W.mroIn K (He.ga K C) (.type "object") = some true
def mbB (K : PySem.W.Frag) (C : Str) : Bool := PySem.W.makesIn K (He.ga K C) && (He.eqO (PySem.W.findIn K (.ref (He.ga K C)) "__init__") (some (some (.builtin "object.__init__"))) && (PySem.W.keepIn K (.ref (He.ga K C)) && decide (PySem.W.mroIn K (He.ga K C) (.type "object") = some true)))
theorem mbB_ok {K : PySem.W.Frag} {mg : Str → Option Value} {C : Str} (h : mbB K C = true) : MbC K mg C := by
  obtain ⟨h1, h⟩ := He.ba h
  obtain ⟨h2, h⟩ := He.ba h
  obtain ⟨h3, h4⟩ := He.ba h
  exact ⟨h1, He.eqO_ok h2, h3, of_decide_eq_true h4⟩
def tMakeB (C : Addr) : TE := fun _ H Q => ∀ x dx, H x = none → H dx = none → dx ≠ x → Q (.ref x) (upd (upd H dx (.own x)) x (.ins C dx []))
theorem pmakeB {K : PySem.W.Frag} (hK : X.K = K) (c : MbC K X.mg C) (hm : X.mg C = some (.ref (He.ga K C))) (hg : Gl X C := by rfl) (hdb : (C == ("__debug__" : Str)) = false := by decide) : PE X (.Call (.Name C p) [] [] pos) (tMakeB (He.ga K C)) := by
  subst hK
  refine ⟨fun pins s σ H Q I h => ?_⟩
  refine wpAny_Call_Name_kw (ld_glob I hg hm ?_ hdb)
  refine PySem.W.callWith_K0 I.kIn c.kp ?_
  have q := h (s.heap.objs.size + 1) s.heap.objs.size (I.hok.fresh (Nat.le_succ _)) (I.hok.fresh (Nat.le_refl _)) (Nat.ne_of_lt (Nat.lt_succ_self _))
  have I2 := Inv.made (C := He.ga X.K C) I
  refine wpAny_call (make_map0 I.kIn c.mks c.ini (fun self => PySem.W.Looks.of_pure (PySem.W.oi_bind self)) ?_)
  have hx : ((s.heap.push PySem.W.emptyDict).push (PySem.W.instObj (He.ga X.K C) s.heap.objs.size)).get? (s.heap.objs.size + 1) = some (PySem.W.instObj (He.ga X.K C) s.heap.objs.size) := by
    have := Heap.get?_push_size (s.heap.push PySem.W.emptyDict) (o := PySem.W.instObj (He.ga X.K C) s.heap.objs.size) rfl
    rwa [Heap.size_push] at this
  have t1 : PySem.W.Looks (model X.prog X.w) ((s.heap.push PySem.W.emptyDict).push (PySem.W.instObj (He.ga X.K C) s.heap.objs.size)) (typeOf (.ref (s.heap.objs.size + 1))) (.ref (He.ga X.K C)) := (PySem.W.Looks.ld hx).andThen .now
  have t2 : PySem.W.Looks (model X.prog X.w) ((s.heap.push PySem.W.emptyDict).push (PySem.W.instObj (He.ga X.K C) s.heap.objs.size)) (isInstance (.ref (s.heap.objs.size + 1)) (.type "object")) true := t1.andThen (PySem.W.looks_mroIn (M := model X.prog X.w) I2.kIn c.ob)
  refine codeAny_call_builtin PySem.W.oi_plain PySem.W.entry_oi (@PySem.W.check_slot (model X.prog X.w) _ _ _ "object.__init__" "object" "__init__" (.ref (s.heap.objs.size + 1)) [] [] _ PySem.W.oi_kind PySem.W.oi_split t2 (PySem.W.oi_args (.ref (s.heap.objs.size + 1))) ?_)
  rw [PySem.W.oi_run]
  exact wpAny_pure (And.intro rfl ⟨V.ref (s.heap.objs.size + 1), _, I2, rfl, q⟩)
end
section
variable {σ : L2.St} {H : Hp} {Q : VK} {ta tv : TE} {K : PySem.W.Frag} {a C dx : Addr} {fs : List (Str × V)} {f m : Str} {v : V} {sp : Sp} {t : TA} {D : Ends} {E : XK}
def rFld (K : PySem.W.Frag) (f : Str) (x : V) (H1 : Hp) (Q : VK) : Prop := ∃ a C dx fs v, x = .ref a ∧ H1 a = some (.ins C dx fs) ∧ Cls K C ∧ NoAttr K C f ∧ fs.lookup f = some v ∧ Q v H1
theorem k_fld (q : ta σ H fun x H1 => rFld K f x H1 Q) : tFld K ta f σ H Q := q
theorem k_fldx (h : H a = some (.ins C dx fs)) (c : Cls K C) (n : NoAttr K C f) (l : fs.lookup f = some v) (q : Q v H) : rFld K f (.ref a) H Q := ⟨a, C, dx, fs, v, rfl, h, c, n, l, q⟩
def rSFld (K : PySem.W.Frag) (f : Str) (x y : V) (H2 : Hp) (Q : Hp → Prop) : Prop := ∃ a C dx fs, x = .ref a ∧ H2 a = some (.ins C dx fs) ∧ Cls K C ∧ NoAttr K C f ∧ fs.length < 1000 ∧ Q (upd H2 a (.ins C dx (putF f y fs)))
theorem k_sfld (q : tv σ H fun y H1 => ta σ H1 fun x H2 => rSFld K f x y H2 fun H3 => D.nx σ H3) : sFld K ta tv f D σ H := q
theorem k_sfldx {y : V} {Q : Hp → Prop} (h : H a = some (.ins C dx fs)) (c : Cls K C) (n : NoAttr K C f) (q : ∀ H', But a H H' → H' a = some (.ins C dx (putF f y fs)) → Q H') (l : fs.length < 1000) : rSFld K f (.ref a) y H Q := ⟨a, C, dx, fs, rfl, h, c, n, l, q _ But.upd upd_same⟩
def rMeth (C : Addr) (m : Str) (x : V) (H1 : Hp) (P : Prop) : Prop := ∃ a dx fs, x = .ref a ∧ H1 a = some (.ins C dx fs) ∧ fs.lookup m = none ∧ P
theorem k_meth {E : L2.St → XK} (q : ta σ H fun x H1 => rMeth C m x H1 (t σ H1 fun vs H2 => sp (x :: vs) H2 Q (E σ))) : tMethS C m sp E ta t σ H Q := q
theorem k_methx {P : Prop} (h : H a = some (.ins C dx fs)) (l : fs.lookup m = none) (q : P) : rMeth C m (.ref a) H P := ⟨a, dx, fs, rfl, h, l, q⟩
theorem k_o1 {t u : TE} (q : t σ H Q) : tOr2 t u σ H Q := .inl q
theorem k_o2 {t u : TE} (q : u σ H Q) : tOr2 t u σ H Q := .inr q
def rMake (C : Addr) (sp : Sp) (vs : List V) (H1 : Hp) (Q : VK) (E : XK) : Prop := ∀ x dx, H1 x = none → H1 dx = none → dx ≠ x → sp (.ref x :: vs) (upd (upd H1 dx (.own x)) x (.ins C dx [])) (fun v H2 => v = .non ∧ Q (.ref x) H2) E
theorem k_make (q : t σ H fun vs H1 => rMake C sp vs H1 Q E) : tMake C sp [] E t σ H Q := by
  unfold tMake
  simp only [List.append_nil]
  exact q
theorem k_makex {vs : List V} (q : ∀ x dx H2, H x = none → H dx = none → Same H H2 → H2 x = some (.ins C dx []) → H2 dx = some (.own x) → sp (.ref x :: vs) H2 (fun v H3 => v = .non ∧ Q (.ref x) H3) E) : rMake C sp vs H Q E := fun x dx hx hd ne =>
  q x dx _ hx hd ((same_new hd).trans (same_new (by rw [upd_ne (Ne.symm ne)]; exact hx))) upd_same (by rw [upd_ne ne, upd_same])
def rMakeB (C : Addr) (H : Hp) (Q : VK) : Prop := ∀ x dx, H x = none → H dx = none → dx ≠ x → Q (.ref x) (upd (upd H dx (.own x)) x (.ins C dx []))
theorem k_makeB (q : rMakeB C H Q) : tMakeB C σ H Q := q
theorem k_makeBx (q : ∀ x dx H2, H x = none → Same H H2 → H2 x = some (.ins C dx []) → Q (.ref x) H2) : rMakeB C H Q := fun x dx hx hd ne =>
  q x dx _ hx ((same_new hd).trans (same_new (by rw [upd_ne (Ne.symm ne)]; exact hx))) upd_same
end
/-! fields by name -/
section
variable {f g : Str} {u v : V} {r : List (Str × V)}
theorem lk1 : List.lookup f ((f, v) :: r) = some v := by simp [List.lookup]
theorem lkn (h : (f == g) = false) (k : List.lookup f r = some v) : List.lookup f ((g, u) :: r) = some v := by
  show (match f == g with | true => some u | false => List.lookup f r) = _
  rw [h]
  exact k
theorem lk0 : List.lookup f ([] : List (Str × V)) = none := rfl
theorem lkz (h : (f == g) = false) (k : List.lookup f r = none) : List.lookup f ((g, u) :: r) = none := by
  show (match f == g with | true => some u | false => List.lookup f r) = _
  rw [h]
  exact k
theorem pfl0 : ([] : List (Str × V)).length < 1 := by decide
theorem pfl : ∀ {r : List (Str × V)} {n : Nat}, r.length < n → (putF f v r).length < n + 1
  | [], n, h => by show 1 < n + 1; simp at h; omega
  | (g, u) :: r, n, h => by
    show (if g = f then (g, v) :: r else (g, u) :: putF f v r).length < n + 1
    cases n with
    | zero => simp at h
    | succ n =>
      split
      · simp at h ⊢; omega
      · have := pfl (r := r) (n := n) (by simpa using h)
        simp only [List.length_cons]
        omega
theorem pf0 : putF f v [] = [(f, v)] := rfl
theorem pf1 : putF f v ((f, u) :: r) = (f, v) :: r := if_pos rfl
theorem pfn (h : g ≠ f) : putF f v ((g, u) :: r) = (g, u) :: putF f v r := if_neg h
end
/-- what a class says, read through -/
def supmB (K : PySem.W.Frag) (C m : Str) : Bool := PySem.W.readsIn K (He.ga K C) (.type "type") && (He.eqO (PySem.W.specialIn K (.ref (He.ga K C)) "__getattribute__") (some (some (.builtin "type.__getattribute__"))) && (PySem.W.keepIn K (.ref (He.ma K (He.ga K C) m)) && (match PySem.W.findCls K (.ref (He.ga K C)) (.type "type") m with
  | some (.val (.ref f)) => f == He.ma K (He.ga K C) m
  | _ => false)))
theorem supmB_ok {K : PySem.W.Frag} {C m : Str} (h : supmB K C m = true) : ClX.CRead K (He.ga K C) (.type "type") ∧ PySem.W.findCls K (.ref (He.ga K C)) (.type "type") m = some (.val (.ref (He.ma K (He.ga K C) m))) ∧ PySem.W.keepIn K (.ref (He.ma K (He.ga K C) m)) = true := by
  obtain ⟨h1, h⟩ := He.ba h
  obtain ⟨h2, h⟩ := He.ba h
  obtain ⟨h3, h4⟩ := He.ba h
  refine ⟨⟨h1, He.eqO_ok h2⟩, ?_, h3⟩
  split at h4
  · rename_i f e
    rw [e, beq_iff_eq.mp h4]
  · cases h4
/-! ### operators, joined -/
section
variable {X : Cx}
/-! a given list + a list -/
section
theorem addL_any (l : Addr) (xs : Array Value) (n : Nat) (dd : Option Addr) (sl : Array (Option Value)) (b : Addr) (ys : Array Value) (m : Nat) (de : Option Addr) (sk : Array (Option Value)) (hz : xs.size + ys.size ≤ sizeLine) :
    Meets (Builtin.«list.__add__» ⟨[.ref l, .ref b], []⟩) (fun _ R s => s.heap.get? l = some ⟨.type "list", dd, .seq xs n, sl⟩ ∧ s.heap.get? b = some ⟨.type "list", de, .seq ys m, sk⟩ ∧ R (.ok (.ret (Value.ref s.heap.objs.size))) { s with heap := s.heap.push ⟨Value.type "list", none, Data.seq (xs ++ ys) 0, #[]⟩, toks := s.toks }) :=
  .of_wp fun prog w A R st z => by
    obtain ⟨h0, g0, d0, t0, o0⟩ := st
    obtain ⟨z1, z2, z3⟩ := z
    have t1 := AutoSeq1.idx_int; have t2 := AutoSeq1.sub_tuple_tuple; have t3 := AutoSeq1.sub_list_list; have t4 := AutoSeq1.sub_tuple_list; have t5 := AutoSeq1.sub_list_tuple
    wp_walk using AutoSeq1.wpAny_loadPart' z1, AutoSeq1.wpAny_loadPart' z2
    exact ⟨_, rfl, z3⟩
def rCatL (K : PySem.W.Frag) : R2 := fun x y H Q => ∃ l b xs zs, x = .ref l ∧ y = .ref b ∧ SqL K H l xs ∧ SqL K H b zs ∧ xs.length + zs.length ≤ sizeLine ∧ ∀ p, H p = none → Q (.ref p) (upd H p (.lst (xs ++ zs)))
theorem op_catL {X : Cx} : OpR X (binaryOp .Add) (rCatL X.K) := by
  rintro pins s σ H x y v u Q I rx ry ⟨l, b, xs, zs, rfl, rfl, hx, hy, hz, q⟩
  cases rx
  cases ry
  obtain ⟨as, r1, ⟨o1, n1, e1, c1, d1, k1⟩, z1⟩ := I.list hx
  obtain ⟨bs, r2, ⟨o2, n2, e2, c2, d2, k2⟩, z2⟩ := I.list hy
  obtain ⟨oc1, od1, ot1, os1⟩ := o1
  obtain ⟨oc2, od2, ot2, os2⟩ := o2
  simp only at c1 c2 k1 k2
  subst c1 c2 k1 k2
  have l1 := r1.length
  have l2 := r2.length
  refine PySem.concat_meets ⟨_, e1, rfl⟩ ⟨_, e2, rfl⟩ PySem.noFill_list_add PySem.seq_list_add PySem.F.slot_list_add PySem.F.entry_list_add (PySem.F.args_list_add_2 _ _) (addL_any l as.toArray n1 od1 os1 b bs.toArray n2 od2 os2 (by simp only [List.size_toArray]; omega)) ⟨e1, e2, ?_⟩
  have ea : as.toArray ++ bs.toArray = (as ++ bs).toArray := by simp
  rw [ea]
  exact ⟨.ref _, _, I.lnew (t' := s.toks) (r1.append r2) (by rw [List.length_append]; omega), rfl, q _ I.fresh⟩
end
def rAddU (K : PySem.W.Frag) : R2 := fun x y H Q => (∃ i j, x = .int i ∧ y = .int j ∧ Q (.int (i + j)) H) ∨ (∃ i j, x = .str i ∧ y = .str j ∧ i.length + j.length ≤ sizeLine ∧ Q (.str (i ++ j)) H) ∨ rCat x y H Q ∨ rCatA K x y H Q ∨ rCatL K x y H Q
theorem op_addU : OpR X (binaryOp .Add) (rAddU X.K) := op_add.or (op_add_str.or (op_cat.or (op_catA.or op_catL)))
theorem tuple_mul1 (l : Addr) (items : Array Value) (n : Nat) (dd : Option Addr) (sl : Array (Option Value)) (u : Tok) :
    Meets (Builtin.«tuple.__mul__» ⟨[.ref l, .int 1 u], []⟩) (fun _ R s => s.heap.get? l = some { cls := .type "tuple", dict := dd, data := .seq items n, slots := sl } ∧ R (.ok (.ret (Value.ref l))) s) :=
  .of_wp fun prog w A R s h => by
    obtain ⟨hp, g, d, tk, os⟩ := s
    obtain ⟨hl, h⟩ := h
    have f1 := AutoSeq1.idx_int
    have c0 : (decide ((1 : Int) < -(2 ^ 63)) || decide ((1 : Int) ≥ 2 ^ 63)) = false := by decide
    have c1 : (items.isEmpty || (1 : Int) == 1) = true := by simp
    wp_walk using wpAny_loadPart' hl
    repeat (first
      | (refine wpAny_ite_false (decide_eq_false (by rw [c0]; exact Bool.false_ne_true)) ?_; wp_walk using wpAny_loadPart' hl)
      | (refine wpAny_ite_true (decide_eq_true c1) ?_; wp_walk using wpAny_loadPart' hl))
    exact ⟨_, rfl, h⟩
def rRep1 (K : PySem.W.Frag) : R2 := fun x y H Q => ∃ l xs, x = .ref l ∧ y = .int 1 ∧ SqT K H l xs ∧ Q (.ref l) H
theorem op_rep1 {X : Cx} : OpR X (binaryOp .Mult) (rRep1 X.K) := by
  intro pins s σ H x y v u Q I rx ry h
  obtain ⟨l, xs, rfl, rfl, hT, q⟩ := h
  cases rx
  obtain ⟨t, rfl⟩ := ry
  obtain ⟨its, r, ⟨⟨cls, dd, data, sl⟩, ho, hc, n, hd⟩, hs⟩ := I.tuple hT
  simp only at hc hd
  subst hc hd
  refine wpAny_binaryOp_repeat_ref (T := "tuple") (U := "int") (by decide) ⟨_, ho, rfl⟩ (fun s' => typeIs_int s' 1 t) noFill_tuple_mul F.fills_int_mul F.slot_int_rmul repeat_tuple F.slot_int_index.lookup
    (call_meets F.slot_int_rmul (typeIs_int s 1 t) F.entry_int_rmul (F.args_int_rmul_2 _ _) (int_rmul_tuple 1 t l its.toArray n dd sl)
      ⟨ho, rfl, ⟨_, ho, rfl⟩, call_meets F.slot_tuple_mul ⟨_, ho, rfl⟩ F.entry_tuple_mul (F.args_tuple_mul_2 _ _) (tuple_mul1 l its.toArray n dd sl t) ⟨ho, ?_⟩⟩)
  exact ⟨.ref l, H, I, rfl, q⟩
/-! a letter, repeated -/
def rMulC : R2 := fun x y H Q => ∃ (c n : Nat), x = .str (SX.S [c]) ∧ y = .int (n : Int) ∧ 1 ≤ n ∧ n ≤ 1000 ∧ Q (.str (SX.S (List.replicate n c))) H
theorem fold_rep (c : Nat) : ∀ (n : Nat) (l : List Nat), ((List.replicate n (#[c] : Array Nat)).foldl (· ++ ·) l.toArray) = (l ++ List.replicate n c).toArray := fun n => by
  induction n with
  | zero => intro l; simp
  | succ n ih =>
    intro l
    rw [List.replicate_succ, List.foldl_cons, show l.toArray ++ (#[c] : Array Nat) = (l ++ [c]).toArray by simp, ih, List.replicate_succ, List.append_assoc]
    rfl
theorem op_mulC {X : Cx} : OpR X (binaryOp .Mult) rMulC := by
  rintro pins s σ H x y v u Q I rx ry ⟨c, n, rfl, rfl, n0, n1, q⟩
  obtain ⟨t, rfl⟩ := rx
  obtain ⟨k, rfl⟩ := ry
  refine P.mul_str ?_ ?_ ?_ ?_
  · rw [decide_eq_false (by omega), decide_eq_false (by omega)]; rfl
  · intro _ _ h
    rw [SX.S_len] at h
    have h2 : (1 : Int) ≤ (2 ^ 63 - 1) / (n : Int) := (Int.le_ediv_iff_mul_le (by omega)).mpr (by omega)
    generalize ((2 : Int) ^ 63 - 1) / (n : Int) = d at h h2
    simp at h
    omega
  · intro _ _
    rw [SX.S_len]
    show PySem.Builtin.Str.tooLong (1 * n) = false
    unfold PySem.Builtin.Str.tooLong
    simp [sizeLine_eq]
    omega
  · rw [if_neg (by omega)]
    by_cases e : n = 1
    · subst e
      rw [if_pos (by rfl)]
      exact ⟨.str _, H, I, ⟨_, rfl⟩, q⟩
    · rw [if_neg (by
        rw [SX.S_len]
        simp
        omega)]
      have ee : (⟨(List.replicate ((n : Int)).toNat (SX.S [c]).cps).foldl (· ++ ·) #[]⟩ : Str) = SX.S (List.replicate n c) := by
        have := fold_rep c n []
        show (⟨_⟩ : Str) = ⟨_⟩
        exact congrArg Str.mk (by simpa using this)
      rw [ee]
      exact ⟨by simp [SX.S_len, sizeLine_eq]; try omega, .str _, H, I.tok _, ⟨_, rfl⟩, q⟩
/-- a short text, repeated -/
def rMulS : R2 := fun x y H Q => ∃ (z : Str) (i : Int), x = .str z ∧ y = .int i ∧ z.length ≤ 16 ∧ 0 ≤ i ∧ i ≤ 1048576 ∧ ∀ u : Str, (u.length : Int) = z.length * i → Q (.str u) H
theorem op_mulS : OpR X (binaryOp .Mult) rMulS := by
  rintro pins s σ H x y v u Q I rx ry ⟨z, i, rfl, rfl, hz, h0, h1, q⟩
  obtain ⟨t, rfl⟩ := rx
  obtain ⟨k, rfl⟩ := ry
  exact PySem.W.KXi.mul rfl hz (by omega) h1 fun t' m _ hl => ⟨.str _, H, I.tok _, ⟨_, rfl⟩, q _ (hl h0)⟩
def rMulU (K : PySem.W.Frag) : R2 := fun x y H Q => (∃ i j, x = .int i ∧ y = .int j ∧ CMulX i j ∧ Q (.int (i * j)) H) ∨ rRep x y H Q ∨ rRepT K x y H Q ∨ rMulS x y H Q ∨ rRep1 K x y H Q ∨ rMulC x y H Q
theorem op_mulU : OpR X (binaryOp .Mult) (rMulU X.K) := op_mulX.or (op_rep.or (op_repT.or (op_mulS.or (op_rep1.or op_mulC))))
/-- lists that are not as long -/
def rEqL (K : PySem.W.Frag) : R2 := fun x y H Q => ∃ a b xs ys, x = .ref a ∧ y = .ref b ∧ SqL K H a xs ∧ SqL K H b ys ∧ xs.length ≠ ys.length ∧ Q (.bl false) H
theorem op_eqL {X : Cx} (hu : X.A.units < cLine) : OpR X (compareOp .Eq) (rEqL X.K) := by
  rintro pins s σ H x y v u Q I rx ry ⟨a, b, xs, ys, rfl, rfl, hx, hy, ne, q⟩
  cases rx
  cases ry
  obtain ⟨us, ru, pu, _⟩ := I.list hx
  obtain ⟨vs, rv, pv, _⟩ := I.list hy
  refine PySem.SeqAt.eq_list_lengthsAt pu.isList pv.isList ?_ hu ⟨.bl false, H, I, rfl, q⟩
  have h1 := ru.length
  have h2 := rv.length
  simp
  omega
def rEqU (K : PySem.W.Frag) : R2 := fun x y H Q => rEq x y H Q ∨ rEqD K x y H Q ∨ rEqL K x y H Q
def rNeL (K : PySem.W.Frag) : R2 := fun x y H Q => ∃ a b xs ys, x = .ref a ∧ y = .ref b ∧ SqL K H a xs ∧ SqL K H b ys ∧ xs.length ≠ ys.length ∧ Q (.bl true) H
theorem op_neL {X : Cx} (hu : X.A.units < cLine) : OpR X (compareOp .NotEq) (rNeL X.K) := by
  rintro pins s σ H x y v u Q I rx ry ⟨a, b, xs, ys, rfl, rfl, hx, hy, ne, q⟩
  cases rx
  cases ry
  obtain ⟨us, ru, pu, _⟩ := I.list hx
  obtain ⟨vs, rv, pv, _⟩ := I.list hy
  refine PySem.SeqAt.RcNeAt.lists_lengths pu.isList pv.isList ?_ hu X.prog X.w _ _ ⟨.bl true, H, I, rfl, q⟩
  have h1 := ru.length
  have h2 := rv.length
  simp
  omega
def rNeU (K : PySem.W.Frag) : R2 := fun x y H Q => rNe x y H Q ∨ rNeD K x y H Q ∨ rNeL K x y H Q
theorem op_eqU {k : Nat} (hr : Room k X.A) : OpR X (compareOp .Eq) (rEqU X.K) := op_eq.or ((op_eqD hr.units).or (op_eqL (by have := hr.units; omega)))
theorem op_neU {k : Nat} (hr : Room k X.A) : OpR X (compareOp .NotEq) (rNeU X.K) := op_ne.or ((op_neD hr.units).or (op_neL (by have := hr.units; omega)))
def CDivG (i j : Int) : Prop := j ≠ 0 ∧ Builtin.divisionGoesByPylong i j = false
theorem noPy_low {i j : Int} (h : j.natAbs < 2 ^ 9000) : Builtin.divisionGoesByPylong i j = false := PyProof.noPylong_of_log2 (PySem.Flt.log2_lt_of (by decide) h)
theorem noPy_mid {i j : Int} (h : i.natAbs < 2 ^ 13500) : Builtin.divisionGoesByPylong i j = false := by
  have e := PySem.Flt.log2_lt_of (by decide) h
  unfold Builtin.divisionGoesByPylong
  simp only [Bool.and_eq_false_iff, decide_eq_false_iff_not]
  by_cases c : j = 0
  · left; simp [c]
  · by_cases c2 : i = 0
    · right; simp [c2]
    · simp [c, c2]; omega
theorem op_fdivG : OpR X (binaryOp .FloorDiv) (rI CDivG fun i j => .int (i.fdiv j)) := opI fun i j _ _ _ _ _ hc q => floordiv_int hc.1 q (.inl hc.2)
end
/-- walking a list or a tuple -/
def rItU (K : PySem.W.Frag) (x : V) (H : Hp) (R : It → Hp → Prop) : Prop := ∃ a, x = .ref a ∧ (((∃ xs, SqL K H a xs) ∧ R (Itl K a) H) ∨ ((∃ xs, SqT K H a xs) ∧ R (Itt K a) H))
def iSeqU (K : PySem.W.Frag) (tl : TE) : TI := fun σ H R => tl σ H fun x H1 => rItU K x H1 R
theorem pi_seqU {X : Cx} {tg l : Expr} {tl : TE} (hl : PE X l tl) : PI X tg l (iSeqU X.K tl) :=
  ⟨fun pins s σ H R I h => thn (hl.run pins s σ H _ I h) fun v s1 z => by
    obtain ⟨x, H1, I1, r1, a, e, z⟩ := z
    cases e
    cases r1
    have fp : ∀ b ∈ [s1.heap.objs.size], FpOk X pins H1 b := fun b hb => by
      obtain rfl : b = s1.heap.objs.size := by simpa using hb
      exact I1.fpOk (Nat.le_refl _) (I1.hok.fresh (Nat.le_refl _))
    rcases z with ⟨⟨xs, hq⟩, q⟩ | ⟨⟨xs, hq⟩, q⟩
    · obtain ⟨its, _, pl, _⟩ := I1.list hq
      exact wpAny_pyIter_list pl.isList ⟨_, [s1.heap.objs.size], _, _, H1, rfl, I1.kept (t' := s1.toks) (fun b o w => Heap.get?_push_of_some _ w), turn_list a _, ⟨_, Heap.get?_push_size _ rfl, rfl, rfl⟩, fp, q⟩
    · obtain ⟨its, _, pt, _⟩ := I1.tuple hq
      exact wpAny_pyIter_tuple (show s1.heap.IsTuple a its.toArray from pt) ⟨_, [s1.heap.objs.size], _, _, H1, rfl, I1.kept (t' := s1.toks) (fun b o w => Heap.get?_push_of_some _ w), turn_tuple a _, ⟨_, Heap.get?_push_size _ rfl, rfl, rfl⟩, fp, q⟩⟩
/-- a tuple's type, a list's type -/
theorem pi_seqUK {X : Cx} {K : PySem.W.Frag} {tg l : Expr} {tl : TE} (h : X.K = K) (hl : PE X l tl) : PI X tg l (iSeqU K tl) := h ▸ pi_seqU hl
theorem ty_tup {K : PySem.W.Frag} {H : Hp} {p : Addr} {xs : List V} (h : SqT K H p xs) : TyX K H (.ref p) (.type "tuple") := by
  rcases h with (h | ⟨o, h⟩) | ⟨o, its, n, h, c, _⟩
  · exact .base (.tup h)
  · exact .fTuple h
  · exact .kTuple h c
theorem ty_lst {K : PySem.W.Frag} {H : Hp} {p : Addr} {xs : List V} (h : SqL K H p xs) : TyX K H (.ref p) (.type "list") := by
  rcases h with (h | ⟨o, h⟩) | ⟨o, its, n, h, c, _⟩
  · exact .base (.lst h)
  · exact .base (.frz h)
  · exact .kList h c
/-- isinstance(e, c), e the error that a suite holds, its class cls, its dict d -/
def rIsEU (K : PySem.W.Frag) (a : Addr) (cls : Value) (d : Option Addr) : List V → Hp → VK → Prop := fun xs H Q => ∃ D : Addr, cls = .ref D ∧ (d = none ∨ ∃ dd fs, d = some dd ∧ H dd = some (.xd fs)) ∧ ExcC K D ∧ rIsE K D a xs H Q
theorem call_isEU {X : Cx} {a : Addr} {cls : Value} {d : Option Addr} {oe : Obj} {pn : List (Addr × Obj)} (hz : Zc cls d oe) (hf : ∃ vs, oe.data = .fields vs) : CallR (X.suite a ((a, oe) :: pn)) (.builtin "isinstance") (rIsEU X.K a cls d) := by
  intro pins s σ H xs us Q I r h
  obtain ⟨D, rfl, hd, C, h⟩ := h
  rcases hd with rfl | ⟨dd, fs, rfl, hdd⟩
  · exact call_isE C hz hf pins s σ H xs us Q I r h
  · obtain ⟨c, cv, b, rfl, hcv, e, q⟩ := h
    cases r with
    | cons rx rr =>
      cases rr with
      | cons rt rr =>
        cases rr
        cases rx
        have ec := hcv _ rt
        subst ec
        obtain ⟨hget, _⟩ := I.pin (a, oe) (List.mem_append.mpr (.inl List.mem_cons_self))
        obtain ⟨vs, hv⟩ := hf
        have hx : ObjOk X.prog X.w H s.heap dd (.xd fs) := I.hok dd _ hdd
        obtain ⟨mA, hns, hr⟩ := hx
        obtain ⟨od, ho, hl⟩ := lookIn_ns hns
        have J : PySem.W.InstAt s.heap a oe D (some od) := ⟨hget, hz.1, by unfold PySem.W.notCls; rw [hv] <;> rfl, by rw [hz.2]; exact ho⟩
        exact PySem.W.kia_one (PySem.W.kitx_exc (by obtain ⟨cd, hc, _⟩ := PySem.W.any_some C.hd; rw [hc]; rfl) C.hg C.hk C.hs C.ha C.hn C.ht C.hm) I.kIn J e (fun z => nomatch z) fun tk => ⟨.bl b, H, I.kept (t' := tk) fun _ _ z => z, rfl, q⟩
theorem k_isE {K : PySem.W.Frag} {H : Hp} {Q : VK} {a D : Addr} {c : V} {cv : Value} {b : Bool} (C : ExcC K D) (hk : PySem.W.kitOne K (.ref D) cv = some b) (hc : ∀ u, RelV c u → u = cv) (q : Q (.bl b) H) : rIsEU K a (.ref D) none [.ref a, c] H Q := ⟨D, rfl, .inl rfl, C, c, cv, b, rfl, hc, hk, q⟩
theorem k_isED {K : PySem.W.Frag} {H : Hp} {Q : VK} {a D dd : Addr} {fs : List (Str × V)} {c : V} {cv : Value} {b : Bool} (h : H dd = some (.xd fs)) (C : ExcC K D) (hk : PySem.W.kitOne K (.ref D) cv = some b) (hc : ∀ u, RelV c u → u = cv) (q : Q (.bl b) H) : rIsEU K a (.ref D) (some dd) [.ref a, c] H Q := ⟨D, rfl, .inr ⟨dd, fs, rfl, h⟩, C, c, cv, b, rfl, hc, hk, q⟩
def excB (K : PySem.W.Frag) (x : Str) : Bool := He.eqO (PySem.W.findIn K (.ref (He.ga K x)) "__getattribute__") (some (some (.builtin "BaseException.__getattribute__"))) && (He.eqO (PySem.W.findIn K (.ref (He.ga K x)) "__getattr__") (some none) &&
  (decide (PySem.W.subIn K (.ref (He.ga K x)) (.type "BaseException") = some true) && (PySem.W.hasDictIn K (He.ga K x) && (He.eqO (PySem.W.findIn K (.ref (He.ga K x)) "__class__") (some (some (.builtin "object.__class__"))) &&
  (He.eqO (PySem.W.specialIn K (.builtin "object.__class__") "__get__") (some (some (.builtin "getset_descriptor.__get__"))) && (decide (PySem.W.takesIn K (.builtin "object.__class__") = some true) && decide (PySem.W.mroIn K (He.ga K x) (.type "object") = some true)))))))
theorem excB_ok {K : PySem.W.Frag} {x : Str} (h : excB K x = true) : ExcC K (He.ga K x) := by
  unfold excB at h
  obtain ⟨h1, h⟩ := He.ba h
  obtain ⟨h2, h⟩ := He.ba h
  obtain ⟨h3, h⟩ := He.ba h
  obtain ⟨h4, h⟩ := He.ba h
  obtain ⟨h5, h⟩ := He.ba h
  obtain ⟨h6, h⟩ := He.ba h
  obtain ⟨h7, h8⟩ := He.ba h
  exact ⟨He.eqO_ok h1, He.eqO_ok h2, of_decide_eq_true h3, h4, He.eqO_ok h5, He.eqO_ok h6, of_decide_eq_true h7, of_decide_eq_true h8⟩
def kitB2 (K : PySem.W.Frag) (x : Str) (c : Value) (b : Bool) : Bool := decide (PySem.W.kitOne K (.ref (He.ga K x)) c = some b)
theorem xat {K : PySem.W.Frag} {l : List (PySem.W.Frag → Bool)} (h : (l.all fun f => f K) = true) (i : Nat) {f : PySem.W.Frag → Bool} (e : l[i]? = some f) : f K = true := List.all_eq_true.mp h f (List.mem_of_getElem? e)
/-! ### readings, step by step -/
section
variable {σ : L2.St} {H : Hp} {Q : VK} {v : V} {ta tb tc te : TE} {tt tu : TT} {K : PySem.W.Frag} {i j : Nat}
theorem k_var (h : σ[i]? = some (some v)) (q : Q v H) : tVar i σ H Q := ⟨v, h, q⟩
theorem k_c (q : Q v H) : tC v σ H Q := q
theorem k_op {r : R2} (q : ta σ H fun x H1 => tb σ H1 fun y H2 => r x y H2 Q) : tOp r ta tb σ H Q := q
theorem k_un {r : V → Hp → VK → Prop} (q : ta σ H fun x H1 => r x H1 Q) : tUn r ta σ H Q := q
theorem k_neg {a : Int} (q : Q (.int (-a)) H) : rU (fun i => .int (-i)) (.int a) H Q := ⟨a, rfl, q⟩
theorem k_I0 {g : Int → Int → V} {a b : Int} (q : Q (g a b) H) : rI0 g (.int a) (.int b) H Q := ⟨a, b, rfl, rfl, q⟩
theorem k_I {C : Int → Int → Prop} {g : Int → Int → V} {a b : Int} (q : Q (g a b) H) (c : C a b) : rI C g (.int a) (.int b) H Q := ⟨a, b, rfl, rfl, c, q⟩
theorem k_addI {a b : Int} (q : Q (.int (a + b)) H) : rAddU K (.int a) (.int b) H Q := .inl ⟨a, b, rfl, rfl, q⟩
theorem k_addS {a b : Str} (q : Q (.str (a ++ b)) H) (c : a.length + b.length ≤ sizeLine) : rAddU K (.str a) (.str b) H Q := .inr (.inl ⟨a, b, rfl, rfl, c, q⟩)
theorem k_addL {a b : Addr} {xs ys : List V} (ha : H a = some (.lst xs)) (hb : H b = some (.lst ys)) (q : ∀ p H', H p = none → Same H H' → H' p = some (.lst (xs ++ ys)) → Q (.ref p) H') (c : xs.length + ys.length ≤ sizeLine) : rAddU K (.ref a) (.ref b) H Q :=
  .inr (.inr (.inl ⟨a, b, xs, ys, rfl, rfl, ha, hb, c, fun p hp => q p _ hp (same_new hp) upd_same⟩))
theorem k_addT {a b : Addr} {xs ys : List V} (ha : SqT K H a xs) (hb : SqT K H b ys) (hx : xs ≠ []) (hy : ys ≠ []) (q : ∀ p H', H p = none → Same H H' → H' p = some (.tup (xs ++ ys)) → Q (.ref p) H') (c : xs.length + ys.length ≤ sizeLine) : rAddU K (.ref a) (.ref b) H Q :=
  .inr (.inr (.inr (.inl ⟨a, b, xs, ys, rfl, rfl, ha, hb, c, fun e => absurd e hx, fun _ e => absurd e hy, fun _ _ p hp => q p _ hp (same_new hp) upd_same⟩)))
theorem k_mulI {a b : Int} (q : Q (.int (a * b)) H) (c : CMulX a b) : rMulU K (.int a) (.int b) H Q := .inl ⟨a, b, rfl, rfl, c, q⟩
theorem k_mulS {z : Str} {i : Int} (hz : z.length ≤ 16) (h0 : 0 ≤ i) (h1 : i ≤ 1048576) (q : ∀ u : Str, (u.length : Int) = z.length * i → Q (.str u) H) : rMulU K (.str z) (.int i) H Q := .inr (.inr (.inr (.inl ⟨z, i, rfl, rfl, hz, h0, h1, q⟩)))
theorem k_mulC {c n : Nat} (h1 : 1 ≤ n) (h2 : n ≤ 1000) (q : Q (.str (SX.S (List.replicate n c))) H) : rMulU K (.str (SX.S [c])) (.int (n : Int)) H Q := .inr (.inr (.inr (.inr (.inr ⟨c, n, rfl, rfl, h1, h2, q⟩))))
/-- a tuple of one, repeated -/
theorem k_mulRT {l : Addr} {y : V} {k : Nat} (h : SqT K H l [y]) (h1 : 1 ≤ k) (h2 : k ≤ 1000) (q : ∀ p H', Same H H' → SqT K H' p (List.replicate k y) → Q (.ref p) H') : rMulU K (.ref l) (.int (k : Int)) H Q := by
  by_cases e : k = 1
  · subst e
    exact .inr (.inr (.inr (.inr (.inl ⟨l, _, rfl, rfl, h, q l H (Same.refl H) h⟩))))
  · refine .inr (.inr (.inl ⟨l, _, _, rfl, rfl, h, by simp, by omega, by omega, by simp, fun p hp => q p _ (same_new hp) ?_⟩))
    have e2 : ∀ n : Nat, (List.replicate n [y]).flatten = List.replicate n y := fun n => by
      induction n with
      | zero => rfl
      | succ n ih => rw [List.replicate_succ, List.flatten_cons, ih, List.replicate_succ]; rfl
    rw [show ((k : Int)).toNat = k from rfl, e2]
    exact SqT.of upd_same
theorem k_eqS {x y : V} (h : scal x y = true) (q : Q (.bl (decide (x = y))) H) : rEqU K x y H Q := .inl ⟨h, q⟩
theorem k_neS {x y : V} (h : scal x y = true) (q : Q (.bl (!decide (x = y))) H) : rNeU K x y H Q := .inl ⟨h, q⟩
theorem dec_int {a b : Int} : decide (V.int a = V.int b) = decide (a = b) := by
  by_cases h : a = b
  · rw [h] <;> simp
  · rw [decide_eq_false h, decide_eq_false (fun e => h (V.int.inj e))]
theorem dec_str {a b : Str} : decide (V.str a = V.str b) = decide (a = b) := by
  by_cases h : a = b
  · rw [h] <;> simp
  · rw [decide_eq_false h, decide_eq_false (fun e => h (V.str.inj e))]
theorem dec_bl {a b : Bool} : decide (V.bl a = V.bl b) = decide (a = b) := by
  cases a <;> cases b <;> decide
theorem k_eqI {a b : Int} (q : Q (.bl (decide (a = b))) H) : rEqU K (.int a) (.int b) H Q := k_eqS rfl (by rw [dec_int]; exact q)
theorem k_neI {a b : Int} (q : Q (.bl (!decide (a = b))) H) : rNeU K (.int a) (.int b) H Q := k_neS rfl (by rw [dec_int]; exact q)
theorem k_eqT {a b : Str} (q : Q (.bl (decide (a = b))) H) : rEqU K (.str a) (.str b) H Q := k_eqS rfl (by rw [dec_str]; exact q)
theorem k_neT {a b : Str} (q : Q (.bl (!decide (a = b))) H) : rNeU K (.str a) (.str b) H Q := k_neS rfl (by rw [dec_str]; exact q)
theorem k_eqB {a b : Bool} (q : Q (.bl (decide (a = b))) H) : rEqU K (.bl a) (.bl b) H Q := k_eqS rfl (by rw [dec_bl]; exact q)
theorem k_neB {a b : Bool} (q : Q (.bl (!decide (a = b))) H) : rNeU K (.bl a) (.bl b) H Q := k_neS rfl (by rw [dec_bl]; exact q)
theorem k_eqD {x y : V} {d e : PyData} (hx : Dp K H x d) (hy : Dp K H y e) (q : Q (.bl (PyData.eqv d e)) H) (s1 : SeqAt.shaped d = true) (s2 : SeqAt.shaped e = true) : rEqU K x y H Q := .inr (.inl ⟨d, e, hx, hy, s1, s2, q⟩)
theorem k_eqNil {a b : Addr} {xs : List V} (hx : SqL K H a xs) (hb : H b = some (.lst [])) (q : Q (.bl xs.isEmpty) H) : rEqU K (.ref a) (.ref b) H Q := by
  cases xs with
  | nil => exact .inr (.inl ⟨.list [], .list [], .lst hx .nil, .lst (SqL.of hb) .nil, rfl, rfl, by simpa [PyData.eqv, PyData.eqvAll] using q⟩)
  | cons x r => exact .inr (.inr ⟨a, b, _, [], rfl, rfl, hx, SqL.of hb, by simp, q⟩)
theorem k_neD {x y : V} {d e : PyData} (hx : Dp K H x d) (hy : Dp K H y e) (q : Q (.bl (!PyData.eqv d e)) H) (s1 : SeqAt.shaped d = true) (s2 : SeqAt.shaped e = true) : rNeU K x y H Q := .inr (.inl ⟨d, e, hx, hy, s1, s2, q⟩)
theorem k_neNil {a b : Addr} {xs : List V} (hx : SqL K H a xs) (hb : H b = some (.lst [])) (q : Q (.bl (!xs.isEmpty)) H) : rNeU K (.ref a) (.ref b) H Q := by
  cases xs with
  | nil => exact .inr (.inl ⟨.list [], .list [], .lst hx .nil, .lst (SqL.of hb) .nil, rfl, rfl, by simpa [PyData.eqv, PyData.eqvAll] using q⟩)
  | cons x r => exact .inr (.inr ⟨a, b, _, [], rfl, rfl, hx, SqL.of hb, by simp, q⟩)
theorem k_in0 {x : V} {p : Addr} {xs : List V} {b : Bool} (h : SqL K H p xs ∨ SqT K H p xs) (hx : flatV x = true) (ha : xs.all flatV = true) (e : inV x xs = b) (q : Q (.bl b) H) : rIn K false x (.ref p) H Q := ⟨p, xs, rfl, h, hx, ha, by rw [e]; exact q⟩
theorem k_ni0 {x : V} {p : Addr} {xs : List V} {b : Bool} (h : SqL K H p xs ∨ SqT K H p xs) (hx : flatV x = true) (ha : xs.all flatV = true) (e : inV x xs = b) (q : Q (.bl (!b)) H) : rIn K true x (.ref p) H Q := ⟨p, xs, rfl, h, hx, ha, by rw [e]; exact q⟩
/-- True stands in no list of False -/
theorem k_notIn {p : Addr} {xs : List V} (h : SqL K H p xs) (ha : xs.all flatV = true) (e : inV (.bl true) xs = false) (q : Q (.bl true) H) : rIn K true (.bl true) (.ref p) H Q := k_ni0 (.inl h) rfl ha e q
/-- tests -/
theorem k_tst {Q : Bool → Hp → Prop} (q : te σ H fun x H' => ∃ k, x = .bl k ∧ Q k H') : tTest te σ H Q := q
theorem k_B {Q : Bool → Hp → Prop} (q : te σ H fun x H' => ∃ k, x = .bl k ∧ Q k H') : tB te σ H Q := q
theorem k_bl {Q : Bool → Prop} {b : Bool} (q : Q b) : ∃ k, V.bl b = .bl k ∧ Q k := ⟨b, rfl, q⟩
theorem k_and {Q : Bool → Hp → Prop} (q : tt σ H fun c H1 => if c = true then tu σ H1 Q else Q false H1) : tAnd tt tu σ H Q := q
theorem k_or {Q : Bool → Hp → Prop} (q : tt σ H fun c H1 => if c = true then Q true H1 else tu σ H1 Q) : tOr tt tu σ H Q := q
theorem k_not {Q : Bool → Hp → Prop} (q : tt σ H fun c H1 => Q (!c) H1) : tNot tt σ H Q := q
theorem k_andV (q : ta σ H fun x H1 => ∃ c, x = .bl c ∧ if c = true then tb σ H1 Q else Q (.bl false) H1) : tAndV ta tb σ H Q := q
theorem k_orV (q : ta σ H fun x H1 => ∃ c, x = .bl c ∧ if c = true then Q (.bl true) H1 else tb σ H1 Q) : tOrV ta tb σ H Q := q
theorem k_notV (q : ta σ H fun x H1 => ∃ c, x = .bl c ∧ Q (.bl (!c)) H1) : tNotV ta σ H Q := q
theorem k_ife (q : tt σ H fun c H1 => if c = true then ta σ H1 Q else tb σ H1 Q) : tIf tt ta tb σ H Q := q
theorem k_chain {r r' : R2} (q : ta σ H fun x H1 => tb σ H1 fun y H2 => r x y H2 fun z H3 => ∃ k, z = .bl k ∧ (if k = true then tc σ H3 fun w' H4 => r' y w' H4 Q else Q (.bl false) H3)) : tChain r r' ta tb tc σ H Q := q
theorem k_tru {Q : Bool → Hp → Prop} {x : V} {b : Bool} (h : TruV K x H b) (q : Q b H) : ∃ k, TruV K x H k ∧ Q k H := ⟨b, h, q⟩
/-- a branch -/
theorem k_if {c : Prop} [Decidable c] {A B : Prop} (h1 : c → A) (h2 : ¬ c → B) : if decide c = true then A else B := by
  by_cases h : c
  · rw [if_pos (decide_eq_true h)]
    exact h1 h
  · rw [if_neg (by rw [decide_eq_false h]; decide)]
    exact h2 h
theorem k_ifn {c : Prop} [Decidable c] {A B : Prop} (h1 : ¬ c → A) (h2 : c → B) : if (!decide c) = true then A else B := by
  by_cases h : c
  · rw [if_neg (by rw [decide_eq_true h]; decide)]
    exact h2 h
  · rw [if_pos (by rw [decide_eq_false h]; decide)]
    exact h1 h
theorem k_ifb {b : Bool} {A B : Prop} (h1 : b = true → A) (h2 : b = false → B) : if b = true then A else B := by
  cases b with
  | true => exact h1 rfl
  | false => exact h2 rfl
theorem k_ifnb {b : Bool} {A B : Prop} (h1 : b = false → A) (h2 : b = true → B) : if (!b) = true then A else B := by
  cases b with
  | true => exact h2 rfl
  | false => exact h1 rfl
theorem k_ifnd {c : Prop} [Decidable c] {A B : Prop} (h1 : ¬ c → A) (h2 : c → B) : if (!decide c) = true then A else B := k_ifn h1 h2
theorem k_ifT {A B : Prop} (h : A) : if true = true then A else B := iteT h
theorem k_ifF {A B : Prop} (h : B) : if false = true then A else B := iteF h
theorem k_ifnT {A B : Prop} (h : B) : if (!true) = true then A else B := iteF h
theorem k_ifnF {A B : Prop} (h : A) : if (!false) = true then A else B := iteT h
/-- calls, arguments, displays -/
theorem k_cb {r : List V → Hp → VK → Prop} {t : TA} (q : t σ H fun vs H1 => r vs H1 Q) : tCB r t σ H Q := q
theorem k_cons {t : TA} {Q : List V → Hp → Prop} (q : ta σ H fun x H1 => t σ H1 fun xs H2 => Q (x :: xs) H2) : tCons ta t σ H Q := q
theorem k_nil {Q : List V → Hp → Prop} (q : Q [] H) : tNil σ H Q := q
theorem k_callS {sp : Sp} {W : WX} {t : TA} (q : t σ H fun vs H1 => sp vs H1 Q (WE W σ)) : tCallS sp (WE W) t σ H Q := q
theorem k_call {sp : Sp} {t : TA} {E : XK} (q : t σ H fun vs H1 => sp vs H1 Q E) : tCall sp [] E t σ H Q := by
  show t σ H fun vs H1 => sp (vs ++ []) H1 Q E
  simp only [List.append_nil]
  exact q
def rTupX (xs : List V) (H : Hp) (Q : VK) : Prop := xs.length ≤ sizeLine ∧ ∀ p, H p = none → Q (.ref p) (upd H p (.tup xs))
def rLstX (xs : List V) (H : Hp) (Q : VK) : Prop := xs.length ≤ sizeLine ∧ ∀ p, H p = none → Q (.ref p) (upd H p (.lst xs))
theorem k_tupx {xs : List V} (q : ∀ p H2, H p = none → Same H H2 → H2 p = some (.tup xs) → Q (.ref p) H2) (c : xs.length ≤ sizeLine) : rTupX xs H Q := ⟨c, fun p hp => q p _ hp (same_new hp) upd_same⟩
theorem k_lstx {xs : List V} (q : ∀ p H2, H p = none → Same H H2 → H2 p = some (.lst xs) → Q (.ref p) H2) (c : xs.length ≤ sizeLine) : rLstX xs H Q := ⟨c, fun p hp => q p _ hp (same_new hp) upd_same⟩
theorem k_tup0 {t : TA} (q : t σ H fun xs H1 => rTupX xs H1 Q) : tTup t σ H Q := q
theorem k_lst0 {t : TA} (q : t σ H fun xs H1 => rLstX xs H1 Q) : tLst t σ H Q := q
/-- subscripts -/
theorem k_ixL {p : Addr} {xs : List V} {i : Int} (h : SqL K H p xs) (ha : atI xs i = some v) (q : Q v H) : rIx K (.ref p) (.int i) H Q := .inl ⟨p, xs, i, v, rfl, rfl, h, ha, q⟩
theorem k_ixT {p : Addr} {xs : List V} {i : Int} (h : SqT K H p xs) (ha : atI xs i = some v) (q : Q v H) : rIx K (.ref p) (.int i) H Q := .inr (.inl ⟨p, xs, i, v, rfl, rfl, h, ha, q⟩)
/-! statements -/
variable {D : Ends} {t u : TS} {g : TG}
theorem k_seq (q : t { D with nx := u D } σ H) : tSeq t u D σ H := q
theorem k_asg  (q : te σ H fun x H1 => g x σ H1 D.nx) : tAsg te g D σ H := q
theorem k_gn {Q : L2.St → Hp → Prop} (q : Q (σ.set i (some v)) H) : gName i v σ H Q := q
theorem k_gtup {a : Addr} {xs : List V} {n : Nat} {t : TGs} {Q : L2.St → Hp → Prop} (h : SqT K H a xs) (hl : xs.length = n) (q : t xs σ H Q) : gTup K n t (.ref a) σ H Q := ⟨a, xs, rfl, h, hl, q⟩
theorem k_gcons {t : TG} {u : TGs} {r : List V} {Q : L2.St → Hp → Prop} (q : t v σ H fun σ' H' => u r σ' H' Q) : gCons t u (v :: r) σ H Q := ⟨v, r, rfl, q⟩
theorem k_gnil {Q : L2.St → Hp → Prop} (q : Q σ H) : gNil [] σ H Q := ⟨rfl, q⟩
theorem k_drop (q : te σ H fun _ H1 => D.nx σ H1) : tDrop te D σ H := q
theorem k_ret (q : te σ H D.rt) : tRet te D σ H := q
theorem k_ifs (q : tt σ H fun c H1 => if c = true then t D σ H1 else u D σ H1) : tIfS tt t u D σ H := q
theorem k_next (q : D.nx σ H) : tNext D σ H := q
theorem k_par {ta : TA} (q : ta σ H fun vs H1 => ∃ v w, vs = [v, w] ∧ D.nx ((σ.set i (some v)).set j (some w)) H1) : tPar i j ta D σ H := q
theorem k_two {v w : V} {P : V → V → Prop} (q : P v w) : ∃ a b, [v, w] = [a, b] ∧ P a b := ⟨v, w, rfl, q⟩
theorem k_app {l : Addr} {xs : List V} {y : V} (h : H l = some (.lst xs)) (q : ∀ H', But l H H' → H' l = some (.lst (xs ++ [y])) → Q .non H') (c : xs.length < sizeLine) : tyV K "list" (.ref l) H ∧ rAppend (.ref l) [y] H Q :=
  ⟨.inl ⟨rfl, _, SqL.of h⟩, l, xs, y, rfl, rfl, h, c, q _ But.upd upd_same⟩
end
/-! ### the same, the written part by its name -/
section
variable {X : Cx} {K : PySem.W.Frag}
theorem op_addK (h : X.K = K) : OpR X (binaryOp .Add) (rAddU K) := h ▸ op_addU
theorem op_mulK (h : X.K = K) : OpR X (binaryOp .Mult) (rMulU K) := h ▸ op_mulU
theorem op_eqK {k : Nat} (h : X.K = K) (hr : Room k X.A) : OpR X (compareOp .Eq) (rEqU K) := h ▸ op_eqU hr
theorem op_neK {k : Nat} (h : X.K = K) (hr : Room k X.A) : OpR X (compareOp .NotEq) (rNeU K) := h ▸ op_neU hr
/-- in an except suite -/
theorem op_eqKS {k : Nat} {a : Addr} {pn : List (Addr × Obj)} (h : X.K = K) (hr : Room k X.A) : OpR (X.suite a pn) (compareOp .Eq) (rEqU K) := h ▸ op_eq.or ((op_eqD (X := X.suite a pn) (show X.A.units + 64 < cLine from hr.units)).or (op_eqL (X := X.suite a pn) (show X.A.units < cLine from hr.units0)))
theorem op_neKS {k : Nat} {a : Addr} {pn : List (Addr × Obj)} (h : X.K = K) (hr : Room k X.A) : OpR (X.suite a pn) (compareOp .NotEq) (rNeU K) := h ▸ op_ne.or ((op_neD (X := X.suite a pn) (show X.A.units + 64 < cLine from hr.units)).or (op_neL (X := X.suite a pn) (show X.A.units < cLine from hr.units0)))
theorem op_inK (h : X.K = K) : OpR X (compareOp .In) (rIn K false) := h ▸ op_in_seq
theorem op_niK (h : X.K = K) : OpR X (compareOp .NotIn) (rIn K true) := h ▸ op_notIn_seq
def rSlU (K : PySem.W.Frag) : V → Option Int → Option Int → Hp → VK → Prop := fun x lo hi H Q => rSlL K x lo hi H Q ∨ rSlS x lo hi H Q ∨ rSlA K x lo hi H Q
theorem sl_U {X : Cx} : SlR X (rSlU X.K) := sl_list.or (sl_str.or sl_tupA)
theorem sl_K (h : X.K = K) : SlR X (rSlU K) := h ▸ sl_U
theorem ix_K (h : X.K = K) : IxR X (rIx K) := h ▸ ix_seq
end
section
variable {σ : L2.St} {H : Hp} {Q : VK} {te : TE} {K : PySem.W.Frag}
/-! slices, an empty dict -/
theorem k_sl {r : V → Option Int → Option Int → Hp → VK → Prop} {tl th : TO} (q : te σ H fun x H1 => tl σ H1 fun lo H2 => th σ H2 fun hi H3 => r x lo hi H3 Q) : tSl r te tl th σ H Q := q
theorem k_part {Q : Option Int → Hp → Prop} (q : te σ H fun x H1 => ∃ i, x = .int i ∧ Q (some i) H1) : tPart te σ H Q := q
theorem k_noPart {Q : Option Int → Hp → Prop} (q : Q none H) : tNoPart σ H Q := q
theorem k_int {a : Int} {Q : Int → Prop} (q : Q a) : ∃ i, V.int a = .int i ∧ Q i := ⟨a, rfl, q⟩
theorem k_slL {a : Addr} {xs : List V} {lo hi : Option Int} (h : SqL K H a xs) (q : ∀ p H2, H p = none → Same H H2 → H2 p = some (.lst (cutV xs lo hi)) → Q (.ref p) H2) : rSlU K (.ref a) lo hi H Q := .inl ⟨a, xs, rfl, h, fun p hp => q p _ hp (same_new hp) upd_same⟩
theorem k_slS {z : Str} {lo hi : Option Int} (q : Q (.str (cutS z lo hi)) H) (c : z.length ≤ sizeLine) : rSlU K (.str z) lo hi H Q := .inr (.inl ⟨z, rfl, c, q⟩)
theorem k_slT {a : Addr} {xs : List V} {lo hi : Option Int} (h : SqT K H a xs) (c : ¬ (HT.sIx xs.length 0 lo = 0 ∧ HT.sIx xs.length xs.length hi = xs.length)) (q : ∀ p H2, H p = none → Same H H2 → H2 p = some (.tup (cutV xs lo hi)) → Q (.ref p) H2) : rSlU K (.ref a) lo hi H Q :=
  .inr (.inr ⟨a, xs, rfl, h, fun z => absurd z c, fun _ p hp => q p _ hp (same_new hp) upd_same⟩)
def rDictX (H : Hp) (Q : VK) : Prop := ∀ p, H p = none → Q (.ref p) (upd H p (.dK []))
theorem k_dict0 (q : rDictX H Q) : tDNewK σ H Q := q
theorem k_dict1 (q : ∀ p H2, H p = none → Same H H2 → H2 p = some (.dK []) → Q (.ref p) H2) : rDictX H Q := fun p hp => q p _ hp (same_new hp) upd_same
end
/-! ### built-ins by name -/
section
variable {X : Cx}
def rLenU (K : PySem.W.Frag) : List V → Hp → VK → Prop := fun xs H Q => ∃ x n, xs = [x] ∧ LenV K x H n ∧ Q (.int n) H
theorem call_lenU : CallR X (.builtin "len") (rLenU X.K) := call_len
def rAbsU : List V → Hp → VK → Prop := fun xs H Q => ∃ i, xs = [.int i] ∧ Q (.int (if i < 0 then -i else i)) H
theorem call_absU : CallR X (.builtin "abs") rAbsU := call_abs
def rMaxU : List V → Hp → VK → Prop := fun xs H Q => ∃ i j, xs = [.int i, .int j] ∧ Q (.int (if j > i then j else i)) H
theorem call_maxU (hc : X.calm = true) : CallR X (.builtin "max") rMaxU := call_max2 hc
def rMinU : List V → Hp → VK → Prop := fun xs H Q => ∃ i j, xs = [.int i, .int j] ∧ Q (.int (if j < i then j else i)) H
theorem call_minU (hc : X.calm = true) : CallR X (.builtin "min") rMinU := call_min2 hc
def rIntU : List V → Hp → VK → Prop := fun xs H Q => ((∃ i, xs = [.int i] ∧ Q (.int i) H) ∨ ∃ k, xs = [.bl k] ∧ Q (.int (if k then 1 else 0)) H) ∨ ∃ a n, xs = [.str a] ∧ PySem.intText? a = some n ∧ a.length ≤ 640 ∧ Q (.int n) H
theorem call_intU : CallR X (.type "int") rIntU := fun pins s σ H xs us Q I r h => h.elim (call_int1 pins s σ H xs us Q I r) (call_int_str pins s σ H xs us Q I r)
def rBoolU : List V → Hp → VK → Prop := fun xs H Q => (∃ i, xs = [.int i] ∧ Q (.bl (i != 0)) H) ∨ ∃ k, xs = [.bl k] ∧ Q (.bl k) H
theorem call_boolU : CallR X (.type "bool") rBoolU := call_bool1
def rStrU : List V → Hp → VK → Prop := fun xs H Q => ∃ i, xs = [.int i] ∧ i.natAbs.log2 < 1920 ∧ Q (.str (toString i)) H
theorem call_strU : CallR X (.type "str") rStrU := call_str_int
def rTupU (K : PySem.W.Frag) : List V → Hp → VK → Prop := fun xs H Q => ∃ p ys, xs = [.ref p] ∧ ((SqL K H p ys ∧ ∀ l, H l = none → Q (.ref l) (upd H l (.tup ys))) ∨ (SqT K H p ys ∧ Q (.ref p) H))
theorem call_tupU : CallR X (.type "tuple") (rTupU X.K) := call_tuple_of
def rLstU (K : PySem.W.Frag) : List V → Hp → VK → Prop := fun xs H Q => ∃ p ys, xs = [.ref p] ∧ (SqL K H p ys ∨ SqT K H p ys) ∧ ∀ l, H l = none → Q (.ref l) (upd H l (.lst ys))
theorem call_lstU : CallR X (.type "list") (rLstU X.K) := call_list_of
def rIsN : R2 := fun x y H Q => y = .non ∧ Q (.bl (decide (x = .non))) H
def rNotN : R2 := fun x y H Q => y = .non ∧ Q (.bl (!decide (x = .non))) H
theorem op_isNU : OpR X (compareOp .Is) rIsN := op_isN
theorem op_notNU : OpR X (compareOp .IsNot) rNotN := op_notN
end
section
variable {σ : L2.St} {H : Hp} {Q : VK} {K : PySem.W.Frag}
theorem k_lenL {p : Addr} {xs : List V} (q : Q (.int xs.length) H) (h : SqL K H p xs) : rLenU K [.ref p] H Q := ⟨.ref p, xs.length, rfl, .inl ⟨xs, h, rfl⟩, q⟩
theorem k_lenT {p : Addr} {xs : List V} (q : Q (.int xs.length) H) (h : SqT K H p xs) : rLenU K [.ref p] H Q := ⟨.ref p, xs.length, rfl, .inr ⟨xs, h, rfl⟩, q⟩
theorem k_lenS {x : Str} (q : Q (.int x.length) H) (h : x.length ≤ sizeLine) : rLenU K [.str x] H Q := ⟨.str x, x.length, rfl, ⟨h, rfl⟩, q⟩
theorem k_abs {a : Int} (q : Q (.int (a.natAbs : Int)) H) : rAbsU [.int a] H Q := ⟨a, rfl, by
  have e : (if a < 0 then -a else a) = (a.natAbs : Int) := by split <;> omega
  rw [e]
  exact q⟩
theorem k_max {a b : Int} (q : Q (.int (max a b)) H) : rMaxU [.int a, .int b] H Q := ⟨a, b, rfl, by
  have e : (if b > a then b else a) = max a b := by split <;> omega
  rw [e]
  exact q⟩
theorem k_min {a b : Int} (q : Q (.int (min a b)) H) : rMinU [.int a, .int b] H Q := ⟨a, b, rfl, by
  have e : (if b < a then b else a) = min a b := by split <;> omega
  rw [e]
  exact q⟩
theorem k_intI {a : Int} (q : Q (.int a) H) : rIntU [.int a] H Q := .inl (.inl ⟨a, rfl, q⟩)
theorem k_intB {b : Bool} (q : Q (.int (if b then 1 else 0)) H) : rIntU [.bl b] H Q := .inl (.inr ⟨b, rfl, q⟩)
theorem k_intS {a : Str} {n : Int} (h : PySem.intText? a = some n) (c : a.length ≤ 640) (q : Q (.int n) H) : rIntU [.str a] H Q := .inr ⟨a, n, rfl, h, c, q⟩
theorem k_boolI {a : Int} (q : Q (.bl (a != 0)) H) : rBoolU [.int a] H Q := .inl ⟨a, rfl, q⟩
theorem k_boolB {b : Bool} (q : Q (.bl b) H) : rBoolU [.bl b] H Q := .inr ⟨b, rfl, q⟩
theorem k_strI {a : Int} (q : Q (.str (toString a)) H) (c : a.natAbs.log2 < 1920) : rStrU [.int a] H Q := ⟨a, rfl, c, q⟩
theorem k_lstL {p : Addr} {xs : List V} (h : SqL K H p xs) (q : ∀ l H', H l = none → Same H H' → H' l = some (.lst xs) → Q (.ref l) H') : rLstU K [.ref p] H Q := ⟨p, xs, rfl, .inl h, fun l hl => q l _ hl (same_new hl) upd_same⟩
theorem k_lstT {p : Addr} {xs : List V} (h : SqT K H p xs) (q : ∀ l H', H l = none → Same H H' → H' l = some (.lst xs) → Q (.ref l) H') : rLstU K [.ref p] H Q := ⟨p, xs, rfl, .inr h, fun l hl => q l _ hl (same_new hl) upd_same⟩
theorem k_isN {x : V} (q : Q (.bl (decide (x = .non))) H) : rIsN x .non H Q := ⟨rfl, q⟩
theorem k_notN {x : V} (q : Q (.bl (!decide (x = .non))) H) : rNotN x .non H Q := ⟨rfl, q⟩
theorem k_powc {a b c : Int} (e : a ^ b.toNat = c) (hc : CPow a b) (q : Q (.int c) H) : rI CPow (fun i j => .int (i ^ j.toNat)) (.int a) (.int b) H Q := ⟨a, b, rfl, rfl, hc, by show Q (.int (a ^ b.toNat)) H; rw [e]; exact q⟩
theorem cpow {a b : Int} (h : 0 ≤ b) (h1 : b ≤ 1000000) (h2 : a.natAbs < 2 ^ 64) : CPow a b := ⟨h, h1, h2⟩
theorem k_mod {a b : Int} (hb : 0 < b) (q : Q (.int (a % b)) H) : rI (fun _ j => j ≠ 0) (fun i j => .int (i.fmod j)) (.int a) (.int b) H Q := ⟨a, b, rfl, rfl, by omega, by show Q (.int (a.fmod b)) H; rw [Int.fmod_eq_emod_of_nonneg a (by omega)]; exact q⟩
theorem k_log {b : Int} (h : b.natAbs < 2 ^ 64) : b.natAbs.log2 < 9000 := Nat.lt_of_lt_of_le (PySem.Flt.log2_lt_of (by decide) h) (by decide)
theorem k_div {a b : Int} (hb : 0 < b) (hl : b.natAbs.log2 < 9000) (q : Q (.int (a / b)) H) : rI CDivG (fun i j => .int (i.fdiv j)) (.int a) (.int b) H Q := ⟨a, b, rfl, rfl, ⟨by omega, PyProof.noPylong_of_log2 hl⟩, by show Q (.int (a.fdiv b)) H; rw [Int.fdiv_eq_ediv_of_nonneg a (by omega)]; exact q⟩
theorem k_mulB {a b : Int} {m n : Nat} (ha : a.natAbs < 2 ^ m) (hb : b.natAbs < 2 ^ n) (h : m + n ≤ 134217728) (q : Q (.int (a * b)) H) : rMulU K (.int a) (.int b) H Q := k_mulI q (mulx_ok ha hb h)
theorem k_pop {l : Addr} {xs : List V} {y : V} (h : H l = some (.lst (xs ++ [y]))) (q : ∀ H', But l H H' → H' l = some (.lst xs) → Q y H') : tyV K "list" (.ref l) H ∧ rPop (.ref l) [] H Q :=
  ⟨.inl ⟨rfl, _, SqL.of h⟩, l, _, y, rfl, rfl, h, by simp, q _ But.upd (by rw [List.dropLast_concat]; exact upd_same)⟩
theorem k_bm0 {T : String} {r : V → List V → Hp → VK → Prop} {te : TE} (q : te σ H fun x H1 => tyV K T x H1 ∧ r x [] H1 Q) : tBM0 K T r te σ H Q := q
theorem k_bm {T : String} {r : V → List V → Hp → VK → Prop} {te : TE} {t : TA} (q : te σ H fun x H1 => tyV K T x H1 ∧ t σ H1 fun xs H2 => r x xs H2 Q) : tBM K T r te t σ H Q := q
theorem k_app0 {l : Addr} {xs : List V} (h : H l = some (.lst xs)) : tyV K "list" (.ref l) H := .inl ⟨rfl, _, SqL.of h⟩
theorem k_app1 {l : Addr} {xs : List V} {y : V} (h : H l = some (.lst xs)) (c : xs.length < sizeLine) (q : ∀ H', But l H H' → H' l = some (.lst (xs ++ [y])) → Q .non H') : rAppend (.ref l) [y] H Q := ⟨l, xs, y, rfl, rfl, h, c, q _ But.upd upd_same⟩
def rRevX (K : PySem.W.Frag) (x : V) (H : Hp) (Q : VK) : Prop := ∃ a xs, x = .ref a ∧ SqL K H a xs ∧ ∀ p, H p = none → Q (.ref p) (upd H p (.lst xs.reverse))
theorem k_rev {te : TE} (q : te σ H fun x H1 => rRevX K x H1 Q) : tRevL K te σ H Q := q
theorem k_rev1 {p : Addr} {xs : List V} (h : SqL K H p xs) (q : ∀ l H', H l = none → Same H H' → H' l = some (.lst xs.reverse) → Q (.ref l) H') : rRevX K (.ref p) H Q := ⟨p, xs, rfl, h, fun l hl => q l _ hl (same_new hl) upd_same⟩
/-- isinstance -/
theorem k_isi {x c : V} {t u : Value} {b : Bool} (hc : ClsV c u) (ht : TyX K H x t) (hk : PySem.W.kitOne K t u = some b) (q : Q (.bl b) H) : rIsi K [x, c] H Q := ⟨x, c, t, u, b, rfl, hc, ht, hk, q⟩
theorem k_cut {t u : TS} {D : Ends} (M : L2.St → Hp → Prop) (h : t { D with nx := M } σ H) (k : ∀ σ' H', M σ' H' → u D σ' H') : C8.tCut t u D σ H := ⟨M, h, k⟩
theorem k_cut0 {t u : TS} {D : Ends} (h : t { D with nx := u D } σ H) : C8.tCut t u D σ H := ⟨_, h, fun _ _ q => q⟩
/-! loops -/
variable {D : Ends} {g : TG} {tb : TS} {j : Nat} {wi : TI}
def LoopI (J : It) (g : TG) (tb : TS) (D : Ends) (σ : L2.St) (H : Hp) : Prop := ∃ W : Nat → Nat → L2.St → Hp → Prop, (∃ m, W 0 m σ H) ∧ ∀ i m σ H, W i m σ H →
  (J.stop i H ∧ D.nx σ H) ∨ (J.go i H ∧ ∃ N : L2.St → Hp → Prop, (∀ σ' H', N σ' H' → ∃ m', m' < m ∧ W (i + 1) m' σ' H') ∧ ∀ x H', J.yld i H x H' → g x σ H' fun σ2 H2 => tb { D with nx := N, ct := N, bk := D.nx } σ2 H2)
theorem k_for (q : wi σ H fun J H1 => LoopI J g tb D σ H1) : tFor wi g tb D σ H := q
def rRng1 (vs : List V) (H : Hp) (R : It → Hp → Prop) : Prop := ∃ j : Int, vs = [.int j] ∧ -(2 ^ 62) ≤ j ∧ j < 2 ^ 62 ∧ R (Itr 0 j.toNat) H
def rRng2 (vs : List V) (H : Hp) (R : It → Hp → Prop) : Prop := ∃ i j : Int, vs = [.int i, .int j] ∧ (-(2 ^ 62) ≤ i ∧ i < 2 ^ 62 ∧ -(2 ^ 62) ≤ j ∧ j < 2 ^ 62) ∧ R (Itr i (j - i).toNat) H
def rItL (K : PySem.W.Frag) (x : V) (H : Hp) (R : It → Hp → Prop) : Prop := ∃ a, x = .ref a ∧ (∃ xs, SqL K H a xs) ∧ R (Itl K a) H
def rItT (K : PySem.W.Frag) (x : V) (H : Hp) (R : It → Hp → Prop) : Prop := ∃ a, x = .ref a ∧ (∃ xs, SqT K H a xs) ∧ R (Itt K a) H
theorem k_iRng1 {ta : TA} {R : It → Hp → Prop} (q : ta σ H fun vs H1 => rRng1 vs H1 R) : iRng1 ta σ H R := q
theorem k_iRng2 {ta : TA} {R : It → Hp → Prop} (q : ta σ H fun vs H1 => rRng2 vs H1 R) : iRng2 ta σ H R := q
theorem k_iList {tl : TE} {R : It → Hp → Prop} (q : tl σ H fun x H1 => rItL K x H1 R) : iList K tl σ H R := q
theorem k_iSeqU {tl : TE} {R : It → Hp → Prop} (q : tl σ H fun x H1 => rItU K x H1 R) : iSeqU K tl σ H R := q
theorem k_itUL {a : Addr} {xs : List V} {R : It → Hp → Prop} (h : SqL K H a xs) (q : R (Itl K a) H) : rItU K (.ref a) H R := ⟨a, rfl, .inl ⟨⟨xs, h⟩, q⟩⟩
theorem k_itUT {a : Addr} {xs : List V} {R : It → Hp → Prop} (h : SqT K H a xs) (q : R (Itt K a) H) : rItU K (.ref a) H R := ⟨a, rfl, .inr ⟨⟨xs, h⟩, q⟩⟩
theorem k_iTup {tl : TE} {R : It → Hp → Prop} (q : tl σ H fun x H1 => rItT K x H1 R) : iTup K tl σ H R := q
theorem k_rng1 {n : Int} {R : It → Hp → Prop} (c : -(2 ^ 62) ≤ n ∧ n < 2 ^ 62) (q : R (Itr 0 n.toNat) H) : rRng1 [.int n] H R := ⟨n, rfl, c.1, c.2, q⟩
theorem k_rng2 {m n : Int} {R : It → Hp → Prop} (c : -(2 ^ 62) ≤ m ∧ m < 2 ^ 62 ∧ -(2 ^ 62) ≤ n ∧ n < 2 ^ 62) (q : R (Itr m (n - m).toNat) H) : rRng2 [.int m, .int n] H R := ⟨m, n, rfl, c, q⟩
theorem k_itL {a : Addr} {xs : List V} {R : It → Hp → Prop} (h : SqL K H a xs) (q : R (Itl K a) H) : rItL K (.ref a) H R := ⟨a, rfl, ⟨xs, h⟩, q⟩
theorem k_itT {a : Addr} {xs : List V} {R : It → Hp → Prop} (h : SqT K H a xs) (q : R (Itt K a) H) : rItT K (.ref a) H R := ⟨a, rfl, ⟨xs, h⟩, q⟩
/-- for x in range(..) -/
theorem k_loopR {n : Nat} (P : Nat → L2.St → Hp → Prop) (h0 : P 0 σ H) (hs : ∀ (i : Nat) σ H, i < n → P i σ H → tb { D with nx := P (i + 1), ct := P (i + 1), bk := D.nx } (σ.set j (some (.int (i : Int)))) H)
    (hd : ∀ σ H, P n σ H → D.nx σ H) : LoopI (Itr 0 n) (gName j) tb D σ H := for_range P h0 (fun i σ H hi p => by
      show tb _ (σ.set j (some (.int (0 + (i : Int))))) H
      rw [Int.zero_add]
      exact hs i σ H hi p) hd
theorem k_loopR2 {lo : Int} {n : Nat} (P : Nat → L2.St → Hp → Prop) (h0 : P 0 σ H) (hs : ∀ (i : Nat) σ H, i < n → P i σ H → tb { D with nx := P (i + 1), ct := P (i + 1), bk := D.nx } (σ.set j (some (.int (lo + (i : Int))))) H)
    (hd : ∀ σ H, P n σ H → D.nx σ H) : LoopI (Itr lo n) (gName j) tb D σ H := for_range P h0 hs hd
theorem k_loopL {a : Addr} {xs : List V} (P : Nat → L2.St → Hp → Prop) (h0 : P 0 σ H) (hl : ∀ i σ H, i ≤ xs.length → P i σ H → SqL K H a xs)
    (hs : ∀ (i : Nat) x σ H, xs[i]? = some x → P i σ H → g x σ H fun σ2 H2 => tb { D with nx := P (i + 1), ct := P (i + 1), bk := D.nx } σ2 H2) (hd : ∀ σ H, P xs.length σ H → D.nx σ H) : LoopI (Itl K a) g tb D σ H := for_list P h0 hl hs hd
theorem k_loopT {a : Addr} {xs : List V} (P : Nat → L2.St → Hp → Prop) (h0 : P 0 σ H) (hl : ∀ i σ H, i ≤ xs.length → P i σ H → SqT K H a xs)
    (hs : ∀ (i : Nat) x σ H, xs[i]? = some x → P i σ H → g x σ H fun σ2 H2 => tb { D with nx := P (i + 1), ct := P (i + 1), bk := D.nx } σ2 H2) (hd : ∀ σ H, P xs.length σ H → D.nx σ H) : LoopI (Itt K a) g tb D σ H := for_tup P h0 hl hs hd
theorem k_loopU {a : Addr} {xs : List V} (hS : SqL K H a xs ∨ SqT K H a xs) (P : Nat → L2.St → Hp → Prop) (h0 : P 0 σ H) (hl : ∀ i σ' H', P i σ' H' → Same H H')
    (hs : ∀ (i : Nat) x σ H, xs[i]? = some x → P i σ H → g x σ H fun σ2 H2 => tb { D with nx := P (i + 1), ct := P (i + 1), bk := D.nx } σ2 H2) (hd : ∀ σ H, P xs.length σ H → D.nx σ H) : rItU K (.ref a) H fun J H1 => LoopI J g tb D σ H1 := by
  rcases hS with hS | hS
  · exact k_itUL hS (k_loopL P h0 (fun i σ' H' _ p => seqL_same (hl i σ' H' p) hS) hs hd)
  · exact k_itUT hS (k_loopT P h0 (fun i σ' H' _ p => seqT_same (hl i σ' H' p) hS) hs hd)
/-- while: P with a number that falls -/
def Less (P : Nat → L2.St → Hp → Prop) (m : Nat) : L2.St → Hp → Prop := fun σ H => ∃ m', m' < m ∧ P m' σ H
theorem k_while {tc : TT} (P : Nat → L2.St → Hp → Prop) (m : Nat) (h0 : P m σ H)
    (hs : ∀ m σ H, P m σ H → tc σ H fun b H1 => if b = true then ∃ N : L2.St → Hp → Prop, (∀ σ' H', N σ' H' → ∃ m', m' < m ∧ P m' σ' H') ∧ tb { D with nx := N, ct := N, bk := D.nx } σ H1 else D.nx σ H1) : tWhile tc tb D σ H := ⟨P, ⟨m, h0⟩, hs⟩
theorem k_wN {P : Nat → L2.St → Hp → Prop} {m : Nat} (q : tb { D with nx := Less P m, ct := Less P m, bk := D.nx } σ H) : ∃ N : L2.St → Hp → Prop, (∀ σ' H', N σ' H' → ∃ m', m' < m ∧ P m' σ' H') ∧ tb { D with nx := N, ct := N, bk := D.nx } σ H := ⟨_, fun _ _ h => h, q⟩
end
/-! more steps -/
section
variable {σ : L2.St} {H : Hp} {Q : VK} {v : V} {te to ti : TE} {K : PySem.W.Frag} {D : Ends} {i : Nat}
theorem k_aug {ip : TIp} (h : σ[i]? = some (some v)) (q : te σ H fun y H1 => ip v y H1 fun z H2 => D.nx (σ.set i (some z)) H2) : tAug i te ip D σ H := ⟨v, h, q⟩
theorem k_ip {f : Int → Int → Int} {a b : Int} (q : Q (.int (f a b)) H) : ipI f (.int a) (.int b) H Q := ⟨a, b, rfl, rfl, q⟩
theorem k_gsub {t : TSet} {Q : L2.St → Hp → Prop} (q : to σ H fun o H1 => ti σ H1 fun i H2 => t o i v H2 fun H3 => Q σ H3) : gSub to ti t v σ H Q := q
theorem k_setL {p : Addr} {xs : List V} {k : Int} {j : Nat} {Q : Hp → Prop} (h : H p = some (.lst xs)) (hj : ixN xs.length k = some j) (q : ∀ H', But p H H' → H' p = some (.lst (xs.set j v)) → Q H') : rSetL (.ref p) (.int k) v H Q := ⟨p, xs, k, j, rfl, rfl, h, hj, q _ But.upd upd_same⟩
theorem ixN_nat {n j : Nat} (h : j < n) : ixN n (j : Int) = some j := by
  unfold ixN
  rw [if_pos (by omega), if_pos (by omega)]
  rfl
theorem k_m1 {r : V → List V → Hp → VK → Prop} (q : to σ H fun x H1 => (∃ a, x = .str a) ∧ te σ H1 fun y H2 => r x [y] H2 Q) : tM1 r to te σ H Q := q
theorem k_m0 {r : V → List V → Hp → VK → Prop} (q : to σ H fun x H1 => (∃ a, x = .str a) ∧ r x [] H1 Q) : tM0 r to σ H Q := q
theorem k_isS {a : Str} {B : Prop} (q : B) : (∃ b, V.str a = .str b) ∧ B := ⟨⟨a, rfl⟩, q⟩
def rJoinU (K : PySem.W.Frag) : V → List V → Hp → VK → Prop := fun x xs H Q => ∃ a p, ∃ ys : List Str, x = .str a ∧ xs = [.ref p] ∧ (SqL K H p (ys.map V.str) ∨ SqT K H p (ys.map V.str)) ∧ (ys.map (·.length)).sum + ys.length * a.length ≤ 16777216 ∧ Q (.str (Txt.join a ys)) H
theorem mt_joinK {X : Cx} (h : X.K = K) : MtR X "str.join" (rJoinU K) := h ▸ mt_join
theorem k_join {a : Str} {p : Addr} {ys : List Str} (h : SqL K H p (ys.map V.str) ∨ SqT K H p (ys.map V.str)) (c : (ys.map (·.length)).sum + ys.length * a.length ≤ 16777216) (q : Q (.str (Txt.join a ys)) H) : rJoinU K (.str a) [.ref p] H Q := ⟨a, p, ys, rfl, rfl, h, c, q⟩
theorem k_ixS {z : Str} {i : Int} {c : Nat} (hz : z.length ≤ sizeLine) (h : atI z.cps.toList i = some c) (q : Q (.str ⟨#[c]⟩) H) : rIx K (.str z) (.int i) H Q := .inr (.inr ⟨z, i, c, rfl, rfl, hz, h, q⟩)
theorem k_sum {a : Addr} {ns : List Int} (h : SqL K H a (ns.map V.int)) (q : Q (.int ns.sum) H) : rSum K [.ref a] H Q := ⟨a, ns, rfl, h, q⟩
end
/-- in, not in: of flat things, of data, of a text in a text -/
def rInU (K : PySem.W.Frag) : R2 := fun x y H Q => rIn K false x y H Q ∨ rInD K x y H Q ∨ (∃ i j, x = .str i ∧ y = .str j ∧ Q (.bl (!(Builtin.Str.occurrences j i 0 j.length 1).isEmpty)) H)
def rNiU (K : PySem.W.Frag) : R2 := fun x y H Q => rIn K true x y H Q ∨ rNotInD K x y H Q ∨ (∃ i j, x = .str i ∧ y = .str j ∧ Q (.bl (!(!(Builtin.Str.occurrences j i 0 j.length 1).isEmpty))) H)
theorem Room.un65 {k : Nat} {A : Around} (r : Room k A) : A.units + 65 < cLine := by have := r.un; omega
theorem op_inUK {X : Cx} {K : PySem.W.Frag} {k : Nat} (h : X.K = K) (hr : Room k X.A) : OpR X (compareOp .In) (rInU K) := h ▸ op_in_seq.or ((op_inD (Room.un65 hr)).or op_in_str)
theorem op_niUK {X : Cx} {K : PySem.W.Frag} {k : Nat} (h : X.K = K) (hr : Room k X.A) : OpR X (compareOp .NotIn) (rNiU K) := h ▸ op_notIn_seq.or ((op_notInD (Room.un65 hr)).or op_notIn_str)
section
variable {H : Hp} {Q : VK} {K : PySem.W.Frag}
theorem k_in {x : V} {p : Addr} {xs : List V} {b : Bool} (h : SqL K H p xs ∨ SqT K H p xs) (hx : flatV x = true) (ha : xs.all flatV = true) (e : inV x xs = b) (q : Q (.bl b) H) : rInU K x (.ref p) H Q := .inl (k_in0 h hx ha e q)
theorem k_ni {x : V} {p : Addr} {xs : List V} {b : Bool} (h : SqL K H p xs ∨ SqT K H p xs) (hx : flatV x = true) (ha : xs.all flatV = true) (e : inV x xs = b) (q : Q (.bl (!b)) H) : rNiU K x (.ref p) H Q := .inl (k_ni0 h hx ha e q)
theorem k_inD {x y : V} {d : PyData} {ds : List PyData} (hx : Dp K H x d) (hy : Dp K H y (.list ds)) (s1 : SeqAt.shaped d = true) (s2 : SeqAt.shaped (.list ds) = true) (q : Q (.bl (ds.any fun z => PyData.eqv z d)) H) : rInU K x y H Q := .inr (.inl ⟨d, ds, hx, hy, s1, s2, q⟩)
theorem k_niD {x y : V} {d : PyData} {ds : List PyData} (hx : Dp K H x d) (hy : Dp K H y (.list ds)) (s1 : SeqAt.shaped d = true) (s2 : SeqAt.shaped (.list ds) = true) (q : Q (.bl (!ds.any fun z => PyData.eqv z d)) H) : rNiU K x y H Q := .inr (.inl ⟨d, ds, hx, hy, s1, s2, q⟩)
theorem k_inS {x y : Str} (q : Q (.bl (!(Builtin.Str.occurrences y x 0 y.length 1).isEmpty)) H) : rInU K (.str x) (.str y) H Q := .inr (.inr ⟨x, y, rfl, rfl, q⟩)
theorem k_niS {x y : Str} (q : Q (.bl (!(!(Builtin.Str.occurrences y x 0 y.length 1).isEmpty))) H) : rNiU K (.str x) (.str y) H Q := .inr (.inr ⟨x, y, rfl, rfl, q⟩)
end
/-- a dict of one pair, its key a text -/
def rDisp1 (p : Addr) (x y : V) (H : Hp) (Q : VK) : Prop := H p = some (.dK []) ∧ ∃ kvs : List (Key × V), [(x, y)] = kvs.map (fun kv => (kV kv.1, kv.2)) ∧ kvs.length ≤ 15 ∧ Q (.ref p) (upd H p (.dK (mergeK [] kvs)))
theorem k_disp1 {σ : L2.St} {H : Hp} {Q : VK} {tk tv : TE} (q : ∀ p H1, H p = none → Same H H1 → H1 p = some (.dK []) → tk σ H1 fun x H2 => tv σ H2 fun y H3 => rDisp1 p x y H3 Q) : tDisp [(tk, tv)] σ H Q := fun p hp => q p _ hp (same_new hp) upd_same
theorem k_disp1x {p : Addr} {z : Str} {y : V} {H : Hp} {Q : VK} (h : H p = some (.dK [])) (q : ∀ H', But p H H' → H' p = some (.dK [(.inr z, y)]) → Q (.ref p) H') : rDisp1 p (.str z) y H Q := ⟨h, [(.inr z, y)], rfl, by simp, q _ But.upd upd_same⟩
theorem k_ev {te : TE} {g : TG} {D : Ends} {σ : L2.St} {H : Hp} (P : V → Hp → Prop) (h : ∀ Q : VK, (∀ v H', P v H' → Q v H') → te σ H Q) (q : ∀ v H', P v H' → g v σ H' D.nx) : tAsg te g D σ H := h _ q
theorem k_evT {tt : TT} {t u : TS} {D : Ends} {σ : L2.St} {H : Hp} (P : Bool → Hp → Prop) (h : ∀ Q : Bool → Hp → Prop, (∀ b H', P b H' → Q b H') → tt σ H Q) (q : ∀ b H', P b H' → if b = true then t D σ H' else u D σ H') : tIfS tt t u D σ H := h _ q
/-! ### list comprehensions -/
section
variable {σ : L2.St} {H : Hp} {Q : VK} {K : PySem.W.Frag} {g : TG} {tt : TT} {te : TE} {vs : List Nat} {wi : TI}
def LcB (D : Addr) (g : TG) (tt : TT) (te : TE) (vs : List Nat) (σ : L2.St) (x : V) (H : Hp) (N : Hp → Prop) : Prop := g x (wipe σ vs) H fun σ2 H2 => wipe σ2 vs = wipe σ vs ∧ tt σ2 H2 fun b H3 =>
  if b = true then te σ2 H3 fun y H4 => ∃ acc, H4 D = some (.lst acc) ∧ acc.length < sizeLine ∧ N (upd H4 D (.lst (acc ++ [y]))) else N H3
def LcX (J : It) (g : TG) (tt : TT) (te : TE) (vs : List Nat) (σ : L2.St) (H : Hp) (Q : VK) : Prop := ∀ D, H D = none → ∃ W : Nat → Nat → Hp → Prop, (∃ m, W 0 m (upd H D (.lst []))) ∧ ∀ i m H, W i m H →
  (J.stop i H ∧ Q (.ref D) H) ∨ (J.go i H ∧ ∃ Nx : Hp → Prop, (∀ H', Nx H' → ∃ m', m' < m ∧ W (i + 1) m' H') ∧ ∀ x H', J.yld i H x H' → LcB D g tt te vs σ x H' Nx)
theorem k_lc (q : wi σ H fun J H1 => LcX J g tt te vs σ H1 Q) : tLc wi g tt te vs σ H Q := q
/-- one turn: the element kept, or not -/
theorem k_lcY {y : V} {D : Addr} {acc : List V} {P : Hp → Prop} (h : H D = some (.lst acc)) (hz : acc.length < sizeLine) (q : ∀ H', But D H H' → H' D = some (.lst (acc ++ [y])) → P H') : ∃ acc, H D = some (.lst acc) ∧ acc.length < sizeLine ∧ P (upd H D (.lst (acc ++ [y]))) :=
  ⟨acc, h, hz, q _ But.upd upd_same⟩
theorem k_lcU {a : Addr} {xs : List V} (hS : SqL K H a xs ∨ SqT K H a xs) (P : Addr → Nat → List V → Hp → Prop) (h0 : ∀ D H', H D = none → Same H H' → H' D = some (.lst []) → P D 0 [] H') (hl : ∀ D i ys H', H D = none → P D i ys H' → Same H H')
    (hs : ∀ D (i : Nat) x ys H', H D = none → xs[i]? = some x → P D i ys H' → H' D = some (.lst ys) → LcB D g tt te vs σ x H' fun H'' => ∃ zs, P D (i + 1) zs H'' ∧ H'' D = some (.lst zs))
    (hd : ∀ D ys H', H D = none → P D xs.length ys H' → H' D = some (.lst ys) → Q (.ref D) H') : rItU K (.ref a) H fun J H1 => LcX J g tt te vs σ H1 Q := by
  rcases hS with hS | hS
  · exact k_itUL hS fun D hD => lc_list (fun i H' => ∃ ys, P D i ys H' ∧ H' D = some (.lst ys)) ⟨[], h0 D _ hD (same_new hD) upd_same, upd_same⟩ (fun i H' _ ⟨ys, p, _⟩ => seqL_same (hl D i ys H' hD p) hS)
      (fun i x H' hx ⟨ys, p, e⟩ => hs D i x ys H' hD hx p e) fun H' ⟨ys, p, e⟩ => hd D ys H' hD p e
  · exact k_itUT hS fun D hD => lc_tup (fun i H' => ∃ ys, P D i ys H' ∧ H' D = some (.lst ys)) ⟨[], h0 D _ hD (same_new hD) upd_same, upd_same⟩ (fun i H' _ ⟨ys, p, _⟩ => seqT_same (hl D i ys H' hD p) hS)
      (fun i x H' hx ⟨ys, p, e⟩ => hs D i x ys H' hD hx p e) fun H' ⟨ys, p, e⟩ => hd D ys H' hD p e
/-- a list walked while other things change -/
theorem k_lcLb {σ : L2.St} {H : Hp} {Q : VK} {K : PySem.W.Frag} {g : TG} {tt : TT} {te : TE} {vs : List Nat} {a : Addr} {xs : List V} {P : Addr → Nat → List V → Hp → Prop} (h0 : ∀ D H', H D = none → Same H H' → H' D = some (.lst []) → P D 0 [] H') (hl : ∀ D i ys H', H D = none → P D i ys H' → SqL K H' a xs)
    (hs : ∀ D (i : Nat) x ys H', H D = none → xs[i]? = some x → P D i ys H' → H' D = some (.lst ys) → LcB D g tt te vs σ x H' fun H'' => ∃ zs, P D (i + 1) zs H'' ∧ H'' D = some (.lst zs))
    (hd : ∀ D ys H', H D = none → P D xs.length ys H' → H' D = some (.lst ys) → Q (.ref D) H') : LcX (Itl K a) g tt te vs σ H Q := fun D hD =>
  lc_list (fun i H' => ∃ ys, P D i ys H' ∧ H' D = some (.lst ys)) ⟨[], h0 D _ hD (same_new hD) upd_same, upd_same⟩ (fun i H' _ ⟨ys, p, _⟩ => hl D i ys H' hD p)
    (fun i x H' hx ⟨ys, p, e⟩ => hs D i x ys H' hD hx p e) fun H' ⟨ys, p, e⟩ => hd D ys H' hD p e
theorem k_lcR {lo : Int} {n : Nat} (P : Addr → Nat → List V → Hp → Prop) (h0 : ∀ D H', H D = none → Same H H' → H' D = some (.lst []) → P D 0 [] H')
    (hs : ∀ D (i : Nat) ys H', H D = none → i < n → P D i ys H' → H' D = some (.lst ys) → LcB D g tt te vs σ (.int (lo + (i : Int))) H' fun H'' => ∃ zs, P D (i + 1) zs H'' ∧ H'' D = some (.lst zs))
    (hd : ∀ D ys H', H D = none → P D n ys H' → H' D = some (.lst ys) → Q (.ref D) H') : LcX (Itr lo n) g tt te vs σ H Q := fun D hD =>
  lc_range (fun i H' => ∃ ys, P D i ys H' ∧ H' D = some (.lst ys)) ⟨[], h0 D _ hD (same_new hD) upd_same, upd_same⟩ (fun i H' hi ⟨ys, p, e⟩ => hs D i ys H' hD hi p e) fun H' ⟨ys, p, e⟩ => hd D ys H' hD p e
/-- a turn begins: the target a name -/
theorem k_lcB {D : Addr} {j : Nat} {x : V} {N : Hp → Prop} (hw : wipe ((wipe σ vs).set j (some x)) vs = wipe σ vs) (q : tt ((wipe σ vs).set j (some x)) H fun b H3 => if b = true then te ((wipe σ vs).set j (some x)) H3 fun y H4 => ∃ acc, H4 D = some (.lst acc) ∧ acc.length < sizeLine ∧ N (upd H4 D (.lst (acc ++ [y]))) else N H3) :
    LcB D (gName j) tt te vs σ x H N := ⟨hw, q⟩
/-- a comprehension's turn, its target a tuple -/
theorem k_lcT {D : Addr} {x : V} {N : Hp → Prop} (q : g x (wipe σ vs) H fun σ2 H2 => wipe σ2 vs = wipe σ vs ∧ tt σ2 H2 fun b H3 =>
    if b = true then te σ2 H3 fun y H4 => ∃ acc, H4 D = some (.lst acc) ∧ acc.length < sizeLine ∧ N (upd H4 D (.lst (acc ++ [y]))) else N H3) : LcB D g tt te vs σ x H N := q
/-- no test -/
theorem k_yes {Q : Bool → Hp → Prop} (q : Q true H) : tYes σ H Q := q
def rRgX (a b : Int) (H : Hp) (Q : VK) : Prop := RgOk a b ∧ ∀ q, H q = none → Q (.ref q) (upd H q (.lst (rgV a b)))
theorem k_listRg {tr : L2.St → Hp → (Int → Int → Hp → Prop) → Prop} (q : tr σ H fun a b H1 => rRgX a b H1 Q) : tLstRg tr σ H Q := q
theorem k_rg1 {ta : TE} {R : Int → Int → Hp → Prop} (q : ta σ H fun x H1 => ∃ n, x = .int n ∧ R 0 n H1) : tRg1 ta σ H R := q
theorem k_rgX {a b : Int} (c : 0 ≤ a ∧ a ≤ 1000000 ∧ 0 ≤ b ∧ b ≤ 1000000) (q : ∀ l H', H l = none → Same H H' → H' l = some (.lst (rgV a b)) → Q (.ref l) H') : rRgX a b H Q := ⟨RgOk.of_le (by omega) (by omega) (by omega) (by omega), fun l hl => q l _ hl (same_new hl) upd_same⟩
end
def rIsBl : R2 := fun x y H Q => ∃ a b, x = .bl a ∧ y = .bl b ∧ Q (.bl (decide (a = b))) H
def rNotBl : R2 := fun x y H Q => ∃ a b, x = .bl a ∧ y = .bl b ∧ Q (.bl (!decide (a = b))) H
theorem op_isBlU {X : Cx} : OpR X (compareOp .Is) rIsBl := op_is_bl
theorem op_notBlU {X : Cx} : OpR X (compareOp .IsNot) rNotBl := op_isnot_bl
theorem k_isBl {a b : Bool} {H : Hp} {Q : VK} (q : Q (.bl (decide (a = b))) H) : rIsBl (.bl a) (.bl b) H Q := ⟨a, b, rfl, rfl, q⟩
theorem k_notBl {a b : Bool} {H : Hp} {Q : VK} (q : Q (.bl (!decide (a = b))) H) : rNotBl (.bl a) (.bl b) H Q := ⟨a, b, rfl, rfl, q⟩
theorem k_glst {K : PySem.W.Frag} {a : Addr} {xs : List V} {n : Nat} {t : TGs} {σ : L2.St} {H : Hp} {Q : L2.St → Hp → Prop} (h : SqL K H a xs) (hl : xs.length = n) (q : t xs σ H Q) : gLst K n t (.ref a) σ H Q := ⟨a, xs, rfl, h, hl, q⟩
theorem k_ext1 {l b : Addr} {xs zs : List V} {H : Hp} {Q : VK} (h : H l = some (.lst xs)) (g : H b = some (.lst zs)) (c : xs.length + zs.length ≤ sizeLine) (q : ∀ H', But l H H' → H' l = some (.lst (xs ++ zs)) → Q .non H') : rExtend (.ref l) [.ref b] H Q := ⟨l, b, xs, zs, rfl, rfl, h, g, c, q _ But.upd upd_same⟩
/-- a tuple and one more -/
theorem k_addT1 {K : PySem.W.Frag} {H : Hp} {Q : VK} {a b : Addr} {xs : List V} {y : V} (ha : SqT K H a xs) (hb : SqT K H b [y]) (c : xs.length + 1 ≤ sizeLine) (q : ∀ p H', Same H H' → SqT K H' p (xs ++ [y]) → Q (.ref p) H') : rAddU K (.ref a) (.ref b) H Q :=
  .inr (.inr (.inr (.inl ⟨a, b, xs, [y], rfl, rfl, ha, hb, c, fun e => by subst e; exact q b H (Same.refl H) hb, fun _ e => (by cases e), fun _ _ p hp => q p _ (same_new hp) (SqT.of upd_same)⟩)))
/-! len(set(t)), t a tuple of ints, none twice -/
def tLenSetT (K : PySem.W.Frag) (ta : TE) : TE := fun σ H Q => ta σ H fun x H1 => ∃ (l : Addr) (ns : List Int), x = .ref l ∧ SqT K H1 l (ns.map V.int) ∧ ns.Nodup ∧ ns.length ≤ 4000 ∧ Q (.int (ns.length : Nat)) H1
theorem ints_vals : ∀ {ns : List Int} {us : List Value}, Vals (ns.map V.int) us → PyProof.Rows.IntsAre us ns
  | [], _, .nil => .nil
  | n :: ns, _, .cons r t => by
    obtain ⟨k, rfl⟩ := r
    exact .cons n k (ints_vals t)
theorem pe_lenSetT {X : Cx} {K : PySem.W.Frag} {a : Expr} {ta : TE} {p p2 q pos : Pos} (hK : X.K = K) (hg : Gl X "len") (hm : X.mg "len" = none) (hg2 : Gl X "set") (hm2 : X.mg "set" = none) (ha : PE X a ta) (hc : X.calm = true := by rfl)
    (na : starEach [a] X.env = (false, eval a X.env) :: starEach [] X.env := by rfl) : PE X (.Call (.Name "len" p) [.Call (.Name "set" p2) [a] [] q] [] pos) (tLenSetT K ta) := by
  subst hK
  refine ⟨fun pins s σ H Q I h => ?_⟩
  refine Call_ (ld_blt I hg hm boot_len ?_)
  refine PyProof.Rows.callWith_builtin1 (PyProof.Rows.args_cons ?_ rfl) rfl rfl
  refine Call_ (ld_blt I hg2 hm2 boot_set ?_)
  refine PyProof.Rows.callWith_type1 (PyProof.Rows.args_cons (thn (ha.run pins s σ H _ I h) fun v s1 ⟨x, H1, I1, r1, q1⟩ => PyProof.Rows.args_nil ?_) na) na rfl
  obtain ⟨l, ns, rfl, hq, hnd, hl, q1⟩ := q1
  cases r1
  obtain ⟨its, r, pt, hz⟩ := I1.tuple hq
  refine call_set_tupI ns (I1.ok.hd hc) pt (by simpa using ints_vals r) (by unfold scanBound; omega) fun h' tk c hS _ hk => ?_
  refine PyProof.Rows.args_nil ?_
  obtain ⟨o, es, ep, t, ho, hex, hd, g, nd, hm3, hb, hf, hn, _⟩ := hS
  have I2 : Inv X pins σ H1 { s1 with heap := h', toks := tk } := I1.kept hk
  have hp : (es.toList.map keyOf).Perm ns := (List.perm_ext_iff_of_nodup nd hnd).mpr fun k => by
    have := hm3 k
    rw [← this]
    simp
  have hlen : es.size = ns.length := by
    have := hp.length_eq
    rw [List.length_map, Array.length_toList] at this
    exact this
  exact call_len_set ho hex hd hf (by rw [hlen]; omega) ⟨.int ns.length, H1, I2.tok _, ⟨_, by rw [hlen]⟩, q1⟩
def rLenSetT (K : PySem.W.Frag) (x : V) (H1 : Hp) (Q : VK) : Prop := ∃ (l : Addr) (ns : List Int), x = .ref l ∧ SqT K H1 l (ns.map V.int) ∧ ns.Nodup ∧ ns.length ≤ 4000 ∧ Q (.int (ns.length : Nat)) H1
theorem k_lenSetT {K : PySem.W.Frag} {ta : TE} {σ : L2.St} {H : Hp} {Q : VK} (q : ta σ H fun x H1 => rLenSetT K x H1 Q) : tLenSetT K ta σ H Q := q
theorem k_lenSetTx {K : PySem.W.Frag} {H : Hp} {Q : VK} {l : Addr} {ns : List Int} (h : SqT K H l (ns.map V.int)) (nd : ns.Nodup) (c : ns.length ≤ 4000) (q : Q (.int (ns.length : Nat)) H) : rLenSetT K (.ref l) H Q := ⟨l, ns, rfl, h, nd, c, q⟩
/-! count of data -/
def rCntL (K : PySem.W.Frag) : V → List V → Hp → VK → Prop := fun x xs H Q => ∃ (p : Addr) (y : V) (d : PyData) (ds : List PyData), x = .ref p ∧ xs = [y] ∧ Dp K H (.ref p) (.list ds) ∧ Dp K H y d ∧ PyData.plainAll ds = true ∧ d.plain = true ∧ PyData.depthAll ds ≤ 32 ∧
  Q (.int ((ds.countP fun z => PyData.eqv z d : Nat) : Int)) H
theorem mt_cntL {X : Cx} {k : Nat} {K : PySem.W.Frag} (h : X.K = K) (hr : Room k X.A) : MtR X "list.count" (rCntL K) := by
  subst h
  intro pins s σ H x xs v us Q I rx rxs h
  obtain ⟨p, y, d, ds, rfl, rfl, hl, hy, pl, pd, dp, q⟩ := h
  cases rx
  cases rxs with
  | cons ry rt =>
    rename_i uy ut
    cases rt
    obtain ⟨bs, r1⟩ := Dp.reads I d y uy hy ry
    cases hl with
    | lst hs ha =>
      obtain ⟨its, rv, pl2, hlen⟩ := I.list hs
      obtain ⟨as, h4⟩ := Dp.readsAll I ds _ its ha rv
      refine PySem.SeqAt.count_list_data pl2.isList (show ReadsAll s.heap its.toArray.toList ds as from h4) r1 pl pd (by have := hr.units; omega) ⟨.int ((ds.countP fun z => PyData.eqv z d : Nat) : Int), H, I.tok _, ⟨_, rfl⟩, q⟩
theorem k_cntL {H : Hp} {Q : VK} {K : PySem.W.Frag} {p : Addr} {y : V} {d : PyData} {ds : List PyData} (hl : Dp K H (.ref p) (.list ds)) (hy : Dp K H y d) (pl : PyData.plainAll ds = true) (pd : d.plain = true) (dp : PyData.depthAll ds ≤ 32)
    (q : Q (.int ((ds.countP fun z => PyData.eqv z d : Nat) : Int)) H) : rCntL K (.ref p) [y] H Q := ⟨p, y, d, ds, rfl, rfl, hl, hy, pl, pd, dp, q⟩
/-- a list, repeated -/
theorem k_mulR {H : Hp} {Q : VK} {K : PySem.W.Frag} {l : Addr} {k : Int} {xs : List V} (h : H l = some (.lst xs)) (c : -(2 ^ 63) ≤ k ∧ k < 2 ^ 63 ∧ xs.length * k.toNat ≤ sizeLine) (q : ∀ p H', H p = none → Same H H' → H' p = some (.lst (List.replicate k.toNat xs).flatten) → Q (.ref p) H') : rMulU K (.ref l) (.int k) H Q :=
  .inr (.inl ⟨l, k, xs, rfl, rfl, h, c.1, c.2.1, c.2.2, fun p hp => q p _ hp (same_new hp) upd_same⟩)
/-! ### walks that lay a new pair at each turn: enumerate, zip -/
structure PairIt (J : It) (n : Nat) (u v : Nat → V) (Ok : Hp → Prop) : Prop where
  go : ∀ i H, Ok H → i < n → J.go i H
  stop : ∀ H, Ok H → J.stop n H
  yld : ∀ i H x H', Ok H → i < n → J.yld i H x H' → ∃ T, x = .ref T ∧ H T = none ∧ H' = upd H T (.tup [u i, v i])
section
variable {σ : L2.St} {H : Hp} {Q : VK} {K : PySem.W.Frag} {g : TG} {tt : TT} {te : TE} {vs : List Nat} {J : It} {n : Nat} {u v : Nat → V} {Ok : Hp → Prop} {D : Ends} {tb : TS} {ta : TA}
theorem k_loopP (pi : PairIt J n u v Ok) (P : Nat → L2.St → Hp → Prop) (h0 : P 0 σ H) (hl : ∀ i σ' H', P i σ' H' → Ok H')
    (hs : ∀ (i : Nat) T σ' H1 H2, i < n → P i σ' H1 → H1 T = none → Same H1 H2 → H2 T = some (.tup [u i, v i]) → g (.ref T) σ' H2 fun σ2 H2 => tb { D with nx := P (i + 1), ct := P (i + 1), bk := D.nx } σ2 H2) (hd : ∀ σ' H', P n σ' H' → D.nx σ' H') : LoopI J g tb D σ H := by
  refine ⟨fun i m σ' H' => m = n - i ∧ i ≤ n ∧ P i σ' H', ⟨n, by simp, Nat.zero_le _, h0⟩, ?_⟩
  rintro i m σ' H' ⟨rfl, hi, p⟩
  have ok := hl i σ' H' p
  by_cases c : i < n
  · refine .inr ⟨pi.go i H' ok c, P (i + 1), fun σ2 H2 q => ⟨n - (i + 1), by omega, rfl, c, q⟩, fun x H2 y => ?_⟩
    obtain ⟨T, rfl, hT, rfl⟩ := pi.yld i H' x H2 ok c y
    exact hs i T σ' H' _ c p hT (same_new hT) upd_same
  · have e : i = n := by omega
    subst e
    exact .inl ⟨pi.stop H' ok, hd σ' H' p⟩
theorem k_lcP (pi : PairIt J n u v Ok) (P : Addr → Nat → List V → Hp → Prop) (h0 : ∀ D H', H D = none → Same H H' → H' D = some (.lst []) → P D 0 [] H') (hl : ∀ D i ys H', H D = none → P D i ys H' → Ok H')
    (hs : ∀ D (i : Nat) T ys H1 H2, H D = none → i < n → P D i ys H1 → H1 T = none → Same H1 H2 → H2 T = some (.tup [u i, v i]) → H2 D = some (.lst ys) → LcB D g tt te vs σ (.ref T) H2 fun H'' => ∃ zs, P D (i + 1) zs H'' ∧ H'' D = some (.lst zs))
    (hd : ∀ D ys H', H D = none → P D n ys H' → H' D = some (.lst ys) → Q (.ref D) H') : LcX J g tt te vs σ H Q := fun D hD => by
  refine ⟨fun i m H' => m = n - i ∧ i ≤ n ∧ ∃ ys, P D i ys H' ∧ H' D = some (.lst ys), ⟨n, by simp, Nat.zero_le _, [], h0 D _ hD (same_new hD) upd_same, upd_same⟩, ?_⟩
  rintro i m H' ⟨rfl, hi, ys, p, e⟩
  have ok := hl D i ys H' hD p
  by_cases c : i < n
  · refine .inr ⟨pi.go i H' ok c, fun H'' => ∃ zs, P D (i + 1) zs H'' ∧ H'' D = some (.lst zs), fun H2 ⟨zs, q, e2⟩ => ⟨n - (i + 1), by omega, rfl, c, zs, q, e2⟩, fun x H2 y => ?_⟩
    obtain ⟨T, rfl, hT, rfl⟩ := pi.yld i H' x H2 ok c y
    exact hs D i T ys H' _ hD c p hT (same_new hT) upd_same (same_new hT _ _ e)
  · have ei : i = n := by omega
    subst ei
    exact .inl ⟨pi.stop H' ok, hd D ys H' hD p e⟩
theorem get_some {xs : List V} {i : Nat} (h : i < xs.length) : xs[i]? = some (xs.getD i .non) := by
  rw [List.getElem?_eq_getElem h]
  simp [h]
theorem enum_it {a : Addr} {xs : List V} : PairIt (Ite K a) xs.length (fun i => .int (i : Nat)) (fun i => xs.getD i .non) (fun H => SqL K H a xs) where
  go := fun i H h c => ⟨xs, _, h, get_some c⟩
  stop := fun H h => ⟨xs, h, Nat.le_refl _⟩
  yld := fun i H x H' h c ⟨T, y, e, hT, eH, hy⟩ => ⟨T, e, hT, by
    have := hy xs h
    rw [get_some c] at this
    rw [eH, Option.some.inj this]⟩
theorem zip_it {a b : Addr} {xs ys : List V} (hl : xs.length = ys.length) : PairIt (Itz K a b) xs.length (fun i => xs.getD i .non) (fun i => ys.getD i .non) (fun H => SqL K H a xs ∧ SqL K H b ys) where
  go := fun i H h c => ⟨xs, ys, _, _, h.1, h.2, get_some c, get_some (by omega)⟩
  stop := fun H h => ⟨xs, ys, h.1, h.2, .inl (Nat.le_refl _)⟩
  yld := fun i H x H' h c ⟨T, y, z, e, hT, eH, hy, hz⟩ => ⟨T, e, hT, by
    have e1 := hy xs h.1
    have e2 := hz ys h.2
    rw [get_some c] at e1
    rw [get_some (by omega)] at e2
    rw [eH, Option.some.inj e1, Option.some.inj e2]⟩
def rEnum (K : PySem.W.Frag) (vs : List V) (H1 : Hp) (R : It → Hp → Prop) : Prop := ∃ a xs, vs = [.ref a] ∧ SqL K H1 a xs ∧ R (Ite K a) H1
theorem k_iEnum {R : It → Hp → Prop} (q : ta σ H fun vs H1 => rEnum K vs H1 R) : iEnum K ta σ H R := q
theorem k_enumx {a : Addr} {xs : List V} {R : It → Hp → Prop} (h : SqL K H a xs) (q : R (Ite K a) H) : rEnum K [.ref a] H R := ⟨a, xs, rfl, h, q⟩
end
/-! the written part by its name, in comprehensions too -/
section
variable {X : Cx} {K : PySem.W.Frag}
theorem callK {f : Value} {r : PySem.W.Frag → List V → Hp → VK → Prop} (h : X.K = K) (c : CallR X f (r X.K)) : CallR X f (r K) := h ▸ c
theorem pe_fldK {e : Expr} {ta : TE} {f : Str} {pos : Pos} (h : X.K = K) (he : PE X e ta) (hb : attributeBase e f X.env (eval e X.env) = eval e X.env) : PE X (.Attribute e f pos) (tFld K ta f) := h ▸ pe_fld he hb
theorem pe_bm0K {T id : String} {name : Str} {o : Expr} {to : TE} {r : V → List V → Hp → VK → Prop} {apos cpos : Pos} (h : X.K = K) (pa : PlainAttrs T) (slot : Slot T name id) (hty : typeOf (.builtin id) = pure (.type "method_descriptor")) (hm : MtR X id r) (ho : PE X o to)
    (hbase : attributeBase o name X.env (eval o X.env) = eval o X.env := by rfl) (hline : (apos.endLine == cpos.line) = true := by rfl) : PE X (.Call (.Attribute o name apos) [] [] cpos) (tBM0 K T r to) := h ▸ pe_bm0 pa slot hty hm ho hbase hline
theorem pe_bmK {T id : String} {name : Str} {o e : Expr} {es : List Expr} {to : TE} {t : TA} {r : V → List V → Hp → VK → Prop} {apos cpos : Pos} (h : X.K = K) (pa : PlainAttrs T) (slot : Slot T name id) (hty : typeOf (.builtin id) = pure (.type "method_descriptor")) (hm : MtR X id r) (ho : PE X o to) (ha : PA X (e :: es) t)
    (hbase : attributeBase o name X.env (eval o X.env) = eval o X.env := by rfl)
    (hfew : ((backTo cpos (starEach (e :: es) X.env)).all (fun x => !x.1) && (backToKw cpos (keywordEach [] X.env)).all (fun x => x.1.isSome)
      && decide ((e :: es).length + ([] : List Keyword).length + (if ([] : List Keyword).isEmpty then 0 else 1) < 30)) = true := by rfl)
    (hline : (apos.endLine == cpos.line) = true := by rfl) (hs : starEach (e :: es) X.env = (false, eval e X.env) :: starEach es X.env := by rfl) (hplain : (backTo cpos (starEach es X.env)).any (·.1) = false := by rfl) :
    PE X (.Call (.Attribute o name apos) (e :: es) [] cpos) (tBM K T r to t) := h ▸ pe_bm pa slot hty hm ho ha hbase hfew hline hs hplain
end
/-! X(e).f, X an exception with a field -/
section
variable {X : Cx} {e : Expr} {t : L2.St → Hp → XK → Prop} {C : Addr} {f : Str} {pos : Pos}
def tMkF (C : Addr) (f : Str) (t : L2.St → Hp → XK → Prop) : TE := fun σ H Q => t σ H fun cls d H1 => ∃ (dd : Addr) (fs : List (Str × V)) (v : V), cls = .ref C ∧ d = some dd ∧ H1 dd = some (.xd fs) ∧ fs.lookup f = some v ∧ Q v H1
theorem pe_mkF (T : XfC X.K C) (hno : PySem.W.findIn X.K (.ref C) f = some none) (he : PMk X e t) (hb : attributeBase e f X.env (eval e X.env) = eval e X.env := by rfl) : PE X (.Attribute e f pos) (tMkF C f t) := by
  refine ⟨fun pins s σ H Q I h => ?_⟩
  refine attr_of hb (thn (he pins s σ H _ I h) fun u s1 hh => ?_)
  obtain ⟨a, oe, vs, sI, H1, cls, d, ex, J, k, hne, ha, hz, hd, h1, na, os, ag, r, dd, fs, v, ec, ed, ea, l, q⟩ := hh
  subst ex
  subst ec
  subst ed
  have J2 := J.kept (h' := s1.heap) (t' := s1.toks) k
  have I1 : Inv X pins σ H1 s1 := ⟨J2.ok, os.trans J2.os, ag, J2.base, J2.loc, J2.cell, J2.free, J2.freeC, J2.pin, J2.hok, J2.len⟩
  have hx : ObjOk X.prog X.w H1 s1.heap dd (.xd fs) := I1.hok dd _ ea
  obtain ⟨mA, hns, hr⟩ := hx
  obtain ⟨od, ho, hl⟩ := lookIn_ns hns
  obtain ⟨u, hu, ru⟩ := RelO.some_of (v := v) (o := mA f) (by rw [← l]; exact hr f)
  have J : PySem.W.InstAt s1.heap a oe C (some od) := ⟨ha, hz.1, by unfold PySem.W.notCls; rw [hd] <;> rfl, by rw [hz.2]; exact ho⟩
  exact HandSPX.exc_get I1.kIn J T.ga T.gg T.exC (PySem.W.findObj_own T.hdC hno rfl (by rw [hl, hu])) (handed_of ru) ⟨v, H1, I1.tok _, ru, q⟩
theorem k_mkF {sp : Sp} {ta : TA} {σ : L2.St} {H : Hp} {Q : VK} (q : ta σ H fun vs H1 => rMkO C sp vs H1 fun cls d H1 => ∃ (dd : Addr) (fs : List (Str × V)) (v : V), cls = .ref C ∧ d = some dd ∧ H1 dd = some (.xd fs) ∧ fs.lookup f = some v ∧ Q v H1) : tMkF C f (tMkO C sp [] ta) σ H Q := q
theorem k_mkFx {v : V} {H1 : Hp} {Q : VK} (k : ∀ H2, Same H1 H2 → Q v H2) : rMkO C (spXI C f) [v] H1 fun cls d H1 => ∃ (dd : Addr) (fs : List (Str × V)) (v : V), cls = .ref C ∧ d = some dd ∧ H1 dd = some (.xd fs) ∧ fs.lookup f = some v ∧ Q v H1 :=
  k_mkx fun d H2 _ s hd => ⟨d, _, v, rfl, rfl, hd, by simp [List.lookup], k H2 s⟩
/-- tuples of ints, < -/
theorem op_ltTK {K : PySem.W.Frag} {k : Nat} (h : X.K = K) (hr : Room k X.A) : OpR X (compareOp .Lt) (rLtT K) := h ▸ op_ltT (by have := hr.units; omega)
theorem k_ltT {K : PySem.W.Frag} {H : Hp} {Q : VK} {a b : Addr} {ns ms : List Int} (ha : SqT K H a (ns.map V.int)) (hb : SqT K H b (ms.map V.int)) (q : Q (.bl (HT.lexLt ns ms)) H) : rLtT K (.ref a) (.ref b) H Q := ⟨a, b, ns, ms, rfl, rfl, ha, hb, q⟩
theorem k_clear {H : Hp} {Q : VK} {l : Addr} {xs : List V} (h : H l = some (.lst xs)) (q : ∀ H', But l H H' → H' l = some (.lst []) → Q .non H') : rClear (.ref l) [] H Q := ⟨l, xs, rfl, rfl, h, q _ But.upd upd_same⟩
end
/-- while, its test by what it gives -/
theorem k_whileT {tc : TT} {tb : TS} {D : Ends} {σ : L2.St} {H : Hp} (P : Nat → L2.St → Hp → Prop) (R : Nat → L2.St → Bool → Hp → Prop) (m : Nat) (h0 : P m σ H) (ht : ∀ m σ H, P m σ H → ∀ Q : Bool → Hp → Prop, (∀ b H', R m σ b H' → Q b H') → tc σ H Q)
    (hb : ∀ m σ H, R m σ true H → tb { D with nx := Less P m, ct := Less P m, bk := D.nx } σ H) (hd : ∀ m σ H, R m σ false H → D.nx σ H) : tWhile tc tb D σ H := k_while P m h0 fun m σ H p => ht m σ H p _ fun b H' r => by
  cases b with
  | true => exact k_ifT (k_wN (hb m σ H' r))
  | false => exact k_ifF (hd m σ H' r)
/-! a tuple and a list walked side by side -/
def Itm (K : PySem.W.Frag) (a b : Addr) : It where
  go i H := ∃ xs ys x y, SqT K H a xs ∧ SqL K H b ys ∧ xs[i]? = some x ∧ ys[i]? = some y
  yld i H v H' := ∃ T x y, v = .ref T ∧ H T = none ∧ H' = upd H T (.tup [x, y]) ∧ (∀ xs, SqT K H a xs → xs[i]? = some x) ∧ ∀ ys, SqL K H b ys → ys[i]? = some y
  stop i H := ∃ xs ys, SqT K H a xs ∧ SqL K H b ys ∧ xs.length = i ∧ ys.length = i
def ZmSt (z TI TO i1 i2 a b : Addr) (i : Nat) (h : Heap) : Prop := IsZip h z TI TO .none ∧ IsTupOf2 h TI (.ref i1) (.ref i2) ∧ (∃ x y, IsTupOf2 h TO x y) ∧ h.IsTupleIter i1 a i ∧ h.IsListIter i2 b i
theorem zm_obj {z TI TO i1 i2 a b : Addr} {i : Nat} {h : Heap} (st : ZmSt z TI TO i1 i2 a b i h) {c : Addr} (hc : c ∈ [z, TI, TO, i1, i2]) : ∃ o, h.get? c = some o ∧ ∀ v, o.data ≠ .cell v := by
  obtain ⟨s1, s2, ⟨_, _, s3⟩, ⟨o4, e4, _, d4⟩, ⟨o5, e5, _, d5⟩⟩ := st
  simp only [List.mem_cons, List.not_mem_nil, or_false] at hc
  rcases hc with rfl | rfl | rfl | rfl | rfl
  · exact ⟨_, s1, fun _ => nofun⟩
  · exact ⟨_, s2, fun _ => nofun⟩
  · exact ⟨_, s3, fun _ => nofun⟩
  · exact ⟨o4, e4, fun _ z => by rw [d4] at z; cases z⟩
  · exact ⟨o5, e5, fun _ z => by rw [d5] at z; cases z⟩
theorem turn_zipM {P : Program} {w : World} {K : PySem.W.Frag} {elts : List Expr} {kk : Nat} {tpos : Pos} {a b z TI TO i1 i2 : Addr} (S : ZipSep2 z TI TO i1 i2 [i1, a] [i2, b]) (ha : a ≠ i1) (hb : b ≠ i2) :
    Turn P w K (.Tuple elts kk tpos) (Itm K a b) [z, TI, TO, i1, i2] z (ZmSt z TI TO i1 i2 a b) where
  mem := by simp
  obj := fun i h st c hc => zm_obj st hc
  keep := fun i h h' st k => ⟨k z (by simp) _ st.1, k TI (by simp) _ st.2.1, (let ⟨x, y, e⟩ := st.2.2.1; ⟨x, y, k TO (by simp) _ e⟩), st.2.2.2.1.at fun o q => k i1 (by simp) o q, st.2.2.2.2.at fun o q => k i2 (by simp) o q⟩
  item := by
    intro X hP hw hK hc i pins s σ H E I hf st hg
    subst hP hw hK
    obtain ⟨xs, ys, x, y, qx, qy, ex, ey⟩ := hg
    obtain ⟨us, ru, pu, _⟩ := I.tuple qx
    obtain ⟨vs, rv, pv, _⟩ := I.list qy
    have hh : X.A.in1.handled = none := I.ok.hd hc
    have lu : i < us.length := by rw [← ru.length]; exact (List.getElem?_eq_some_iff.mp ex).1
    have lv : i < vs.length := by rw [← rv.length]; exact (List.getElem?_eq_some_iff.mp ey).1
    have W := WalksT.zipD2 (prog := X.prog) (w := X.w) (A := X.A) S (Draws.tuple hh i1 a ha us.toArray) (Draws.list hh i2 b hb vs.toArray)
    refine W.item i s _ E (by simp; omega) ⟨st.1, st.2.1, st.2.2.1, ⟨st.2.2.2.1, pu⟩, ⟨st.2.2.2.2, pv.isList⟩⟩ fun T vals h' tk hP hT ht hm hk => ?_
    obtain ⟨u, v, hu, hv, rfl⟩ := hP
    obtain ⟨u', hu', r1⟩ := ru.get ex
    obtain ⟨v', hv', r2⟩ := rv.get ey
    obtain rfl : u' = u := Option.some.inj (hu'.symm.trans (by simpa using hu))
    obtain rfl : v' = v := Option.some.inj (hv'.symm.trans (by simpa using hv))
    refine ⟨.ref T, rfl, W.go elts kk tpos i T { s with heap := h', toks := tk } _ E hm fun h2 st2 hk2 => ?_⟩
    have new : ObjOk X.prog X.w (upd H T (.tup [x, y])) h2 T (.tup [x, y]) := ⟨by show 2 ≤ sizeLine; decide, [u', v'], .cons r1 (.cons r2 .nil), ht.at fun o e => hk2 T o (W.apart i T h' hm) e⟩
    have I1 := I.turnedNew (t' := tk) (ch := [z, TI, TO, i1, i2]) (fun c o n e => hk2 c o (fun q => n (by simp at q ⊢; rcases q with h | h | h | h <;> simp [h])) (hk c o (fun q => n (by simp at q ⊢; rcases q with h | h | h | h <;> simp [h])) e)) hf hT new
    refine ⟨.ref T, _, I1, rfl, ⟨T, x, y, rfl, I.hok.fresh hT, rfl, fun l hl => by rw [I.tuple_inj hl qx]; exact ex, fun l hl => by rw [I.list_inj hl qy]; exact ey⟩, ⟨st2.1, st2.2.1, st2.2.2.1, st2.2.2.2.1.1, st2.2.2.2.2.1⟩, fun c hcm => ?_⟩
    obtain ⟨o, e, _⟩ := zm_obj st hcm
    rw [upd_ne (Nat.ne_of_lt (Nat.lt_of_lt_of_le (Heap.lt_size e) hT))]
    exact (hf c hcm).1
  done := by
    intro X hP hw hK hc i pins s σ H E I hf st hg
    subst hP hw hK
    obtain ⟨xs, ys, qx, qy, ex, ey⟩ := hg
    obtain ⟨us, ru, pu, _⟩ := I.tuple qx
    obtain ⟨vs, rv, pv, _⟩ := I.list qy
    have hh : X.A.in1.handled = none := I.ok.hd hc
    have lu : us.length = i := by rw [← ru.length]; exact ex
    have lv : vs.length = i := by rw [← rv.length]; exact ey
    have W := WalksT.zipD2 (prog := X.prog) (w := X.w) (A := X.A) S (Draws.tuple hh i1 a ha us.toArray) (Draws.list hh i2 b hb vs.toArray)
    rw [show min us.toArray.size vs.toArray.size = i by simp; omega] at W
    exact W.done s _ E ⟨st.1, st.2.1, st.2.2.1, ⟨st.2.2.2.1, pu⟩, ⟨st.2.2.2.2, pv.isList⟩⟩ fun h' tk hk => ⟨rfl, I.turnedL (t' := tk) (ch := [z, TI, TO, i1, i2]) (fun c o n e => hk c o (fun q => n (by simp at q ⊢; rcases q with h | h | h | h <;> simp [h])) e) hf⟩
  self := fun A i s Q E st h => wpAny_pyIter_zip st.1 h
def rZipM (K : PySem.W.Frag) (vs : List V) (H1 : Hp) (R : It → Hp → Prop) : Prop := ∃ a b xs ys, vs = [.ref a, .ref b] ∧ SqT K H1 a xs ∧ SqL K H1 b ys ∧ R (Itm K a b) H1
def iZipM (K : PySem.W.Frag) (ta : TA) : TI := fun σ H R => ta σ H fun vs H1 => rZipM K vs H1 R
theorem pi_zipM {X : Cx} {K : PySem.W.Frag} {e e2 : Expr} {ta : TA} {p pos tpos : Pos} {elts : List Expr} {kk : Nat} (h : X.K = K) (hg : Gl X "zip") (hm : X.mg "zip" = none) (ha : PA X [e, e2] ta)
    (hs : starEach [e, e2] X.env = (false, eval e X.env) :: starEach [e2] X.env := by rfl) (hpl : (backTo pos (starEach [e2] X.env)).any (·.1) = false := by rfl) :
    PI X (.Tuple elts kk tpos) (.Call (.Name "zip" p) [e, e2] [] pos) (iZipM K ta) := by
  subst h
  refine ⟨fun pins s σ H R I h => Call_ (ld_blt I hg hm PyProof.Rows.boot_zip (PyProof.Rows.callWith_type1 (thn (ha.run pos pins s σ H _ I h) fun us s1 z => ?_) hs hpl))⟩
  obtain ⟨vs, H1, I1, r1, a, b, xs, ys, rfl, qx, qy, q⟩ := z
  cases r1 with
  | cons ra rr =>
    obtain ⟨ub, rfl, rb⟩ := vals1 rr
    cases ra
    cases rb
    obtain ⟨us, ru, pu, _⟩ := I1.tuple qx
    obtain ⟨vs, rv, pv, _⟩ := I1.list qy
    have la : a < s1.heap.objs.size := by obtain ⟨_, e, _⟩ := id pu; exact Heap.lt_size e
    refine zip_begins2 (begins_tuple a us.toArray) (begins_list b vs.toArray) pu pv.isList fun h' hz hTI hTO g1 g2 hsz hk => wpAny_pyIter_zip hz ?_
    have S := zip_sep2 (N := s1.heap.objs.size) (fp1 := [a]) (fp2 := [b]) (fun c hc => by rw [List.mem_singleton.mp hc]; exact la) (fun c hc => by rw [List.mem_singleton.mp hc]; exact pv.lt)
    refine ⟨_, _, _, _, H1, rfl, I1.kept (t' := s1.toks) hk, turn_zipM S (Nat.ne_of_lt la) (Nat.ne_of_lt (Nat.lt_succ_of_lt pv.lt)), ⟨hz, hTI, ⟨_, _, hTO⟩, ⟨_, g1, rfl, rfl⟩, ⟨_, g2, rfl, rfl⟩⟩, fun c hc => ?_, q⟩
    have hle : s1.heap.objs.size ≤ c := by
      simp only [List.mem_cons, List.not_mem_nil, or_false] at hc
      rcases hc with rfl | rfl | rfl | rfl | rfl
      · exact Nat.le_add_right _ 4
      · exact Nat.le_add_right _ 2
      · exact Nat.le_add_right _ 3
      · exact Nat.le_refl _
      · exact Nat.le_add_right _ 1
    exact I1.fpOk hle (I1.hok.fresh hle)
theorem k_iZipM {K : PySem.W.Frag} {ta : TA} {σ : L2.St} {H : Hp} {R : It → Hp → Prop} (q : ta σ H fun vs H1 => rZipM K vs H1 R) : iZipM K ta σ H R := q
theorem k_zipMx {K : PySem.W.Frag} {H : Hp} {R : It → Hp → Prop} {a b : Addr} {xs ys : List V} (hx : SqT K H a xs) (hy : SqL K H b ys) (q : R (Itm K a b) H) : rZipM K [.ref a, .ref b] H R := ⟨a, b, xs, ys, rfl, hx, hy, q⟩
theorem zipM_it {K : PySem.W.Frag} {a b : Addr} {xs ys : List V} (hl : xs.length = ys.length) : PairIt (Itm K a b) xs.length (fun i => xs.getD i .non) (fun i => ys.getD i .non) (fun H => SqT K H a xs ∧ SqL K H b ys) where
  go := fun i H h c => ⟨xs, ys, _, _, h.1, h.2, get_some c, get_some (by omega)⟩
  stop := fun H h => ⟨xs, ys, h.1, h.2, rfl, hl.symm⟩
  yld := fun i H x H' h c ⟨T, y, z, e, hT, eH, hy, hz⟩ => ⟨T, e, hT, by
    have e1 := hy xs h.1
    have e2 := hz ys h.2
    rw [get_some c] at e1
    rw [get_some (by omega)] at e2
    rw [eH, Option.some.inj e1, Option.some.inj e2]⟩
/-! a list and a tuple walked side by side -/
def Itn (K : PySem.W.Frag) (a b : Addr) : It where
  go i H := ∃ xs ys x y, SqL K H a xs ∧ SqT K H b ys ∧ xs[i]? = some x ∧ ys[i]? = some y
  yld i H v H' := ∃ T x y, v = .ref T ∧ H T = none ∧ H' = upd H T (.tup [x, y]) ∧ (∀ xs, SqL K H a xs → xs[i]? = some x) ∧ ∀ ys, SqT K H b ys → ys[i]? = some y
  stop i H := ∃ xs ys, SqL K H a xs ∧ SqT K H b ys ∧ xs.length = i ∧ ys.length = i
def ZnSt (z TI TO i1 i2 a b : Addr) (i : Nat) (h : Heap) : Prop := IsZip h z TI TO .none ∧ IsTupOf2 h TI (.ref i1) (.ref i2) ∧ (∃ x y, IsTupOf2 h TO x y) ∧ h.IsListIter i1 a i ∧ h.IsTupleIter i2 b i
theorem zn_obj {z TI TO i1 i2 a b : Addr} {i : Nat} {h : Heap} (st : ZnSt z TI TO i1 i2 a b i h) {c : Addr} (hc : c ∈ [z, TI, TO, i1, i2]) : ∃ o, h.get? c = some o ∧ ∀ v, o.data ≠ .cell v := by
  obtain ⟨s1, s2, ⟨_, _, s3⟩, ⟨o4, e4, _, d4⟩, ⟨o5, e5, _, d5⟩⟩ := st
  simp only [List.mem_cons, List.not_mem_nil, or_false] at hc
  rcases hc with rfl | rfl | rfl | rfl | rfl
  · exact ⟨_, s1, fun _ => nofun⟩
  · exact ⟨_, s2, fun _ => nofun⟩
  · exact ⟨_, s3, fun _ => nofun⟩
  · exact ⟨o4, e4, fun _ z => by rw [d4] at z; cases z⟩
  · exact ⟨o5, e5, fun _ z => by rw [d5] at z; cases z⟩
theorem turn_zipN {P : Program} {w : World} {K : PySem.W.Frag} {elts : List Expr} {kk : Nat} {tpos : Pos} {a b z TI TO i1 i2 : Addr} (S : ZipSep2 z TI TO i1 i2 [i1, a] [i2, b]) (ha : a ≠ i1) (hb : b ≠ i2) :
    Turn P w K (.Tuple elts kk tpos) (Itn K a b) [z, TI, TO, i1, i2] z (ZnSt z TI TO i1 i2 a b) where
  mem := by simp
  obj := fun i h st c hc => zn_obj st hc
  keep := fun i h h' st k => ⟨k z (by simp) _ st.1, k TI (by simp) _ st.2.1, (let ⟨x, y, e⟩ := st.2.2.1; ⟨x, y, k TO (by simp) _ e⟩), st.2.2.2.1.at fun o q => k i1 (by simp) o q, st.2.2.2.2.at fun o q => k i2 (by simp) o q⟩
  item := by
    intro X hP hw hK hc i pins s σ H E I hf st hg
    subst hP hw hK
    obtain ⟨xs, ys, x, y, qx, qy, ex, ey⟩ := hg
    obtain ⟨us, ru, pu, _⟩ := I.list qx
    obtain ⟨vs, rv, pv, _⟩ := I.tuple qy
    have hh : X.A.in1.handled = none := I.ok.hd hc
    have lu : i < us.length := by rw [← ru.length]; exact (List.getElem?_eq_some_iff.mp ex).1
    have lv : i < vs.length := by rw [← rv.length]; exact (List.getElem?_eq_some_iff.mp ey).1
    have W := WalksT.zipD2 (prog := X.prog) (w := X.w) (A := X.A) S (Draws.list hh i1 a ha us.toArray) (Draws.tuple hh i2 b hb vs.toArray)
    refine W.item i s _ E (by simp; omega) ⟨st.1, st.2.1, st.2.2.1, ⟨st.2.2.2.1, pu.isList⟩, ⟨st.2.2.2.2, pv⟩⟩ fun T vals h' tk hP hT ht hm hk => ?_
    obtain ⟨u, v, hu, hv, rfl⟩ := hP
    obtain ⟨u', hu', r1⟩ := ru.get ex
    obtain ⟨v', hv', r2⟩ := rv.get ey
    obtain rfl : u' = u := Option.some.inj (hu'.symm.trans (by simpa using hu))
    obtain rfl : v' = v := Option.some.inj (hv'.symm.trans (by simpa using hv))
    refine ⟨.ref T, rfl, W.go elts kk tpos i T { s with heap := h', toks := tk } _ E hm fun h2 st2 hk2 => ?_⟩
    have new : ObjOk X.prog X.w (upd H T (.tup [x, y])) h2 T (.tup [x, y]) := ⟨by show 2 ≤ sizeLine; decide, [u', v'], .cons r1 (.cons r2 .nil), ht.at fun o e => hk2 T o (W.apart i T h' hm) e⟩
    have I1 := I.turnedNew (t' := tk) (ch := [z, TI, TO, i1, i2]) (fun c o n e => hk2 c o (fun q => n (by simp at q ⊢; rcases q with h | h | h | h <;> simp [h])) (hk c o (fun q => n (by simp at q ⊢; rcases q with h | h | h | h <;> simp [h])) e)) hf hT new
    refine ⟨.ref T, _, I1, rfl, ⟨T, x, y, rfl, I.hok.fresh hT, rfl, fun l hl => by rw [I.list_inj hl qx]; exact ex, fun l hl => by rw [I.tuple_inj hl qy]; exact ey⟩, ⟨st2.1, st2.2.1, st2.2.2.1, st2.2.2.2.1.1, st2.2.2.2.2.1⟩, fun c hcm => ?_⟩
    obtain ⟨o, e, _⟩ := zn_obj st hcm
    rw [upd_ne (Nat.ne_of_lt (Nat.lt_of_lt_of_le (Heap.lt_size e) hT))]
    exact (hf c hcm).1
  done := by
    intro X hP hw hK hc i pins s σ H E I hf st hg
    subst hP hw hK
    obtain ⟨xs, ys, qx, qy, ex, ey⟩ := hg
    obtain ⟨us, ru, pu, _⟩ := I.list qx
    obtain ⟨vs, rv, pv, _⟩ := I.tuple qy
    have hh : X.A.in1.handled = none := I.ok.hd hc
    have lu : us.length = i := by rw [← ru.length]; exact ex
    have lv : vs.length = i := by rw [← rv.length]; exact ey
    have W := WalksT.zipD2 (prog := X.prog) (w := X.w) (A := X.A) S (Draws.list hh i1 a ha us.toArray) (Draws.tuple hh i2 b hb vs.toArray)
    rw [show min us.toArray.size vs.toArray.size = i by simp; omega] at W
    exact W.done s _ E ⟨st.1, st.2.1, st.2.2.1, ⟨st.2.2.2.1, pu.isList⟩, ⟨st.2.2.2.2, pv⟩⟩ fun h' tk hk => ⟨rfl, I.turnedL (t' := tk) (ch := [z, TI, TO, i1, i2]) (fun c o n e => hk c o (fun q => n (by simp at q ⊢; rcases q with h | h | h | h <;> simp [h])) e) hf⟩
  self := fun A i s Q E st h => wpAny_pyIter_zip st.1 h
def rZipN (K : PySem.W.Frag) (vs : List V) (H1 : Hp) (R : It → Hp → Prop) : Prop := ∃ a b xs ys, vs = [.ref a, .ref b] ∧ SqL K H1 a xs ∧ SqT K H1 b ys ∧ R (Itn K a b) H1
def iZipN (K : PySem.W.Frag) (ta : TA) : TI := fun σ H R => ta σ H fun vs H1 => rZipN K vs H1 R
theorem pi_zipN {X : Cx} {K : PySem.W.Frag} {e e2 : Expr} {ta : TA} {p pos tpos : Pos} {elts : List Expr} {kk : Nat} (h : X.K = K) (hg : Gl X "zip") (hm : X.mg "zip" = none) (ha : PA X [e, e2] ta)
    (hs : starEach [e, e2] X.env = (false, eval e X.env) :: starEach [e2] X.env := by rfl) (hpl : (backTo pos (starEach [e2] X.env)).any (·.1) = false := by rfl) :
    PI X (.Tuple elts kk tpos) (.Call (.Name "zip" p) [e, e2] [] pos) (iZipN K ta) := by
  subst h
  refine ⟨fun pins s σ H R I h => Call_ (ld_blt I hg hm PyProof.Rows.boot_zip (PyProof.Rows.callWith_type1 (thn (ha.run pos pins s σ H _ I h) fun us s1 z => ?_) hs hpl))⟩
  obtain ⟨vs, H1, I1, r1, a, b, xs, ys, rfl, qx, qy, q⟩ := z
  cases r1 with
  | cons ra rr =>
    obtain ⟨ub, rfl, rb⟩ := vals1 rr
    cases ra
    cases rb
    obtain ⟨us, ru, pu, _⟩ := I1.list qx
    obtain ⟨vs, rv, pv, _⟩ := I1.tuple qy
    have lb : b < s1.heap.objs.size := by obtain ⟨_, e, _⟩ := id pv; exact Heap.lt_size e
    refine zip_begins2 (begins_list a us.toArray) (begins_tuple b vs.toArray) pu.isList pv fun h' hz hTI hTO g1 g2 hsz hk => wpAny_pyIter_zip hz ?_
    have S := zip_sep2 (N := s1.heap.objs.size) (fp1 := [a]) (fp2 := [b]) (fun c hc => by rw [List.mem_singleton.mp hc]; exact pu.lt) (fun c hc => by rw [List.mem_singleton.mp hc]; exact lb)
    refine ⟨_, _, _, _, H1, rfl, I1.kept (t' := s1.toks) hk, turn_zipN S (Nat.ne_of_lt pu.lt) (Nat.ne_of_lt (Nat.lt_succ_of_lt lb)), ⟨hz, hTI, ⟨_, _, hTO⟩, ⟨_, g1, rfl, rfl⟩, ⟨_, g2, rfl, rfl⟩⟩, fun c hc => ?_, q⟩
    have hle : s1.heap.objs.size ≤ c := by
      simp only [List.mem_cons, List.not_mem_nil, or_false] at hc
      rcases hc with rfl | rfl | rfl | rfl | rfl
      · exact Nat.le_add_right _ 4
      · exact Nat.le_add_right _ 2
      · exact Nat.le_add_right _ 3
      · exact Nat.le_refl _
      · exact Nat.le_add_right _ 1
    exact I1.fpOk hle (I1.hok.fresh hle)
theorem k_iZipN {K : PySem.W.Frag} {ta : TA} {σ : L2.St} {H : Hp} {R : It → Hp → Prop} (q : ta σ H fun vs H1 => rZipN K vs H1 R) : iZipN K ta σ H R := q
theorem k_zipNx {K : PySem.W.Frag} {H : Hp} {R : It → Hp → Prop} {a b : Addr} {xs ys : List V} (hx : SqL K H a xs) (hy : SqT K H b ys) (q : R (Itn K a b) H) : rZipN K [.ref a, .ref b] H R := ⟨a, b, xs, ys, rfl, hx, hy, q⟩
theorem zipN_it {K : PySem.W.Frag} {a b : Addr} {xs ys : List V} (hl : xs.length = ys.length) : PairIt (Itn K a b) xs.length (fun i => xs.getD i .non) (fun i => ys.getD i .non) (fun H => SqL K H a xs ∧ SqT K H b ys) where
  go := fun i H h c => ⟨xs, ys, _, _, h.1, h.2, get_some c, get_some (by omega)⟩
  stop := fun H h => ⟨xs, ys, h.1, h.2, rfl, hl.symm⟩
  yld := fun i H x H' h c ⟨T, y, z, e, hT, eH, hy, hz⟩ => ⟨T, e, hT, by
    have e1 := hy xs h.1
    have e2 := hz ys h.2
    rw [get_some c] at e1
    rw [get_some (by omega)] at e2
    rw [eH, Option.some.inj e1, Option.some.inj e2]⟩
/-! a tuple made of a list, known to be bare; its count -/
def SqF (H : Hp) (a : Addr) (xs : List V) : Prop := ∃ o, H a = some (.frz o (.tup xs)) ∧ o.dict = none
theorem SqF.sq {K : PySem.W.Frag} {H : Hp} {a : Addr} {xs : List V} (h : SqF H a xs) : SqT K H a xs := let ⟨o, e, _⟩ := h; .inl (.inr ⟨o, e⟩)
theorem SqF.same {H H' : Hp} (e : Same H H') {a : Addr} {xs : List V} (h : SqF H a xs) : SqF H' a xs := let ⟨o, g, d⟩ := h; ⟨o, e _ _ g, d⟩
theorem SqF.but {H H' : Hp} {l : Addr} {ys : List V} (e : But l H H') (hl : H l = some (.lst ys)) {a : Addr} {xs : List V} (h : SqF H a xs) : SqF H' a xs := let ⟨o, g, d⟩ := h; ⟨o, e _ _ (ne_of g hl (by intro z; cases z)) g, d⟩
def rTupF (K : PySem.W.Frag) : List V → Hp → VK → Prop := fun xs H Q => ∃ p ys, xs = [.ref p] ∧ SqL K H p ys ∧ ∀ l o, H l = none → o.dict = none → Q (.ref l) (upd H l (.frz o (.tup ys)))
theorem call_tupF {X : Cx} : CallR X (.type "tuple") (rTupF X.K) := by
  rintro pins s σ H xs us Q I r ⟨p, ys, rfl, hq, q⟩
  obtain ⟨u, rfl, rx⟩ := vals1 r
  cases rx
  obtain ⟨its, ri, pl, hz⟩ := I.list hq
  have hlen := ri.length
  refine call_tuple_list pl.isList (fun h' kp => ?_) (by simp only [List.size_toArray]; omega)
  have I1 := I.kept (t' := s.toks) kp
  have e := Heap.get?_push_size h' (o := { cls := .type "tuple", data := .seq its.toArray }) rfl
  exact ⟨.ref h'.objs.size, _, I1.laid (t' := s.toks) (fun b o e => Heap.get?_push_of_some _ e) (Nat.le_refl _) (show ObjOk X.prog X.w _ _ _ (.frz _ (.tup ys)) from ⟨e, hz, its, ri, IsTup.new _ _⟩), rfl, q _ _ (I1.hok.fresh (Nat.le_refl _)) rfl⟩
def rTupV (K : PySem.W.Frag) : List V → Hp → VK → Prop := fun xs H Q => rTupU K xs H Q ∨ rTupF K xs H Q
theorem call_tupV {X : Cx} : CallR X (.type "tuple") (rTupV X.K) := fun pins s σ H xs us Q I r h => h.elim (call_tupU pins s σ H xs us Q I r) (call_tupF pins s σ H xs us Q I r)
theorem k_tupF {K : PySem.W.Frag} {H : Hp} {Q : VK} {p : Addr} {xs : List V} (h : SqL K H p xs) (q : ∀ l H', H l = none → Same H H' → SqF H' l xs → Q (.ref l) H') : rTupV K [.ref p] H Q := .inr ⟨p, xs, rfl, h, fun l o hl d => q l _ hl (same_new hl) ⟨o, upd_same, d⟩⟩
theorem k_tupL {K : PySem.W.Frag} {H : Hp} {Q : VK} {p : Addr} {xs : List V} (h : SqL K H p xs) (q : ∀ l H', H l = none → Same H H' → H' l = some (.tup xs) → Q (.ref l) H') : rTupV K [.ref p] H Q := .inl ⟨p, xs, rfl, .inl ⟨h, fun l hl => q l _ hl (same_new hl) upd_same⟩⟩
theorem k_tupT {K : PySem.W.Frag} {H : Hp} {Q : VK} {p : Addr} {xs : List V} (h : SqT K H p xs) (q : Q (.ref p) H) : rTupV K [.ref p] H Q := .inl ⟨p, xs, rfl, .inr ⟨h, q⟩⟩
def rCntT (K : PySem.W.Frag) (x y : V) (H : Hp) (Q : VK) : Prop := ∃ p xs d ds, x = .ref p ∧ SqT K H p xs ∧ DpAll K H xs ds ∧ Dp K H y d ∧ PyData.plainAll ds = true ∧ d.plain = true ∧ PyData.depthAll ds ≤ 32 ∧ Q (.int ((ds.countP fun z => PyData.eqv z d : Nat) : Int)) H
def rBare (x : V) (H : Hp) (P : Prop) : Prop := (∃ p xs, x = .ref p ∧ SqF H p xs) ∧ P
def tCntT (K : PySem.W.Frag) (to te : TE) : TE := fun σ H Q => to σ H fun x H1 => rBare x H1 (te σ H1 fun y H2 => rCntT K x y H2 Q)
theorem pe_cntT {X : Cx} {K : PySem.W.Frag} {k : Nat} {o e : Expr} {to te : TE} {apos cpos : Pos} (h : X.K = K) (hr : Room k X.A) (ho : PE X o to) (he : PE X e te)
    (hb : attributeBase o "count" X.env (eval o X.env) = eval o X.env := by rfl)
    (hw : ((backTo cpos (starEach [e] X.env)).all (fun x => !x.1) && (backToKw cpos (keywordEach [] X.env)).all (fun x => x.1.isSome) && decide ([e].length + ([] : List Keyword).length + (if ([] : List Keyword).isEmpty then 0 else 1) < 30)) = true := by rfl)
    (hn : (apos.endLine == cpos.line) = true := by rfl) (hs : starEach [e] X.env = (false, eval e X.env) :: starEach [] X.env := by rfl) :
    PE X (.Call (.Attribute o "count" apos) [e] [] cpos) (tCntT K to te) := by
  subst h
  refine ⟨fun pins s σ H Q I h => wpAny_Call_method_late hb hw hn rfl (thn (ho.run pins s σ H _ I h) fun v s1 z => ?_)⟩
  obtain ⟨x, H1, I1, r1, ⟨p, xs, rfl, ob, ep, dn⟩, q⟩ := z
  cases r1
  obtain ⟨hp, _, its, _, o2, e2, c2, _⟩ := I1.hok p _ ep
  obtain rfl : ob = o2 := Option.some.inj (hp.symm.trans e2)
  refine ⟨"tuple", "tuple.count", PySem.F.plainAttrs_tuple, PySem.F.slot_tuple_count, PySem.F.type_tuple_count, ⟨_, hp, c2⟩, fun a ea => ?_, ?_⟩
  · cases ea
    exact ⟨_, hp, dn⟩
  rw [hs]
  refine Calls.callWith_builtin rfl (Calls.evalArgs_plain (Calls.spliced_cons (thn (he.run pins s1 σ H1 _ I1 q) fun u s2 z => Calls.spliced_nil ?_)))
  obtain ⟨y, H2, I2, r2, p2, ys, d, ds, ex, hq, da, dy, pl, pd, dp, q2⟩ := z
  cases ex
  obtain ⟨vs, rv, pt, _⟩ := I2.tuple hq
  obtain ⟨as, h4⟩ := Dp.readsAll I2 ds _ vs da rv
  obtain ⟨bs, h5⟩ := Dp.reads I2 d y u dy r2
  exact PySem.SeqAt.count_tuple_data pt (show ReadsAll s2.heap vs.toArray.toList ds as from h4) h5 pl pd (by have := hr.units; omega) ⟨.int ((ds.countP fun z => PyData.eqv z d : Nat) : Int), H2, I2.tok _, ⟨_, rfl⟩, q2⟩
theorem k_cntT {K : PySem.W.Frag} {to te : TE} {σ : L2.St} {H : Hp} {Q : VK} (q : to σ H fun x H1 => rBare x H1 (te σ H1 fun y H2 => rCntT K x y H2 Q)) : tCntT K to te σ H Q := q
theorem k_bare {p : Addr} {xs : List V} {H : Hp} {P : Prop} (h : SqF H p xs) (q : P) : rBare (.ref p) H P := ⟨⟨p, xs, rfl, h⟩, q⟩
theorem k_cntTx {K : PySem.W.Frag} {H : Hp} {Q : VK} {p : Addr} {xs : List V} {y : V} {d : PyData} {ds : List PyData} (hq : SqT K H p xs) (da : DpAll K H xs ds) (dy : Dp K H y d) (pl : PyData.plainAll ds = true) (pd : d.plain = true) (dp : PyData.depthAll ds ≤ 32)
    (q : Q (.int ((ds.countP fun z => PyData.eqv z d : Nat) : Int)) H) : rCntT K (.ref p) y H Q := ⟨p, xs, d, ds, rfl, hq, da, dy, pl, pd, dp, q⟩
/-! sorted, insert -/
def rSortU (K : PySem.W.Frag) : List V → Hp → VK → Prop := rSorted K
theorem k_sorted {K : PySem.W.Frag} {H : Hp} {Q : VK} {a : Addr} {ns : List Int} (h : SqL K H a (ns.map V.int)) (c : ns.length < 64) (q : ∀ (ms : List Int) p H', H p = none → Same H H' → ms.Perm ns → ms.Pairwise (· ≤ ·) → H' p = some (.lst (ms.map V.int)) → Q (.ref p) H') : rSorted K [.ref a] H Q :=
  ⟨a, ns, rfl, h, c, fun ms p pm pw hp => q ms p _ hp (same_new hp) pm pw upd_same⟩
def rIns : V → List V → Hp → VK → Prop := fun x vs H Q => ∃ (l : Addr) (xs : List V) (i : Int) (y : V), x = .ref l ∧ vs = [.int i, y] ∧ H l = some (.lst xs) ∧ xs.length < sizeLine ∧ 0 ≤ i ∧ i < 2 ^ 63 ∧ Q .non (upd H l (.lst (xs.take i.toNat ++ [y] ++ xs.drop i.toNat)))
theorem mt_insU {X : Cx} : MtR X "list.insert" rIns := mt_insert
theorem k_ins {l : Addr} {xs : List V} {i : Int} {y : V} {H : Hp} {Q : VK} (h : H l = some (.lst xs)) (c : xs.length < sizeLine) (i0 : 0 ≤ i) (i1 : i < 2 ^ 63) (q : ∀ H', But l H H' → H' l = some (.lst (xs.take i.toNat ++ [y] ++ xs.drop i.toNat)) → Q .non H') : rIns (.ref l) [.int i, y] H Q := ⟨l, xs, i, y, rfl, rfl, h, c, i0, i1, q _ But.upd upd_same⟩
theorem pmkOK {X : Cx} {K : PySem.W.Frag} {e : Expr} {es : List Expr} {ta : TA} {p pos : Pos} {x : Str} {ps : List Str} {sp : Sp} {j k : Nat} (hK : X.K = K) (c : XCl X.prog X.w K X.mg X.base k x ps sp) (hr : Room j X.A) (hk : k + 1 ≤ j) (ha : PA X (e :: es) ta) (hg : Gl X x := by rfl)
    (hdb : (x == ("__debug__" : Str)) = false := by decide) (hs : starEach (e :: es) X.env = (false, eval e X.env) :: starEach es X.env := by rfl) (hpl : (backTo pos (starEach es X.env)).any (·.1) = false := by rfl) :
    PMk X (.Call (.Name x p) (e :: es) [] pos) (tMkO (He.ga K x) sp [] ta) := by
  subst hK
  exact pmkO c hr hk ha hg hdb hs hpl
/-! the head's hook: what the names reach, the interpreter's statics (a class's own attributes are read by them), and a word more -/
def reachS (g : Addr → Option Obj) (n : Nat) : List Addr := He.asD g n ++ [PySem.cStatics]
def obsS (n : Nat) (fa : List He.Fa) (fn : List He.DefD) (ex : PySem.W.Frag → Bool) (g : Addr → Option Obj) : He.AlD × Bool := (He.obsD fa fn (He.frT g (reachS g n)), ex (He.frT g (reachS g n)))
def hookS (n : Nat) (fa : List He.Fa) (fn : List He.DefD) (ex : PySem.W.Frag → Bool) : PySem.W.Hook where
  α := He.AlD × Bool
  obs s := obsS n fa fn ex s.heap.get?
  val _ := (He.valD fn, true)
  says _ h := ∃ K : PySem.W.Frag, K.In h ∧ He.SaysD fa fn K ∧ ex K = true
  of _ _ e := ⟨_, He.frT_in, congrArg (fun z : He.AlD × Bool => z.1) e, congrArg (fun z : He.AlD × Bool => z.2) e⟩
  keeps := fun _ _ _ ⟨K, hK, c⟩ k => ⟨K, PySem.W.Frag.In.keeps hK k, c⟩
theorem obsS_eq {n : Nat} {fa : List He.Fa} {fn : List He.DefD} {ex : PySem.W.Frag → Bool} {g : Addr → Option Obj} {s : Shared} (h : ∀ a, g a = s.heap.get? a) : obsS n fa fn ex g = (hookS n fa fn ex).obs s := by
  obtain rfl : g = s.heap.get? := funext h
  rfl
/-- the same, its addresses given -/
def obsA (as : List Addr) (fa : List He.Fa) (fn : List He.DefD) (ex : PySem.W.Frag → Bool) (g : Addr → Option Obj) : He.AlD × Bool := (He.obsD fa fn (He.frT g as), ex (He.frT g as))
def hookA (as : List Addr) (fa : List He.Fa) (fn : List He.DefD) (ex : PySem.W.Frag → Bool) : PySem.W.Hook where
  α := He.AlD × Bool
  obs s := obsA as fa fn ex s.heap.get?
  val _ := (He.valD fn, true)
  says _ h := ∃ K : PySem.W.Frag, K.In h ∧ He.SaysD fa fn K ∧ ex K = true
  of _ _ e := ⟨_, He.frT_in, congrArg (fun z : He.AlD × Bool => z.1) e, congrArg (fun z : He.AlD × Bool => z.2) e⟩
  keeps := fun _ _ _ ⟨K, hK, c⟩ k => ⟨K, PySem.W.Frag.In.keeps hK k, c⟩
theorem obsA_eq {as : List Addr} {fa : List He.Fa} {fn : List He.DefD} {ex : PySem.W.Frag → Bool} {g : Addr → Option Obj} {s : Shared} (h : ∀ a, g a = s.heap.get? a) : obsA as fa fn ex g = (hookA as fa fn ex).obs s := by
  obtain rfl : g = s.heap.get? := funext h
  rfl
/-! is None, of what is known -/
section
variable {A B : Prop} {a : Addr} {x : Str}
theorem k_nonT (h : A) : if decide (V.non = V.non) = true then A else B := by simpa using h
theorem k_nonF (h : B) : if (!decide (V.non = V.non)) = true then A else B := by simpa using h
theorem k_refT (h : B) : if decide (V.ref a = V.non) = true then A else B := by simpa using h
theorem k_refF (h : A) : if (!decide (V.ref a = V.non)) = true then A else B := by simpa using h
theorem k_blT {b : Bool} (h : B) : if decide (V.bl b = V.non) = true then A else B := by simpa using h
theorem k_blF {b : Bool} (h : A) : if (!decide (V.bl b = V.non)) = true then A else B := by simpa using h
theorem k_strT (h : B) : if decide (V.str x = V.non) = true then A else B := by simpa using h
theorem k_strF (h : A) : if (!decide (V.str x = V.non)) = true then A else B := by simpa using h
end
/-! isinstance of instances, popping at a place -/
structure InsT (K : PySem.W.Frag) (C : Addr) : Prop where
  ha : PySem.W.findIn K (.ref C) "__class__" = some (some (.builtin "object.__class__"))
  hn : PySem.W.specialIn K (.builtin "object.__class__") "__get__" = some (some (.builtin "getset_descriptor.__get__"))
  ht : PySem.W.takesIn K (.builtin "object.__class__") = some true
  hm : PySem.W.mroIn K C (.type "object") = some true
def insB (K : PySem.W.Frag) (x : Str) : Bool := He.eqO (PySem.W.findIn K (.ref (He.ga K x)) "__class__") (some (some (.builtin "object.__class__"))) && (He.eqO (PySem.W.specialIn K (.builtin "object.__class__") "__get__") (some (some (.builtin "getset_descriptor.__get__"))) &&
  (decide (PySem.W.takesIn K (.builtin "object.__class__") = some true) && decide (PySem.W.mroIn K (He.ga K x) (.type "object") = some true)))
theorem insB_ok {K : PySem.W.Frag} {x : Str} (h : insB K x = true) : InsT K (He.ga K x) := by
  obtain ⟨h1, h⟩ := He.ba h
  obtain ⟨h2, h⟩ := He.ba h
  obtain ⟨h3, h4⟩ := He.ba h
  exact ⟨He.eqO_ok h1, He.eqO_ok h2, of_decide_eq_true h3, of_decide_eq_true h4⟩
theorem k_isIns {K : PySem.W.Frag} {H : Hp} {Q : VK} {a C D dx : Addr} {fs : List (Str × V)} {b : Bool} (h : H a = some (.ins C dx fs)) (cl : Cls K C) (t : InsT K C) (hk : PySem.W.kitOne K (.ref C) (.ref D) = some b) (q : Q (.bl b) H) : rIsi K [.ref a, .ref D] H Q :=
  k_isi (.own D) (.base (.ins h cl t.ha t.hn t.ht t.hm)) hk q
theorem k_popAt {l : Addr} {xs : List V} {y : V} {j : Nat} {H : Hp} {Q : VK} (h : H l = some (.lst xs)) (hj : xs[j]? = some y) (c : xs.length ≤ 1000000) (q : ∀ H', But l H H' → H' l = some (.lst (xs.eraseIdx j)) → Q y H') : rPopAt (.ref l) [.int (j : Int)] H Q := by
  have hlt := (List.getElem?_eq_some_iff.mp hj).1
  refine ⟨l, xs, (j : Int), j, y, rfl, rfl, h, by omega, by omega, ?_, hj, q _ But.upd upd_same⟩
  unfold seqIndex?
  rw [if_neg (show ¬ ((j : Int) < 0) by omega)]
  simp [hlt]
/-! zip of two lists, of two tuples -/
def rZipU (K : PySem.W.Frag) (vs : List V) (H1 : Hp) (R : It → Hp → Prop) : Prop := ∃ a b xs ys, vs = [.ref a, .ref b] ∧ ((SqL K H1 a xs ∧ SqL K H1 b ys ∧ R (Itz K a b) H1) ∨ (SqT K H1 a xs ∧ SqT K H1 b ys ∧ R (RZ.ItzT K a b) H1))
def iZipU (K : PySem.W.Frag) (ta : TA) : TI := fun σ H R => ta σ H fun vs H1 => rZipU K vs H1 R
theorem pi_zipU {X : Cx} {K : PySem.W.Frag} {e e2 : Expr} {ta : TA} {p pos tpos : Pos} {elts : List Expr} {kk : Nat} (h : X.K = K) (hg : Gl X "zip") (hm : X.mg "zip" = none) (ha : PA X [e, e2] ta)
    (hs : starEach [e, e2] X.env = (false, eval e X.env) :: starEach [e2] X.env := by rfl) (hpl : (backTo pos (starEach [e2] X.env)).any (·.1) = false := by rfl) :
    PI X (.Tuple elts kk tpos) (.Call (.Name "zip" p) [e, e2] [] pos) (iZipU K ta) := h ▸ RZ.pi_zipA hg hm ha hs hpl
theorem k_iZipU {K : PySem.W.Frag} {ta : TA} {σ : L2.St} {H : Hp} {R : It → Hp → Prop} (q : ta σ H fun vs H1 => rZipU K vs H1 R) : iZipU K ta σ H R := q
theorem k_zipLx {K : PySem.W.Frag} {H : Hp} {R : It → Hp → Prop} {a b : Addr} {xs ys : List V} (hx : SqL K H a xs) (hy : SqL K H b ys) (q : R (Itz K a b) H) : rZipU K [.ref a, .ref b] H R := ⟨a, b, xs, ys, rfl, .inl ⟨hx, hy, q⟩⟩
theorem k_zipTx {K : PySem.W.Frag} {H : Hp} {R : It → Hp → Prop} {a b : Addr} {xs ys : List V} (hx : SqT K H a xs) (hy : SqT K H b ys) (q : R (RZ.ItzT K a b) H) : rZipU K [.ref a, .ref b] H R := ⟨a, b, xs, ys, rfl, .inr ⟨hx, hy, q⟩⟩
theorem zipT_it {K : PySem.W.Frag} {a b : Addr} {xs ys : List V} (hl : xs.length = ys.length) : PairIt (RZ.ItzT K a b) xs.length (fun i => xs.getD i .non) (fun i => ys.getD i .non) (fun H => SqT K H a xs ∧ SqT K H b ys) where
  go := fun i H h c => ⟨xs, ys, _, _, h.1, h.2, get_some c, get_some (by omega)⟩
  stop := fun H h => ⟨xs, ys, h.1, h.2, .inl (Nat.le_refl _)⟩
  yld := fun i H x H' h c ⟨T, y, z, e, hT, eH, hy, hz⟩ => ⟨T, e, hT, by
    have e1 := hy xs h.1
    have e2 := hz ys h.2
    rw [get_some c] at e1
    rw [get_some (by omega)] at e2
    rw [eH, Option.some.inj e1, Option.some.inj e2]⟩
/-! texts: walked, cut at a sign, begun by one -/
section
variable {X : Cx} {σ : L2.St} {H : Hp} {Q : VK} {K : PySem.W.Frag} {g : TG} {tt : TT} {te : TE} {vs : List Nat} {tb : TS} {D : Ends}
def rItS (v : V) (H1 : Hp) (R : It → Hp → Prop) : Prop := ∃ x, v = .str x ∧ R (Its x) H1
theorem k_iStr {R : It → Hp → Prop} (q : te σ H fun v H1 => rItS v H1 R) : iStr te σ H R := q
theorem k_itS {x : Str} {R : It → Hp → Prop} (q : R (Its x) H) : rItS (.str x) H R := ⟨x, rfl, q⟩
theorem k_lcS {z : List Nat} (P : Addr → Nat → List V → Hp → Prop) (h0 : ∀ D H', H D = none → Same H H' → H' D = some (.lst []) → P D 0 [] H')
    (hs : ∀ D (i : Nat) c ys H', H D = none → z[i]? = some c → P D i ys H' → H' D = some (.lst ys) → LcB D g tt te vs σ (.str (SX.S [c])) H' fun H'' => ∃ zs, P D (i + 1) zs H'' ∧ H'' D = some (.lst zs))
    (hd : ∀ D ys H', H D = none → P D z.length ys H' → H' D = some (.lst ys) → Q (.ref D) H') : LcX (Its (SX.S z)) g tt te vs σ H Q := fun D hD => by
  refine ⟨fun i m H' => m = z.length - i ∧ i ≤ z.length ∧ ∃ ys, P D i ys H' ∧ H' D = some (.lst ys), ⟨z.length, by simp, Nat.zero_le _, [], h0 D _ hD (same_new hD) upd_same, upd_same⟩, ?_⟩
  rintro i m H' ⟨rfl, hi, ys, p, e⟩
  by_cases c : i < z.length
  · refine .inr ⟨by show i < (SX.S z).cps.size; simpa using c, fun H'' => ∃ zs, P D (i + 1) zs H'' ∧ H'' D = some (.lst zs), fun H2 ⟨zs, q, e2⟩ => ⟨z.length - (i + 1), by omega, rfl, c, zs, q, e2⟩, fun x H2 y => ?_⟩
    obtain ⟨rfl, d, hd, rfl⟩ := y
    exact hs D i d ys H2 hD (by simpa using hd) p e
  · have ei : i = z.length := by omega
    subst ei
    exact .inl ⟨by show (SX.S z).cps.size ≤ _; simp, hd D ys H' hD p e⟩
theorem k_loopS {z : List Nat} (P : Nat → L2.St → Hp → Prop) (h0 : P 0 σ H) (hs : ∀ (i : Nat) c σ H, z[i]? = some c → P i σ H → g (.str (SX.S [c])) σ H fun σ2 H2 => tb { D with nx := P (i + 1), ct := P (i + 1), bk := D.nx } σ2 H2) (hd : ∀ σ H, P z.length σ H → D.nx σ H) : LoopI (Its (SX.S z)) g tb D σ H := by
  refine ⟨fun i m σ' H' => m = z.length - i ∧ i ≤ z.length ∧ P i σ' H', ⟨z.length, by simp, Nat.zero_le _, h0⟩, ?_⟩
  rintro i m σ' H' ⟨rfl, hi, p⟩
  by_cases c : i < z.length
  · refine .inr ⟨by show i < (SX.S z).cps.size; simpa using c, P (i + 1), fun σ2 H2 q => ⟨z.length - (i + 1), by omega, rfl, c, q⟩, fun x H2 y => ?_⟩
    obtain ⟨rfl, d, hd, rfl⟩ := y
    exact hs i d σ' H2 (by simpa using hd) p
  · have ei : i = z.length := by omega
    subst ei
    exact .inl ⟨by show (SX.S z).cps.size ≤ _; simp, hd σ' H' p⟩
def rSplit : V → List V → Hp → VK → Prop := fun x xs H Q => ∃ a b, x = .str a ∧ xs = [.str b] ∧ (b.length == 0) = false ∧ a.length + 2 ≤ sizeLine ∧ rNewStrs (Txt.split a b) H Q
theorem mt_splitU : MtR X "str.split" rSplit := mt_split
theorem k_split {a : List Nat} {c : Nat} (hc : c < 256) (h : a.length + 2 ≤ sizeLine) (q : ∀ p H', H p = none → Same H H' → H' p = some (.lst ((TL.spl [c] 0 [] a).map fun z => V.str (SX.S z))) → Q (.ref p) H') : rSplit (.str (SX.S a)) [.str (SX.S [c])] H Q := by
  refine ⟨_, _, rfl, rfl, rfl, by rw [SX.S_len]; exact h, fun p hp => q p _ hp (same_new hp) ?_⟩
  rw [upd_same, SX.split_S (by simp) (by simp [hc]), List.map_map]
  rfl
def rStarts : V → List V → Hp → VK → Prop := fun x xs H Q => ∃ a b, x = .str a ∧ xs = [.str b] ∧ Q (.bl (Txt.startswith a b)) H
theorem mt_startsU : MtR X "str.startswith" rStarts := mt_startswith
theorem starts_one (a : List Nat) (c : Nat) : Txt.startswith (SX.S a) (SX.S [c]) = decide (a.head? = some c) := by
  rw [Bool.eq_iff_iff, decide_eq_true_eq]
  have h := PySem.StrLaws.subAt_one (SX.S a) c 0
  show (decide (0 + (SX.S [c]).length ≤ (SX.S a).length) && Builtin.Str.subAt (SX.S a) (SX.S [c]) 0) = true ↔ _
  rw [Bool.and_eq_true, decide_eq_true_eq]
  refine Iff.trans h ?_
  show a[0]? = some c ↔ _
  rw [List.head?_eq_getElem?]
theorem k_starts {a : List Nat} {c : Nat} (q : Q (.bl (decide (a.head? = some c))) H) : rStarts (.str (SX.S a)) [.str (SX.S [c])] H Q := ⟨_, _, rfl, rfl, by rw [starts_one]; exact q⟩
theorem k_all {a : Addr} {bs : List Bool} (h : SqL K H a (bs.map V.bl)) (q : Q (.bl (bs.all id)) H) : rAll K [.ref a] H Q := ⟨a, bs, rfl, h, q⟩
theorem k_inC {c : Nat} {a : List Nat} (q : Q (.bl (decide (c ∈ a))) H) : rInU K (.str (SX.S [c])) (.str (SX.S a)) H Q := k_inS (by rw [SX.in_one]; exact q)
theorem k_niC {c : Nat} {a : List Nat} (q : Q (.bl (!decide (c ∈ a))) H) : rNiU K (.str (SX.S [c])) (.str (SX.S a)) H Q := k_niS (by rw [SX.in_one]; exact q)
/-- text slices -/
theorem k_slFrom {a : List Nat} {i : Nat} (c : a.length ≤ sizeLine) (q : Q (.str (SX.S (a.drop i))) H) : rSlU K (.str (SX.S a)) (some (i : Int)) none H Q := k_slS (by rw [C8.cutS_slice, SX.slice_from (by omega)]; exact q) (by rw [SX.S_len]; exact c)
theorem k_slTo {a : List Nat} {i : Nat} (c : a.length ≤ sizeLine) (q : Q (.str (SX.S (a.take i))) H) : rSlU K (.str (SX.S a)) none (some (i : Int)) H Q := k_slS (by rw [C8.cutS_slice, SX.slice_to (by omega)]; exact q) (by rw [SX.S_len]; exact c)
end
/-! how often, and where, a sign stands in a text -/
section
variable {X : Cx} {H : Hp} {Q : VK} {K : PySem.W.Frag}
def rCntS : V → List V → Hp → VK → Prop := fun x xs H Q => ∃ a b, x = .str a ∧ xs = [.str b] ∧ Q (.int (Txt.count a b)) H
theorem mt_cntS : MtR X "str.count" rCntS := mt_count
theorem cnt_is (c : Nat) : ∀ l : List Nat, PyProof.Rows.cnt c l = (l.countP (· == c) : Int)
  | [] => rfl
  | n :: r => by
    rw [PyProof.Rows.cnt_cons, cnt_is c r, List.countP_cons]
    by_cases h : n = c <;> simp [h] <;> omega
theorem k_cntS {a : List Nat} {c : Nat} (q : Q (.int (a.countP (· == c) : Int)) H) : rCntS (.str (SX.S a)) [.str (SX.S [c])] H Q := ⟨_, _, rfl, rfl, by
  have e : Txt.count (SX.S a) (SX.S [c]) = (a.countP (· == c) : Int) := (PyProof.Rows.count_cnt (SX.S a) c).trans (cnt_is c a)
  rw [e]
  exact q⟩
def rIdxS : V → List V → Hp → VK → Prop := fun x xs H Q => ∃ a b i rest, x = .str a ∧ xs = [.str b] ∧ Builtin.Str.occurrences a b 0 a.length 1 = i :: rest ∧ Q (.int (i : Nat)) H
theorem mt_idxS : MtR X "str.index" rIdxS := mt_sindex
theorem fig_occ {c : Nat} (h : 48 ≤ c ∧ c ≤ 57) : Builtin.Str.occurrences (Str.ofString "0123456789") (SX.S [c]) 0 (Str.ofString "0123456789").length 1 = [c - 48] := by
  have k : ∀ d : Fin 10, Builtin.Str.occurrences (Str.ofString "0123456789") (SX.S [48 + d.1]) 0 (Str.ofString "0123456789").length 1 = [d.1] := by decide +kernel
  have := k ⟨c - 48, by omega⟩
  rwa [show 48 + (⟨c - 48, by omega⟩ : Fin 10).1 = c by show 48 + (c - 48) = c; omega] at this
theorem k_idxFig {c : Nat} (h : 48 ≤ c ∧ c ≤ 57) (q : Q (.int ((c - 48 : Nat) : Int)) H) : rIdxS (.str (Str.ofString "0123456789")) [.str (SX.S [c])] H Q := ⟨_, _, _, _, rfl, rfl, fig_occ h, q⟩
end
/-! a dict that is asked for None, too -/
def optIs : Option Key → Value → Bool
  | none, .none => true
  | none, _ => false
  | some k, v => keyIs k v
theorem optIs_none {v : Value} (h : optIs none v = true) : v = .none := by
  cases v <;> first | rfl | exact absurd h Bool.false_ne_true
theorem optIs_some {k : Key} {v : Value} (h : optIs (some k) v = true) : keyIs k v = true := h
theorem key_none {k : Key} (h : keyIs k Value.none = true) : False := by
  rcases keyIs_shape h with ⟨i, t, _, e⟩ | ⟨x, t, _, e⟩ <;> cases e
def optH (w : World) : Option Key → Int
  | none => NestedKey.hash w .none
  | some k => keyH w k
theorem hash_none {prog : Program} {w : World} {A : Around} {E : Value → Shared → Prop} {s : Shared} {Q : Int → Shared → Prop} (h : Q (optH w none) { s with toks := s.toks + 1 }) : wpAny (model prog w) A (pyHash .none) Q E s :=
  PySem.W.pyHash_slot (T := "NoneType") rfl PySem.F.slot_NoneType_hash PySem.F.entry_NoneType_hash (PySem.F.args_NoneType_hash_1 _) (beq_builtin_none _) (.inl rfl) (wpAny_bind (wpAny_pure (wpAny_bind (wpAny_mkInt (wpAny_pure ⟨_, _, rfl, h⟩)))))
theorem eq_opt {prog : Program} {w : World} {A : Around} {E : Value → Shared → Prop} {s : Shared} : ∀ {a b : Option Key} {u v : Value} {Q : Bool → Shared → Prop}, optIs a u = true → optIs b v = true → Q (decide (a = b)) s → wpAny (model prog w) A (PySem.eqBool u v) Q E s
  | none, none, u, v, Q, hu, hv, h => by
    rw [optIs_none hu, optIs_none hv]
    exact SeqAt.EqAt.same _ _ _ _ _ h
  | none, some k, u, v, Q, hu, hv, h => by
    rw [optIs_none hu]
    rcases keyIs_shape (optIs_some hv) with ⟨i, t, _, e⟩ | ⟨x, t, _, e⟩ <;> subst e
    · exact SeqAt.EqAt.none_int i t _ _ _ _ h
    · exact SeqAt.EqAt.none_str x t _ _ _ _ h
  | some k, none, u, v, Q, hu, hv, h => by
    rw [optIs_none hv]
    rcases keyIs_shape (optIs_some hu) with ⟨i, t, _, e⟩ | ⟨x, t, _, e⟩ <;> subst e
    · exact SeqAt.EqAt.int_none i t _ _ _ _ h
    · exact SeqAt.EqAt.str_none x t _ _ _ _ h
  | some a, some b, u, v, Q, hu, hv, h => (mixKind prog w).eqBool (a := a) (b := b) (optIs_some hu) (optIs_some hv) (by
    have e : decide (a = b) = decide (some a = some b) := by by_cases c : a = b <;> simp [c]
    rw [e]
    exact h)
def optKind (prog : Program) (w : World) : PySem.KeyKind prog w (Option Key) where
  is := optIs
  hash := optH w
  inj := fun v a b ha hb => by
    cases a with
    | none =>
      cases b with
      | none => rfl
      | some k => rw [optIs_none ha] at hb; exact (key_none hb).elim
    | some j =>
      cases b with
      | none => rw [optIs_none hb] at ha; exact (key_none ha).elim
      | some k => exact congrArg some ((mixKind prog w).inj v j k ha hb)
  byValue := fun k v h => by
    cases k with
    | none => rw [optIs_none h]; rfl
    | some k => exact (mixKind prog w).byValue k v h
  pyHash := fun {A E s k v Q} hv h => by
    cases k with
    | none => rw [optIs_none hv]; exact hash_none h
    | some k => exact (mixKind prog w).pyHash (k := k) hv h
  eqBool := fun hu hv h => eq_opt hu hv h
  «strs» := fun k x t v h => by
    cases k with
    | none => exact absurd h Bool.false_ne_true
    | some k => exact (mixKind prog w).strs k x t v h
theorem map_opt {prog : Program} {w : World} {h : Heap} {a : Addr} {f : Key → Option Value} (m : h.MapOf (mixKind prog w) a f) : h.MapOf (optKind prog w) a (fun k => k.bind f) := by
  obtain ⟨o, es, ep, ho, hc, hd, hk, hf⟩ := m
  refine ⟨o, es, ep, ho, hc, hd, fun e he => let ⟨k, h1, h2⟩ := hk e he; ⟨some k, h1, h2⟩, fun k => ?_⟩
  cases k with
  | some k => exact hf k
  | none =>
    show findBy optIs es none = none
    unfold findBy
    rw [Array.find?_eq_none.mpr, Option.map_none]
    intro e he q
    obtain ⟨k, h1, _⟩ := hk e he
    rw [optIs_none q] at h1
    exact key_none h1
def rGetN (x y z : V) (H : Hp) (Q : VK) : Prop := ∃ a kvs, x = .ref a ∧ H a = some (.dK kvs) ∧ ((y = .non ∧ Q z H) ∨ ∃ k, y = kV k ∧ Q ((valV kvs k).getD z) H)
def tGetN (td ty tx : TE) : TE := fun σ H Q => td σ H fun x H1 => ∃ a, x = .ref a ∧ IsD H1 a ∧ ty σ H1 fun y H2 => tx σ H2 fun z H3 => rGetN x y z H3 Q
theorem pe_getN {X : Cx} {k : Nat} {o e f : Expr} {td ty tx : TE} {apos cpos : Pos} (hr : Room k X.A) (ho : PE X o td) (he : PE X e ty) (hf : PE X f tx)
    (m1 : attributeBase o "get" X.env (eval o X.env) = eval o X.env := by rfl)
    (m2 : ((backTo cpos (starEach [e, f] X.env)).all (fun x => !x.1) && (backToKw cpos (keywordEach [] X.env)).all (fun x => x.1.isSome) && decide (([e, f] : List Expr).length + ([] : List Keyword).length + (if ([] : List Keyword).isEmpty then 0 else 1) < 30)) = true := by rfl)
    (m3 : (apos.endLine == cpos.line) = true := by rfl) (m4 : backTo cpos (starEach [e, f] X.env) = [(false, eval e X.env), (false, eval f X.env)] := by rfl) :
    PE X (.Call (.Attribute o "get" apos) [e, f] [] cpos) (tGetN td ty tx) := by
  refine ⟨fun pins s σ H Q I h => ?_⟩
  refine wpAny_Call_method m1 m2 m3 PySem.F.plainAttrs_dict PySem.F.slot_dict_get PySem.F.type_dict_get (thn (ho.run pins s σ H _ I h) fun u s1 ⟨x, H1, I1, rx, a, ex, d, q1⟩ => ?_)
  subst ex
  obtain rfl : u = Value.ref a := rx
  obtain ⟨t1, t2, _⟩ := isD_at I1 d
  refine ⟨t1, t2, ?_⟩
  rw [m4]
  refine Calls.callWith_builtin rfl (Calls.evalArgs_plain (Calls.spliced_cons (thn (he.run pins s1 σ H1 _ I1 q1) fun iv s2 ⟨y, H2, I2, ry, q2⟩ =>
    Calls.spliced_cons (thn (hf.run pins s2 σ H2 _ I2 q2) fun fv s3 ⟨z, H3, I3, rz, b, kvs, eb, eh, q3⟩ => Calls.spliced_nil ?_))))
  obtain rfl : a = b := V.ref.inj eb
  rcases q3 with ⟨ey, q3⟩ | ⟨k, ey, q3⟩
  · subst ey
    obtain rfl : iv = Value.none := ry
    obtain ⟨_, hd, vs, _, dd⟩ := dk_rd I3.hok (.inl eh)
    exact call_meetsIn PySem.F.slot_dict_get dd.typeIs PySem.F.entry_dict_get (PySem.F.args_dict_get_3 _ _ _) (meets_dict_get_default (optKind X.prog X.w) (k := none) (key := .none) a rfl hd fv) ⟨_, map_opt dd.mapOf, ⟨z, H3, I3.tok _, rz, q3⟩⟩
  · exact d_get2 (by have := hr.units; omega) I3 (.inl ⟨kvs, k, .inl eh, ey, rfl⟩) ry rz fun w' s4 I4 rw' => ⟨_, H3, I4, rw', q3⟩
theorem k_getN {td ty tx : TE} {σ : L2.St} {H : Hp} {Q : VK} (q : td σ H fun x H1 => ∃ a, x = .ref a ∧ IsD H1 a ∧ ty σ H1 fun y H2 => tx σ H2 fun z H3 => rGetN x y z H3 Q) : tGetN td ty tx σ H Q := q
theorem k_getD {a : Addr} {kvs : List (Key × V)} {H : Hp} {P : Prop} (h : H a = some (.dK kvs)) (q : P) : ∃ b, V.ref a = .ref b ∧ IsD H b ∧ P := ⟨a, rfl, .inl ⟨kvs, .inl h⟩, q⟩
theorem k_getNone {a : Addr} {kvs : List (Key × V)} {z : V} {H : Hp} {Q : VK} (h : H a = some (.dK kvs)) (q : Q z H) : rGetN (.ref a) .non z H Q := ⟨a, kvs, rfl, h, .inl ⟨rfl, q⟩⟩
theorem k_getStr {a : Addr} {kvs : List (Key × V)} {z : V} {t : Str} {H : Hp} {Q : VK} (h : H a = some (.dK kvs)) (q : Q ((valV kvs (.inr t)).getD z) H) : rGetN (.ref a) (.str t) z H Q := ⟨a, kvs, rfl, h, .inr ⟨.inr t, rfl, q⟩⟩
/-- a dict of two pairs, their keys texts -/
def rDisp2 (p : Addr) (x y x2 y2 : V) (H : Hp) (Q : VK) : Prop := H p = some (.dK []) ∧ ∃ kvs : List (Key × V), [(x, y), (x2, y2)] = kvs.map (fun kv => (kV kv.1, kv.2)) ∧ kvs.length ≤ 15 ∧ Q (.ref p) (upd H p (.dK (mergeK [] kvs)))
theorem k_disp2 {σ : L2.St} {H : Hp} {Q : VK} {tk tv tk2 tv2 : TE} (q : ∀ p H1, H p = none → Same H H1 → H1 p = some (.dK []) → tk σ H1 fun x H2 => tv σ H2 fun y H3 => tk2 σ H3 fun x2 H4 => tv2 σ H4 fun y2 H5 => rDisp2 p x y x2 y2 H5 Q) : tDisp [(tk, tv), (tk2, tv2)] σ H Q := fun p hp => q p _ hp (same_new hp) upd_same
theorem k_disp2x {p : Addr} {z z2 : Str} {y y2 : V} {H : Hp} {Q : VK} (h : H p = some (.dK [])) (n : z2 ≠ z) (q : ∀ H', But p H H' → H' p = some (.dK [(.inr z, y), (.inr z2, y2)]) → Q (.ref p) H') : rDisp2 p (.str z) y (.str z2) y2 H Q := ⟨h, [(.inr z, y), (.inr z2, y2)], rfl, by simp, q _ But.upd (by
  have n2 : ¬ z = z2 := fun e => n e.symm
  rw [upd_same]
  simp [mergeK, putK, n2])⟩
theorem k_addG {K : PySem.W.Frag} {H : Hp} {Q : VK} {a b : Addr} {xs ys : List V} (ha : SqL K H a xs) (hb : SqL K H b ys) (q : ∀ p H', H p = none → Same H H' → H' p = some (.lst (xs ++ ys)) → Q (.ref p) H') (c : xs.length + ys.length ≤ sizeLine) : rAddU K (.ref a) (.ref b) H Q :=
  .inr (.inr (.inr (.inr ⟨a, b, xs, ys, rfl, rfl, ha, hb, c, fun p hp => q p _ hp (same_new hp) upd_same⟩)))
/-! C(..) whose __init__ may raise -/
section
variable {X : Cx} {W : WX} {e : Expr} {es : List Expr} {p pos : Pos} {t : TA} {C x : Str} {ps : List Str} {sp : Sp} {j k : Nat}
def tMakeS (C : Addr) (sp : Sp) (E : L2.St → XK) (t : TA) : TE := fun σ H Q => t σ H fun vs H1 => rMake C sp vs H1 Q (E σ)
theorem pmakeS {K : PySem.W.Frag} (hK : X.K = K) (c : KCl X.prog X.w K X.mg X.base k C ps sp) (hr : Room j X.A) (hk : k + 1 ≤ j) (tk : Takes X W) (ha : PA X (e :: es) t) (hg : Gl X C := by rfl)
    (hdb : (C == ("__debug__" : Str)) = false := by decide) (hst : starEach (e :: es) X.env = (false, eval e X.env) :: starEach es X.env := by rfl) (hpl : (backTo pos (starEach es X.env)).any (·.1) = false := by rfl) :
    PE X (.Call (.Name C p) (e :: es) [] pos) (tMakeS (He.ga K C) sp (WE W) t) := by
  subst hK
  obtain ⟨f, fd, M, F, hm, b⟩ := c.ex
  refine ⟨fun pins s σ H Q I h => wpAny_Call_Name_kw (ld_glob I hg hm ?_ hdb)⟩
  refine PySem.W.callWith_K (h₀ := X.base) I.ok.mod.kin M.kp (thn (ha.run pos pins s σ H _ I h) fun us s1 ⟨vs, H1, I1, r, q⟩ => ⟨I1.kIn, ?_⟩) hst hpl
  have q2 := q (s1.heap.objs.size + 1) s1.heap.objs.size (I1.hok.fresh (Nat.le_succ _)) (I1.hok.fresh (Nat.le_refl _)) (Nat.ne_of_lt (Nat.lt_succ_self _))
  have J := Inv.made (C := He.ga X.K C) I1
  have r2 : Vals (V.ref (s1.heap.objs.size + 1) :: vs) (Value.ref (s1.heap.objs.size + 1) :: us) := .cons rfl r
  have hl : (Value.ref (s1.heap.objs.size + 1) :: us).length = ps.length := by
    rw [← r2.length]
    exact F.len _ _ _ _ q2
  have bb := b _ (Value.ref (s1.heap.objs.size + 1) :: us) J.kIn (by rw [List.append_nil]; exact hl)
  rw [List.append_nil] at bb
  refine wpAny_call (make_map (f := f) I1.kIn M.makes M.init (beq_iff_eq.mp M.fn) (codeAny_mono (F.run _ X.stack _ _ ⟨Value.ref (s1.heap.objs.size + 1) :: us, []⟩ _ _ _ _ ((hr.mono hk).make (He.ga X.K C) us []) (J.env0.make (He.ga X.K C) us []) bb r2 q2) fun rr s' z => ?_))
  cases rr with
  | error er => exact passAt tk σ pins _ _ er s' J z
  | ok fl =>
    cases fl with
    | ret u =>
      obtain ⟨v, H', I3, rv, ev, q3⟩ := J.after z
      subst ev
      exact ⟨rv, ⟨V.ref (s1.heap.objs.size + 1), H', I3, rfl, q3⟩⟩
    | next => exact z.elim
    | brk => exact z.elim
    | cont => exact z.elim
theorem k_makeS {σ : L2.St} {H : Hp} {Q : VK} {C : Addr} (q : t σ H fun vs H1 => rMake C sp vs H1 Q (WE W σ)) : tMakeS C sp (WE W) t σ H Q := q
end
/-- tuples stay while an instance changes -/
theorem seqT_butI {K : PySem.W.Frag} {H H' : Hp} {l C dx : Addr} {fs : List (Str × V)} (e : But l H H') (hl : H l = some (.ins C dx fs)) {a : Addr} {xs : List V} (h : SqT K H a xs) : SqT K H' a xs := by
  rcases h with (h | ⟨o, h⟩) | h
  · exact .inl (.inl (e _ _ (ne_of h hl (by intro z; cases z)) h))
  · exact .inl (.inr ⟨o, e _ _ (ne_of h hl (by intro z; cases z)) h⟩)
  · exact .inr h
/-! reversed(range(n)) -/
def rRevR (x : V) (H1 : Hp) (R : It → Hp → Prop) : Prop := ∃ n : Int, x = .int n ∧ (-(2 ^ 62) ≤ (0 : Int) ∧ (0 : Int) < 2 ^ 62 ∧ -(2 ^ 62) ≤ n ∧ n < 2 ^ 62 ∧ R (Itc (0 + (((n - 0).toNat : Nat) : Int) - 1) (-1) (n - 0).toNat) H1)
theorem k_revR {te : TE} {σ : L2.St} {H : Hp} {R : It → Hp → Prop} (q : te σ H fun x H1 => rRevR x H1 R) : iRevR (tRg1 te) σ H R := q
theorem k_revX {n : Nat} {H : Hp} {R : It → Hp → Prop} (c : n < 1000000) (q : R (Itc ((n : Int) - 1) (-1) n) H) : rRevR (.int (n : Int)) H R := by
  refine ⟨n, rfl, by omega, by omega, by omega, by omega, ?_⟩
  rw [Int.sub_zero, Int.toNat_natCast, Int.zero_add]
  exact q
theorem k_loopRev {σ : L2.St} {H : Hp} {D : Ends} {tb : TS} {j n : Nat} (P : Nat → L2.St → Hp → Prop) (h0 : P 0 σ H) (hs : ∀ (i : Nat) σ H, i < n → P i σ H → tb { D with nx := P (i + 1), ct := P (i + 1), bk := D.nx } (σ.set j (some (.int ((n - 1 - i : Nat) : Int)))) H)
    (hd : ∀ σ H, P n σ H → D.nx σ H) : LoopI (Itc ((n : Int) - 1) (-1) n) (gName j) tb D σ H := for_rangeC P h0 (fun i σ H hi p => by
      show tb _ (σ.set j (some (.int ((n : Int) - 1 + (i : Nat) * (-1))))) H
      rw [show (n : Int) - 1 + (i : Nat) * (-1) = ((n - 1 - i : Nat) : Int) by omega]
      exact hs i σ H hi p) hd
/-! a tuple's things, numbered -/
def Iet (K : PySem.W.Frag) (a : Addr) : It where
  go i H := ∃ xs x, SqT K H a xs ∧ xs[i]? = some x
  yld i H v H' := ∃ T x, v = .ref T ∧ H T = none ∧ H' = upd H T (.tup [.int (i : Nat), x]) ∧ ∀ xs, SqT K H a xs → xs[i]? = some x
  stop i H := ∃ xs, SqT K H a xs ∧ xs.length = i
def EtSt (e it a : Addr) (i : Nat) (h : Heap) : Prop := (∃ old, IsEnum h e it (i : Int) old) ∧ h.IsTupleIter it a i ∧ e ≠ it
theorem et_obj {e it a : Addr} {i : Nat} {h : Heap} (st : EtSt e it a i h) {c : Addr} (hc : c ∈ [e, it]) : ∃ o, h.get? c = some o ∧ ∀ v, o.data ≠ .cell v := by
  obtain ⟨⟨_, s1⟩, ⟨o4, e4, _, d4⟩, _⟩ := st
  simp only [List.mem_cons, List.not_mem_nil, or_false] at hc
  rcases hc with rfl | rfl
  · exact ⟨_, s1, fun _ => nofun⟩
  · exact ⟨o4, e4, fun _ z => by rw [d4] at z; cases z⟩
theorem turn_enumT {P : Program} {w : World} {K : PySem.W.Frag} {elts : List Expr} {kk : Nat} {tpos : Pos} {a e it : Addr} (ne : e ≠ it) (nea : e ≠ a) (ha : a ≠ it) :
    Turn P w K (.Tuple elts kk tpos) (Iet K a) [e, it] e (EtSt e it a) where
  mem := by simp
  obj := fun i h st c hc => et_obj st hc
  keep := fun i h h' st k => ⟨(let ⟨old, z⟩ := st.1; ⟨old, k e (by simp) _ z⟩), st.2.1.at fun o q => k it (by simp) o q, st.2.2⟩
  item := by
    intro X hP hw hK hc i pins s σ H E I hf st hg
    subst hP hw hK
    obtain ⟨xs, x, qx, ex⟩ := hg
    obtain ⟨us, ru, pu, _⟩ := I.tuple qx
    have hh : X.A.in1.handled = none := I.ok.hd hc
    have lu : i < us.length := by rw [← ru.length]; exact (List.getElem?_eq_some_iff.mp ex).1
    have W := WalksT.enumerateD (prog := X.prog) (w := X.w) (A := X.A) (Draws.tuple hh it a ha us.toArray) e ne (by simp [ne, nea]) (by simp)
    refine W.item i s _ E (by simpa using lu) ⟨st.1, st.2.1, pu⟩ fun T vals h' tk hP hT ht hm hk => ?_
    obtain ⟨t, u, hu, rfl⟩ := hP
    obtain ⟨u', hu', r1⟩ := ru.get ex
    obtain rfl : u' = u := Option.some.inj (hu'.symm.trans (by simpa using hu))
    refine ⟨.ref T, rfl, W.go elts kk tpos i T { s with heap := h', toks := tk } _ E hm fun h2 st2 hk2 => ?_⟩
    have new : ObjOk X.prog X.w (upd H T (.tup [.int (i : Nat), x])) h2 T (.tup [.int (i : Nat), x]) := ⟨by show 2 ≤ sizeLine; decide, [.int i t, u'], .cons ⟨_, rfl⟩ (.cons r1 .nil), ht.at fun o e => hk2 T o (W.apart i T h' hm) e⟩
    have I1 := I.turnedNew (t' := tk) (ch := [e, it]) (fun c o n e => hk2 c o n (hk c o n e)) hf hT new
    refine ⟨.ref T, _, I1, rfl, ⟨T, x, rfl, I.hok.fresh hT, rfl, fun l hl => by rw [I.tuple_inj hl qx]; exact ex⟩, ⟨?_, st2.2.1, st.2.2⟩, fun c hcm => ?_⟩
    · obtain ⟨old, z⟩ := st2.1
      exact ⟨old, by rw [show ((i + 1 : Nat) : Int) = ((i : Nat) : Int) + 1 by omega]; simpa using z⟩
    obtain ⟨o, e, _⟩ := et_obj st hcm
    rw [upd_ne (Nat.ne_of_lt (Nat.lt_of_lt_of_le (Heap.lt_size e) hT))]
    exact (hf c hcm).1
  done := by
    intro X hP hw hK hc i pins s σ H E I hf st hg
    subst hP hw hK
    obtain ⟨xs, qx, ex⟩ := hg
    obtain ⟨us, ru, pu, _⟩ := I.tuple qx
    have hh : X.A.in1.handled = none := I.ok.hd hc
    have lu : us.length = i := by rw [← ru.length]; exact ex
    have W := WalksT.enumerateD (prog := X.prog) (w := X.w) (A := X.A) (Draws.tuple hh it a ha us.toArray) e ne (by simp [ne, nea]) (by simp)
    rw [show us.toArray.size = i by simpa using lu] at W
    exact W.done s _ E ⟨st.1, st.2.1, pu⟩ fun h' tk hk => ⟨rfl, I.turnedL (t' := tk) (ch := [e, it]) (fun c o n z => hk c o n z) hf⟩
  self := fun A i s Q E st h => let ⟨⟨_, z⟩, _⟩ := st; wpAny_pyIter_enum z h
set_option maxHeartbeats 1000000 in
theorem enum_new {v : Value} {ob : Obj} {Bh : Heap → Prop} (B : Begins v ob Bh) :
    Meets (Builtin.«enumerate.__new__» ⟨[.type "enumerate", v], []⟩) (fun _ R z => Bh z.heap ∧
      R (.ok (.ret (.ref (z.heap.push ob).objs.size))) { z with heap := (z.heap.push ob).push { cls := .type "enumerate", data := .fields #[.none, .bool false, .ref z.heap.objs.size, rawInt 0, .none, .none] } }) :=
  .of_wp fun P w A R z g => by
    obtain ⟨hp, gs, dp, tk, os⟩ := z
    obtain ⟨b, g⟩ := g
    have _u := sub_enumerate
    have begun : ∀ {A2 : Around} {X : Value → Shared → Prop} {Y : Value → Shared → Prop}, Y (.ref hp.objs.size) ⟨hp.push ob, gs, dp, tk, os⟩ → wpAny (model P w) A2 (pyIter v) Y X ⟨hp, gs, dp, tk, os⟩ := fun q => B.iter P w _ _ ⟨hp, gs, dp, tk, os⟩ _ b q
    wp_walk using begun
    refine wpAny_stack_any fun _ => wpAny_pure ?_
    split
    · rename_i c _ _ _ _ _
      cases (c == Value.type "enumerate") <;> (wp_walk using begun; exact ⟨_, rfl, g⟩)
    · wp_walk using begun
      exact ⟨_, rfl, g⟩
theorem enum_made {P : Program} {w : World} {A : Around} {E : Value → Shared → Prop} {z : Shared} {v : Value} {ob : Obj} {Bh : Heap → Prop} {Q : Value → Shared → Prop} (B : Begins v ob Bh) (b : Bh z.heap)
    (q : ∀ h', IsEnum h' (z.heap.objs.size + 1) z.heap.objs.size 0 .none → h'.get? z.heap.objs.size = some ob → (∀ c o, z.heap.get? c = some o → h'.get? c = some o) → Q (.ref (z.heap.objs.size + 1)) { z with heap := h' }) :
    wpAny (model P w) A (call (.type "enumerate") [v]) Q E z := by
  refine callType_new F.called_enumerate (by decide) (F.typeCall_enumerate_1 _) (F.newCall_enumerate_1 _) (fun o => F.args_object_init_2 o _) F.entry_enumerate_new (enum_new B) ⟨b, ?_⟩
  have n1 : (z.heap.push ob).objs.size = z.heap.objs.size + 1 := Heap.size_push ..
  show _ ∧ _
  rw [n1]
  have he : IsEnum ((z.heap.push ob).push { cls := .type "enumerate", data := .fields #[.none, .bool false, .ref z.heap.objs.size, rawInt 0, .none, .none] }) (z.heap.objs.size + 1) z.heap.objs.size 0 .none := by
    have t := Heap.get?_push_size (z.heap.push ob) (o := { cls := .type "enumerate", data := .fields #[.none, .bool false, .ref z.heap.objs.size, rawInt 0, .none, .none] }) rfl
    rwa [n1] at t
  exact ⟨⟨_, he, rfl⟩, q _ he (Heap.get?_push_of_some _ (Heap.get?_push_size _ B.free)) fun c o x => Heap.get?_push_of_some _ (Heap.get?_push_of_some _ x)⟩
def rEnumT (K : PySem.W.Frag) (vs : List V) (H1 : Hp) (R : It → Hp → Prop) : Prop := ∃ a xs, vs = [.ref a] ∧ SqT K H1 a xs ∧ R (Iet K a) H1
def iEnumT (K : PySem.W.Frag) (ta : TA) : TI := fun σ H R => ta σ H fun vs H1 => rEnumT K vs H1 R
theorem pi_enumT {X : Cx} {K : PySem.W.Frag} {e : Expr} {ta : TA} {p pos tpos : Pos} {elts : List Expr} {kk : Nat} (h : X.K = K) (hg : Gl X "enumerate") (hm : X.mg "enumerate" = none) (ha : PA X [e] ta) (hs : starEach [e] X.env = [(false, eval e X.env)] := by rfl) :
    PI X (.Tuple elts kk tpos) (.Call (.Name "enumerate" p) [e] [] pos) (iEnumT K ta) := by
  subst h
  refine ⟨fun pins s σ H R I h => Call_ (ld_blt I hg hm boot_enumerate (PyProof.Rows.callWith_type1 (thn (ha.run pos pins s σ H _ I h) fun us s1 z => ?_) hs rfl))⟩
  obtain ⟨vs, H1, I1, r1, a, xs, rfl, qx, q⟩ := z
  obtain ⟨ua, rfl, ra⟩ := vals1 r1
  cases ra
  obtain ⟨us, ru, pu, _⟩ := I1.tuple qx
  have la : a < s1.heap.objs.size := by obtain ⟨_, e, _⟩ := id pu; exact Heap.lt_size e
  refine enum_made (begins_tuple a us.toArray) pu fun h' he g1 hk => wpAny_pyIter_enum he ?_
  refine ⟨_, _, _, _, H1, rfl, I1.kept (t' := s1.toks) hk, turn_enumT (Nat.succ_ne_self _) (Nat.ne_of_gt (Nat.lt_succ_of_lt la)) (Nat.ne_of_lt la), ⟨⟨_, he⟩, ⟨_, g1, rfl, rfl⟩, Nat.succ_ne_self _⟩, fun c hc => ?_, q⟩
  have hle : s1.heap.objs.size ≤ c := by
    simp only [List.mem_cons, List.not_mem_nil, or_false] at hc
    rcases hc with rfl | rfl
    · exact Nat.le_add_right _ 1
    · exact Nat.le_refl _
  exact I1.fpOk hle (I1.hok.fresh hle)
theorem k_iEnumT {K : PySem.W.Frag} {ta : TA} {σ : L2.St} {H : Hp} {R : It → Hp → Prop} (q : ta σ H fun vs H1 => rEnumT K vs H1 R) : iEnumT K ta σ H R := q
theorem k_enumTx {K : PySem.W.Frag} {H : Hp} {R : It → Hp → Prop} {a : Addr} {xs : List V} (hx : SqT K H a xs) (q : R (Iet K a) H) : rEnumT K [.ref a] H R := ⟨a, xs, rfl, hx, q⟩
theorem enumT_it {K : PySem.W.Frag} {a : Addr} {xs : List V} : PairIt (Iet K a) xs.length (fun i => .int (i : Nat)) (fun i => xs.getD i .non) (fun H => SqT K H a xs) where
  go := fun i H h c => ⟨xs, _, h, get_some c⟩
  stop := fun H h => ⟨xs, h, rfl⟩
  yld := fun i H x H' h c ⟨T, y, e, hT, eH, hy⟩ => ⟨T, e, hT, by
    have := hy xs h
    rw [get_some c] at this
    rw [eH, Option.some.inj this]⟩
end Gx
/-! what never changes stays: tuples, things known, functions -/
namespace Gx
open PySem PySem.Spec PyProof.Rows L2
def Fixt : HO → Prop
  | .tup _ => True
  | .frz _ _ => True
  | .ext _ => True
  | _ => False
def Imm (H H' : Hp) : Prop := ∀ a o, H a = some o → Fixt o → H' a = some o
theorem Imm.refl (H : Hp) : Imm H H := fun _ _ h _ => h
theorem Imm.trans {H H1 H2 : Hp} (a : Imm H H1) (b : Imm H1 H2) : Imm H H2 := fun c o h f => b c o (a c o h f) f
theorem imm_same {H H' : Hp} (e : Same H H') : Imm H H' := fun a o h _ => e a o h
theorem imm_but {H H' : Hp} {l : Addr} {ys : List V} (e : But l H H') (hl : H l = some (.lst ys)) : Imm H H' := fun a o h f => e a o (ne_of h hl (by rintro rfl; exact f)) h
theorem imm_butI {H H' : Hp} {l C dx : Addr} {fs : List (Str × V)} (e : But l H H') (hl : H l = some (.ins C dx fs)) : Imm H H' := fun a o h f => e a o (ne_of h hl (by rintro rfl; exact f)) h
theorem seqT_imm {K : PySem.W.Frag} {H H' : Hp} (e : Imm H H') {a : Addr} {xs : List V} (h : SqT K H a xs) : SqT K H' a xs := by
  rcases h with (h | ⟨o, h⟩) | h
  · exact .inl (.inl (e _ _ h trivial))
  · exact .inl (.inr ⟨o, e _ _ h trivial⟩)
  · exact .inr h
/-- all but two stay -/
def But2 (l m : Addr) (H H' : Hp) : Prop := ∀ a o, a ≠ l → a ≠ m → H a = some o → H' a = some o
theorem But2.refl (l m : Addr) (H : Hp) : But2 l m H H := fun _ _ _ _ h => h
theorem But2.of {H H' : Hp} {l m : Addr} (e : Same H H') : But2 l m H H' := fun a o _ _ h => e a o h
theorem But2.trans {H H1 H2 : Hp} {l m : Addr} (a : But2 l m H H1) (b : But2 l m H1 H2) : But2 l m H H2 := fun c o n1 n2 h => b c o n1 n2 (a c o n1 n2 h)
theorem But2.left {H H' : Hp} {l m : Addr} (e : But l H H') : But2 l m H H' := fun a o n _ h => e a o n h
theorem But2.right {H H' : Hp} {l m : Addr} (e : But m H H') : But2 l m H H' := fun a o _ n h => e a o n h
theorem But2.imm {H H' : Hp} {l m C dx : Addr} {fs : List (Str × V)} {ys : List V} (e : But2 l m H H') (hl : H l = some (.ins C dx fs)) (hm : H m = some (.lst ys)) : Imm H H' := fun a o h f => e a o (ne_of h hl (by rintro rfl; exact f)) (ne_of h hm (by rintro rfl; exact f)) h
/-- what is new here may change -/
theorem But2.same {H H1 H2 : Hp} {l m : Addr} (nl : H l = none) (nm : H m = none) (a : Same H H1) (b : But2 l m H1 H2) : Same H H2 := fun c o h => b c o (ne_of_none h nl) (ne_of_none h nm) (a c o h)
end Gx
/-! a list that will not change any more is known from now on -/
namespace Gx
open PySem PySem.Spec PyProof.Rows L2
theorem inv_frz {X : Cx} {pins : List (Addr × Obj)} {σ : L2.St} {H : Hp} {s : Shared} {l : Addr} {xs : List V} (I : Inv X pins σ H s) (h : H l = some (.lst xs)) : ∃ o, Inv X pins σ (upd H l (.frz o (.lst xs))) s := by
  obtain ⟨hl, its, n, r, e⟩ := id (I.hok l _ h)
  have nl : ∀ {b u}, H b = some u → (∀ ys, u ≠ .lst ys) → b ≠ l := fun {b u} q n z => by
    rw [z, h] at q
    exact n _ (Option.some.inj q).symm
  have I2 := I.un (H' := upd H l (.frz { cls := .type "list", data := .seq its.toArray n } (.lst xs))) (h' := s.heap) (t' := s.toks) ⟨fun b o q _ _ _ => q, fun b o q _ _ _ => ⟨o.slots, q⟩, fun b o q n _ => by rw [upd_ne (fun z => by rw [z, h] at n; cases n)]; exact n, fun b o q _ => ⟨o, q⟩,
    fun b ys q => by rw [upd_ne (nl q (by intro ys z; cases z))]; exact q, fun b o u q => by rw [upd_ne (nl q (by intro ys z; cases z))]; exact q, fun b ps q => ⟨#[], by rw [upd_ne (nl q (by intro ys z; cases z)), q]; simp⟩⟩ (fun b u q => by
    by_cases hb : b = l
    · rw [hb, upd_same] at q
      cases q
      rw [hb]
      exact ⟨e, hl, its, n, r, e⟩
    · rw [upd_ne hb] at q
      exact (I.hok b u q).stay (fun _ _ _ q => q) (fun c q => by rw [upd_ne (nl q (by intro ys z; cases z))]; exact q) fun c ys q => by rw [upd_ne (nl q (by intro ys z; cases z))]; exact q)
  exact ⟨_, I2⟩
def rFrz (v : V) (H1 : Hp) (Q : VK) : Prop := ∃ l xs, v = .ref l ∧ H1 l = some (.lst xs) ∧ ∀ o, Q v (upd H1 l (.frz o (.lst xs)))
def tFrz (te : TE) : TE := fun σ H Q => te σ H fun v H1 => rFrz v H1 Q
theorem pe_frz {X : Cx} {e : Expr} {te : TE} (h : PE X e te) : PE X e (tFrz te) := by
  refine ⟨fun pins s σ H Q I q => thn (h.run pins s σ H _ I q) fun u s1 ⟨v, H1, I1, r, l, xs, ev, hl, q1⟩ => ?_⟩
  obtain ⟨o, I2⟩ := inv_frz I1 hl
  exact ⟨v, _, I2, r, q1 o⟩
theorem k_frz {te : TE} {σ : L2.St} {H : Hp} {Q : VK} (q : te σ H fun v H1 => rFrz v H1 Q) : tFrz te σ H Q := q
theorem k_frzx {l : Addr} {xs : List V} {H : Hp} {Q : VK} (h : H l = some (.lst xs)) (q : ∀ o H', But l H H' → H' l = some (.frz o (.lst xs)) → Q (.ref l) H') : rFrz (.ref l) H Q := ⟨l, xs, rfl, h, fun o => q o _ But.upd upd_same⟩
/-- while a list is put away, tuples stay -/
theorem SqL.frz {K : PySem.W.Frag} {H : Hp} {l : Addr} {o : Obj} {xs : List V} (h : H l = some (.frz o (.lst xs))) : SqL K H l xs := .inl (.inr ⟨o, h⟩)
theorem frz_imm {H H' : Hp} (e : Imm H H') {l : Addr} {o : Obj} {u : HO} (h : H l = some (.frz o u)) : H' l = some (.frz o u) := e _ _ h trivial
end Gx
namespace Gx
open PySem PySem.Spec PyProof.Rows L2
/-! ### xs[lo:hi:c], c a number; ts[::-1], ts a tuple -/
def stV (xs : List V) (lo hi : Option Int) (c : Int) : List V := (sliceRange (sliceBounds lo hi (some c) xs.length).1 (sliceBounds lo hi (some c) xs.length).2.1 (sliceBounds lo hi (some c) xs.length).2.2).filterMap (xs[·]?)
theorem vals_pick : ∀ {xs : List V} {us : List Value} (idx : List Nat), Vals xs us → Vals (idx.filterMap (xs[·]?)) (idx.filterMap (us[·]?))
  | _, _, [], _ => .nil
  | xs, us, i :: r, h => by
    have ih := vals_pick r h
    have key : ∀ {xs : List V} {us : List Value} (i : Nat), Vals xs us → (xs[i]? = none ∧ us[i]? = none) ∨ ∃ x u, xs[i]? = some x ∧ us[i]? = some u ∧ RelV x u := fun {xs us} i h => by
      induction h generalizing i with
      | nil => exact .inl ⟨rfl, rfl⟩
      | cons a _ ih =>
        cases i with
        | zero => exact .inr ⟨_, _, rfl, rfl, a⟩
        | succ i => exact ih i
    rcases key i h with ⟨h1, h2⟩ | ⟨x, u, h1, h2, h3⟩
    · rw [List.filterMap_cons, List.filterMap_cons, h1, h2]
      exact ih
    · rw [List.filterMap_cons, List.filterMap_cons, h1, h2]
      exact .cons h3 ih
theorem stV_len {xs : List V} {lo hi : Option Int} {c : Int} (c0 : 0 < c) : (stV xs lo hi c).length ≤ xs.length := by
  unfold stV
  refine Nat.le_trans (List.length_filterMap_le ..) (sliceRange_length_le _ _ _ xs.length ?_ ?_)
  · intro _
    cases lo <;> cases hi <;> simp [sliceBounds, c0] <;> omega
  · intro z
    exact absurd (show (sliceBounds lo hi (some c) xs.length).2.2 > 0 from c0) z
def rStX (K : PySem.W.Frag) (x : V) (lo hi : Option Int) (c : Int) (H : Hp) (Q : VK) : Prop := ∃ a xs, x = .ref a ∧ SqL K H a xs ∧ ∀ p, H p = none → Q (.ref p) (upd H p (.lst (stV xs lo hi c)))
def tSlSt (K : PySem.W.Frag) (te : TE) (tl th : TO) (c : Int) : TE := fun σ H Q => te σ H fun x H1 => tl σ H1 fun lo H2 => th σ H2 fun hi H3 => rStX K x lo hi c H3 Q
theorem pe_slStep {X : Cx} {e : Expr} {lo hi : Option Expr} {te : TE} {tl th : TO} {c : Int} {k : Nat} {p1 p3 pos : Pos} (he : PE X e te) (hl : PO X lo tl) (hu : PO X hi th) (c0 : 0 < c) : PE X (.Subscript e (.Slice lo hi (some (.Constant (.int c) k p1)) p3) pos) (tSlSt X.K te tl th c) := by
  refine ⟨fun pins s σ H Q I h => ?_⟩
  refine Subscript_ (thn (he.run pins s σ H _ I h) fun v s1 ⟨x, H1, I1, r1, q1⟩ => ?_)
  have hst : PO X (some (.Constant (.int c) k p1)) (tPart (tC (.int c))) := po_some pe_int
  refine wpAny_Slice (thn (hl.run pins s1 σ H1 _ I1 q1) fun vl s2 ⟨l, H2, I2, pl, q2⟩ => ?_)
  refine thn (hu.run pins s2 σ H2 _ I2 q2) fun vu s3 ⟨u, H3, I3, pu, q3⟩ => ?_
  obtain ⟨a, xs, ex, hx, q⟩ := q3
  subst ex
  cases r1
  refine thn (hst.run pins s3 σ H3 (fun o H4 => o = some c ∧ H4 = H3) I3 ⟨c, rfl, rfl, rfl⟩) fun vs s4 ⟨o, H4, I4, ps, eo, e4⟩ => ?_
  subst eo e4
  have I5 : Inv X pins σ H4 { s4 with heap := s4.heap.push { cls := .type "slice", data := .fields #[vl, vu, vs] } } := I4.kept (t' := s4.toks) fun b ob q => Heap.get?_push_of_some _ q
  obtain ⟨its, r, ht, hz⟩ := I5.list hx
  have hlen := r.length
  show wpAny (model X.prog X.w) X.A (subscriptTail e (.Slice lo hi (some (.Constant (.int c) k p1)) p3) (.ref a) (.ref s4.heap.objs.size)) (EP X pins σ Q) X.xe { s4 with heap := s4.heap.push { cls := .type "slice", data := .fields #[vl, vu, vs] } }
  refine tail_any (ops := [.ref a, .ref s4.heap.objs.size]) ht.isList.typeIs (PySem.slot_list_getitem.lookup) ?_ (by with_unfolding_all rfl)
  refine wpAny_getItem_list_slice ht.isList (Heap.IsSliceOf.new _ vl vu vs) pl pu ps (fun z => by have := Option.some.inj z; omega) ?_ (by rw [List.size_toArray]; omega)
  have ep : slicePick its.toArray l u (some c) = ((sliceRange (sliceBounds l u (some c) xs.length).1 (sliceBounds l u (some c) xs.length).2.1 (sliceBounds l u (some c) xs.length).2.2).filterMap (its[·]?)).toArray := by
    unfold slicePick
    rw [List.size_toArray, ← hlen]
    congr 1
    congr 1
    funext i
    simp
  rw [ep]
  have vp := vals_pick (sliceRange (sliceBounds l u (some c) xs.length).1 (sliceBounds l u (some c) xs.length).2.1 (sliceBounds l u (some c) xs.length).2.2) r
  refine ⟨.ref _, _, I5.laid (t' := s4.toks) (o := .lst (stV xs l u c)) (fun b ob q => Heap.get?_push_of_some _ q) (Nat.le_refl _) ?_, rfl, q _ (I5.hok.fresh (Nat.le_refl _))⟩
  refine ⟨?_, _, 0, vp, Heap.get?_push_size _ rfl⟩
  exact Nat.le_trans (stV_len c0) hz
theorem k_st {K : PySem.W.Frag} {te : TE} {tl th : TO} {c : Int} {σ : L2.St} {H : Hp} {Q : VK} (q : te σ H fun x H1 => tl σ H1 fun lo H2 => th σ H2 fun hi H3 => rStX K x lo hi c H3 Q) : tSlSt K te tl th c σ H Q := q
theorem k_stx {K : PySem.W.Frag} {a : Addr} {xs : List V} {lo hi : Option Int} {c : Int} {H : Hp} {Q : VK} (h : SqL K H a xs) (q : ∀ p H2, H p = none → Same H H2 → H2 p = some (.lst (stV xs lo hi c)) → Q (.ref p) H2) : rStX K (.ref a) lo hi c H Q := ⟨a, xs, rfl, h, fun p hp => q p _ hp (same_new hp) upd_same⟩
theorem stV_ints {ns : List Int} {lo hi : Option Int} {c : Int} (c0 : 0 < c) : ∃ ms : List Int, stV (ns.map V.int) lo hi c = ms.map V.int ∧ ms.length ≤ ns.length := by
  refine ⟨(sliceRange (sliceBounds lo hi (some c) ns.length).1 (sliceBounds lo hi (some c) ns.length).2.1 (sliceBounds lo hi (some c) ns.length).2.2).filterMap (ns[·]?), ?_, ?_⟩
  · unfold stV
    rw [List.map_filterMap, List.length_map]
    congr 1
    funext i
    rw [List.getElem?_map]
  · have e := stV_len (xs := ns.map V.int) (lo := lo) (hi := hi) c0
    unfold stV at e
    rw [List.length_map] at e
    refine Nat.le_trans (Nat.le_of_eq ?_) e
    rw [← List.length_map (f := V.int), List.map_filterMap]
    congr 2
    funext i
    rw [List.getElem?_map]
section
variable {prog : Program} {w : World} {A : Around} {E : Value → Shared → Prop} {s : Shared}
theorem fm_congr {α β : Type} {f g : α → Option β} : ∀ {l : List α}, (∀ x ∈ l, f x = g x) → l.filterMap f = l.filterMap g
  | [], _ => rfl
  | x :: r, h => by
    rw [List.filterMap_cons, List.filterMap_cons, h x (List.mem_cons_self ..), fm_congr (l := r) fun y hy => h y (List.mem_cons_of_mem _ hy)]
theorem places_rev (n : Nat) : Builtin.Slice.slicePlaces ((n : Int) - 1) (-1) (-1) = n := by
  unfold Builtin.Slice.slicePlaces
  rw [if_neg (by decide)]
  by_cases h : (n : Int) - 1 > -1
  · rw [if_pos h, show (-(-1) : Int) = 1 by decide, Int.ediv_one]
    omega
  · rw [if_neg h]
    omega
theorem sliceApplied_rev {sl : Addr} {vl vu vs : Value} {n : Nat} {Q : Int × Int × Nat → Shared → Prop} (hs : s.heap.IsSliceOf sl vl vu vs) (pl : IsPart vl none) (pu : IsPart vu none) (ps : IsPart vs (some (-1)))
    (h : Q ((n : Int) - 1, -1, n) s) : wpAny (model prog w) A (Builtin.Slice.sliceApplied (.ref sl) (pure (n : Int))) Q E s := by
  obtain ⟨os, hos, hcs, hds⟩ := id hs
  unfold Builtin.Slice.sliceApplied Builtin.Slice.sliceFields
  refine wpAny_bind (wpAny_bind (wpAny_field hos hds (x := vl) rfl (wpAny_bind (wpAny_field hos hds (x := vu) rfl (wpAny_bind (wpAny_field hos hds (x := vs) rfl (wpAny_pure ?_)))))))
  refine wpAny_bind (HT.slicePart_ ps ?_)
  show wpAny _ _ (if ((-1 : Int) == 0) = true then _ else _) _ _ s
  rw [if_neg (by decide)]
  refine wpAny_bind (HT.slicePart_ pl (wpAny_bind (HT.slicePart_ pu (wpAny_bind (wpAny_pure ?_)))))
  show wpAny _ _ (pure ((n : Int) - 1, (-1 : Int), Builtin.Slice.slicePlaces ((n : Int) - 1) (-1) (-1))) _ _ s
  rw [places_rev]
  exact wpAny_pure h
theorem getItem_tuple_rev {t sl : Addr} {items : Array Value} {vl vu vs : Value} {Q : Value → Shared → Prop} (ht : IsTup s.heap t items) (hs : s.heap.IsSliceOf sl vl vu vs) (pl : IsPart vl none) (pu : IsPart vu none) (ps : IsPart vs (some (-1)))
    (h : Q (.ref s.heap.objs.size) { s with heap := s.heap.push { cls := .type "tuple", data := .seq items.toList.reverse.toArray } })
    (hsz : items.size ≤ sizeLine) : wpAny (model prog w) A (getItem (.ref t) (.ref sl)) Q E s := by
  have htake : sizeOk (.seq items.toList.reverse.toArray) := by
    show items.toList.reverse.toArray.size ≤ sizeLine
    rw [List.size_toArray, List.length_reverse, Array.length_toList]
    omega
  obtain ⟨os, hos, hcs, hds⟩ := id hs
  have hTs : s.TypeIs (.ref sl) "slice" := ⟨os, hos, hcs⟩
  unfold getItem
  try with_reducible refine wpAny_holding ?_
  first | refine wpAny_bind (wpAny_pure ?_) | skip
  refine wpAny_bind (wpAny_sequenceKey ht.typeIs (by decide) ?_)
  refine wpAny_bind (wpAny_callSpecial?_slot (name := Str.ofString "__getitem__") ht.typeIs PyProof.Rows.slot_tuple_getitem
    (wpAny_call_entry PyProof.Rows.slot_tuple_getitem ht.typeIs entry_tuple_getitem ?_ (args_tuple_getitem _ _)))
  show wpAny _ _ (Builtin.Tuple.tupleItemsOf (.ref t) >>= _) _ _ s
  refine wpAny_bind (tupleItemsOf_ ht ?_)
  refine wpAny_bind (wpAny_typeOf hTs ?_)
  rw [if_pos (by decide)]
  refine wpAny_bind (sliceApplied_rev hs pl pu ps ?_)
  have hno : ¬ (((((items.size : Nat) : Int) - 1) == 0 && (-1 : Int) == 1 && items.size == items.size) = true) := by
    intro q
    rw [Bool.and_eq_true, Bool.and_eq_true] at q
    exact absurd (eq_of_beq q.1.2) (by decide)
  show wpAny _ _ (if ((((items.size : Nat) : Int) - 1) == 0 && (-1 : Int) == 1 && items.size == items.size) = true then _ else _) _ _ s
  have ep : ((List.range items.size).filterMap fun (k : Nat) => items[(((items.size : Nat) : Int) - 1 + (k : Int) * (-1)).toNat]?).toArray = items.toList.reverse.toArray := by
    have e : ((List.range items.size).filterMap fun (k : Nat) => items[(((items.size : Nat) : Int) - 1 + (k : Int) * (-1)).toNat]?) = ((List.range items.size).map fun k => items.size - 1 - k).filterMap (items[·]?) := by
      rw [List.filterMap_map]
      refine fm_congr fun k hk => ?_
      have := List.mem_range.mp hk
      show items[(((items.size : Nat) : Int) - 1 + (k : Int) * (-1)).toNat]? = items[items.size - 1 - k]?
      congr 1
      omega
    rw [e, PySem.W.krv_range, List.filterMap_reverse, PySem.W.krv_all]
  rw [if_neg hno, ep]
  first
    | exact wpAny_bind (m := Builtin.Tuple.tupleExact _) (wpAny_newObj_type (wpAny_pure ⟨_, rfl, wpAny_pure h⟩) htake)
    | exact wpAny_bind (m := Builtin.Tuple.tupleExact _) (wpAny_newObj_type (wpAny_bind (wpAny_pure (wpAny_pure ⟨_, rfl, wpAny_pure h⟩))) htake)
    | exact wpAny_bind (wpAny_bind (m := Builtin.Tuple.tupleExact _) (wpAny_newObj_type (wpAny_pure (wpAny_pure ⟨_, rfl, wpAny_pure h⟩)) htake))
    | exact wpAny_bind (wpAny_bind (m := Builtin.Tuple.tupleExact _) (wpAny_newObj_type (wpAny_pure ⟨_, rfl, wpAny_pure h⟩) htake))
end
def rRevTX (K : PySem.W.Frag) (x : V) (H : Hp) (Q : VK) : Prop := ∃ a xs, x = .ref a ∧ SqT K H a xs ∧ ∀ p, H p = none → Q (.ref p) (upd H p (.tup xs.reverse))
def tRevT (K : PySem.W.Frag) (te : TE) : TE := fun σ H Q => te σ H fun x H1 => rRevTX K x H1 Q
theorem pe_revT {X : Cx} {e : Expr} {te : TE} {k : Nat} {p1 p2 p3 pos : Pos} (he : PE X e te) : PE X (.Subscript e (.Slice none none (some (.UnaryOp .USub (.Constant (.int 1) k p1) p2)) p3) pos) (tRevT X.K te) := by
  refine ⟨fun pins s σ H Q I h => ?_⟩
  refine Subscript_ (thn (he.run pins s σ H _ I h) fun v s1 ⟨x, H1, I1, r1, q1⟩ => ?_)
  obtain ⟨a, xs, ex, hx, q⟩ := q1
  subst ex
  cases r1
  have hst : PO X (some (.UnaryOp .USub (.Constant (.int 1) k p1) p2)) (tPart (tUn (rU fun i => .int (-i)) (tC (.int 1)))) := po_some (pe_un un_neg pe_int)
  refine wpAny_Slice (thn (po_none.run pins s1 σ H1 (fun o H2 => o = none ∧ H2 = H1) I1 ⟨rfl, rfl⟩) fun vl s2 ⟨l, H2, I2, pl, el, e2⟩ => ?_)
  subst el e2
  refine thn (po_none.run pins s2 σ H2 (fun o H3 => o = none ∧ H3 = H2) I2 ⟨rfl, rfl⟩) fun vu s3 ⟨u, H3, I3, pu, eu, e3⟩ => ?_
  subst eu e3
  refine thn (hst.run pins s3 σ H3 (fun o H4 => o = some (-1) ∧ H4 = H3) I3 ⟨1, rfl, -1, rfl, rfl, rfl⟩) fun vs s4 ⟨o, H4, I4, ps, eo, e4⟩ => ?_
  subst eo e4
  have I5 : Inv X pins σ H4 { s4 with heap := s4.heap.push { cls := .type "slice", data := .fields #[vl, vu, vs] } } := I4.kept (t' := s4.toks) fun b ob q => Heap.get?_push_of_some _ q
  obtain ⟨its, r, ht, hz⟩ := I5.tuple hx
  have hlen := r.length
  show wpAny (model X.prog X.w) X.A (subscriptTail e (.Slice none none (some (.UnaryOp .USub (.Constant (.int 1) k p1) p2)) p3) (.ref a) (.ref s4.heap.objs.size)) (EP X pins σ Q) X.xe { s4 with heap := s4.heap.push { cls := .type "slice", data := .fields #[vl, vu, vs] } }
  refine tail_any (ops := [.ref a, .ref s4.heap.objs.size]) ht.typeIs (PyProof.Rows.slot_tuple_getitem.lookup) ?_ (by with_unfolding_all rfl)
  refine getItem_tuple_rev ht (Heap.IsSliceOf.new _ vl vu vs) pl pu ps ?_ (by rw [List.size_toArray]; omega)
  refine ⟨.ref _, _, I5.laid (t' := s4.toks) (o := .tup xs.reverse) (fun b ob q => Heap.get?_push_of_some _ q) (Nat.le_refl _) ?_, rfl, q _ (I5.hok.fresh (Nat.le_refl _))⟩
  exact ⟨by rw [List.length_reverse]; exact hz, _, r.reverse, IsTup.new _ _⟩
theorem k_revT {K : PySem.W.Frag} {te : TE} {σ : L2.St} {H : Hp} {Q : VK} (q : te σ H fun x H1 => rRevTX K x H1 Q) : tRevT K te σ H Q := q
theorem k_revTx {K : PySem.W.Frag} {a : Addr} {xs : List V} {H : Hp} {Q : VK} (h : SqT K H a xs) (q : ∀ p H2, H p = none → Same H H2 → H2 p = some (.tup xs.reverse) → Q (.ref p) H2) : rRevTX K (.ref a) H Q := ⟨a, xs, rfl, h, fun p hp => q p _ hp (same_new hp) upd_same⟩
theorem pe_slStepK {K : PySem.W.Frag} {X : Cx} {e : Expr} {lo hi : Option Expr} {te : TE} {tl th : TO} {c : Int} {k : Nat} {p1 p3 pos : Pos} (hK : X.K = K) (he : PE X e te) (hl : PO X lo tl) (hu : PO X hi th) (c0 : 0 < c) : PE X (.Subscript e (.Slice lo hi (some (.Constant (.int c) k p1)) p3) pos) (tSlSt K te tl th c) := hK ▸ pe_slStep he hl hu c0
theorem pe_revTK {K : PySem.W.Frag} {X : Cx} {e : Expr} {te : TE} {k : Nat} {p1 p2 p3 pos : Pos} (hK : X.K = K) (he : PE X e te) : PE X (.Subscript e (.Slice none none (some (.UnaryOp .USub (.Constant (.int 1) k p1) p2)) p3) pos) (tRevT K te) := hK ▸ pe_revT he
end Gx
/-! ### an error that leaves a list comprehension -/
namespace Gx
open PySem PySem.Spec PyProof.Rows L2
theorem noteFrame_frame {e : Value} {a b : Env} (h : a.frame = b.frame) : noteFrame e a = noteFrame e b := by
  unfold noteFrame PySem.frameOf
  rw [h]
theorem passOn_frame {α : Type} {what : String} {e : Value} {a b : Env} (h : a.frame = b.frame) : (passOn what e a : Sem α) = passOn what e b := by
  unfold PySem.passOn
  rw [h]
section
variable {M : Model} {A : Around} {E : Value → Shared → Prop} {s : Shared} {env : Env}
def compPostE (M : Model) (A : Around) (E : Value → Shared → Prop) (use : Option (Value → Sem Unit)) (Q : Value → Shared → Prop) (acc : Value) (cenv : Env) (r : Result) (s' : Shared) : Prop :=
  match r, use with
  | .ok _, none => ∃ m, s'.heap.Ns cenv.locals m ∧ ∀ h', Heap.SameBut cenv.locals s'.heap h' → Q acc { s' with heap := h' }
  | .ok _, some u => wpAny M A (u acc) (fun _ s'' => ∃ m, s''.heap.Ns cenv.locals m ∧ ∀ h', Heap.SameBut cenv.locals s''.heap h' → Q .none { s'' with heap := h' }) E s'
  | .error x, _ => ∃ m, s'.heap.Ns cenv.locals m ∧ ∀ h', Heap.SameBut cenv.locals s'.heap h' → wpAny M A (passOn "comprehension.variables-let-go" x cenv : Sem Value) (fun _ _ => False) E { s' with heap := h' }
theorem comp_freeE {e : Expr} {scope : Scope} {pos : Pos} {newAcc first : Sem Value} {g : Comprehension} {gs : List Comprehension} {cl : List (Str × Addr)} {use : Option (Value → Sem Unit)}
    {Q : Value → Shared → Prop}
    (hcl : clausesOf e = g :: gs) (hs : ∀ x, foldedSetIterable g.iter env x = pure x) (hclos : closureFor scope env = pure cl)
    (hkind : scope.kind = .function) (hnames : ∀ x ∈ scope.names, x.2 = .local → scope.names.lookup x.1 = some .local)
    (h : wpAny M A first (fun x s₁ => wpAny M A (pyIter x) (fun it s₂ => wpAny M A newAcc (fun acc s₃ =>
      wpAny M A (newFunctionEnv scope env.globals cl [] env.qual none .none (some env)) (fun cenv s₄ =>
        codeAny M A (.compStart e 0 it acc { cenv with scope := relabel scope env }) (compPostE M A E use Q acc { cenv with scope := relabel scope env }) s₄) E s₃) E s₂) E s₁) E s) :
    wpAny M A (comprehension e scope env pos newAcc false first use) Q E s := by
  unfold comprehension
  rw [hclos, hcl]
  refine wpAny_bind (wpAny_mono h (fun x s₁ h₁ => wpAny_bind (wpAny_standAt (wpAny_bind (wpAny_of_eq (hs x) (wpAny_bind (wpAny_holding (wpAny_mono h₁ (fun it s₂ h₂ =>
    wpAny_standIf (wpAny_bind (wpAny_mono h₂ (fun acc s₃ h₃ => wpAny_bind (wpAny_pure (wpAny_bind (wpAny_mono h₃ (fun cenv s₄ h₄ => ?_) fun _ _ h' => h')))) fun _ _ h' => h')))
      fun _ _ h' => h'))))))) fun _ _ h' => h')
  dsimp only
  have hv : ∀ x ∈ (scope.names.filter fun x => (x.2 == .local || x.2 == .cell) && x.1 != (".0" : Str)).reverse, x.2 = .local →
      Env.kindOf { cenv with scope := relabel scope env } x.1 = some .local := fun x hx hl => lookup_relabel_local (hnames x (List.mem_filter.mp (List.mem_reverse.mp hx)).1 hl)
  have hv' : ∀ x ∈ (scope.names.filter fun x => (x.2 == .local || x.2 == .cell) && x.1 != (".0" : Str)).reverse.drop 1 ++ (scope.names.filter fun x => (x.2 == .local || x.2 == .cell) && x.1 != (".0" : Str)).reverse.take 1,
      x.2 = .local → Env.kindOf { cenv with scope := relabel scope env } x.1 = some .local := fun x hx hl => by
    rcases List.mem_append.mp hx with h1 | h1
    · exact hv x (List.mem_of_mem_drop h1) hl
    · exact hv x (List.mem_of_mem_take h1) hl
  refine wpAny_holding (wpAny_bind (wpAny_attempt (wpAny_holding (wpAny_run (codeAny_mono h₄ fun r s' hr => ?_)))))
  cases r with
  | ok f =>
    cases use with
    | none =>
      obtain ⟨m, hn, hr⟩ := hr
      exact wpAny_bind (wpAny_holding (wpAny_comp_letGo (cenv := { cenv with scope := relabel scope env }) hkind _ s' m hv hn fun h' m' _ hs' => wpAny_pure (hr h' hs')))
    | some u =>
      refine wpAny_bind (wpAny_rule (wpAny_bind (wpAny_holding (wpAny_mono hr (fun _ s'' hr' => ?_) fun _ _ h' => h'))))
      obtain ⟨m, hn, hr'⟩ := hr'
      exact wpAny_bind (wpAny_comp_letGo (cenv := { cenv with scope := relabel scope env }) hkind _ s'' m hv' hn fun h' m' _ hs' => wpAny_pure (hr' h' hs'))
  | error x =>
    have hr' : ∃ m, s'.heap.Ns cenv.locals m ∧ ∀ h', Heap.SameBut cenv.locals s'.heap h' → wpAny M A (passOn "comprehension.variables-let-go" x { cenv with scope := relabel scope env } : Sem Value) (fun _ _ => False) E { s' with heap := h' } := by cases use <;> exact hr
    obtain ⟨m, hn, hr⟩ := hr'
    exact wpAny_bind (wpAny_holding (wpAny_comp_letGo (cenv := { cenv with scope := relabel scope env }) hkind _ s' m hv hn fun h' m' _ hs' => wpAny_mono (hr h' hs') (fun _ _ f => f.elim) fun _ _ y => y))
end
/-- an error in the air of a block, let out by a call -/
def XB (Y : Cx) (E : XK) (u : Value) (s' : Shared) : Prop :=
  ∃ (a : Addr) (B : Heap) (sI : Shared) (pins : List (Addr × Obj)) (σ : L2.St) (H : Hp) (cls : Value) (d : Option Addr),
    u = .ref a ∧ Inv Y pins σ H sI ∧ (∀ b o, sI.heap.get? b = some o → b ∉ frs Y.stack → B.get? b = some o) ∧ sI.heap.UpToSlots s'.heap ∧
      HandSPX.FlyingZ B Y.stack a (Zc cls d) s'.heap ∧ H a = none ∧ s'.os = sI.os ∧ AllBare s'.gens ∧ E cls d H
theorem XB.of_call {X : Cx} {pins : List (Addr × Obj)} {σ : L2.St} {H : Hp} {s s' : Shared} {E : XK} (I : Inv X pins σ H s) {u : Value} (c : CX X.prog X.w X.stack H s E u s') : XB X E u s' := by
  obtain ⟨a, B, H', cls, d, rfl, fl, hok, ub, na, os, ag, hE⟩ := c
  obtain ⟨G, g1, g2⟩ := restrict s'.heap fun b => (B.get? b).isSome || decide (b ∈ frs X.stack)
  have st : B.StaysIn s'.heap := fl.1
  have gB : ∀ b o, B.get? b = some o → G.get? b = some o := fun b o e => by
    rw [g1 b (by simp [e])]
    exact st b o e
  have gF : ∀ b, b ∈ frs X.stack → G.get? b = s'.heap.get? b := fun b hb => g1 b (by simp [hb])
  have og : ∀ b o, G.get? b = some o → s'.heap.get? b = some o ∧ ((B.get? b).isSome = true ∨ b ∈ frs X.stack) := fun b o e => by
    cases q : ((B.get? b).isSome || decide (b ∈ frs X.stack)) with
    | false => rw [g2 b q] at e; cases e
    | true =>
      rw [g1 b q] at e
      exact ⟨e, by simpa [Bool.or_eq_true] using q⟩
  refine ⟨a, B, { s with heap := G, gens := s'.gens, drawn := s'.drawn, toks := s'.toks }, pins, σ, H', cls, d, rfl, ?_, fun b o e hb => ?_, Heap.UpToSlots.of_keeps fun b o e => (og b o e).1, fl, na, os, ag, hE⟩
  · refine I.call (ch := []) ⟨fun b o e n hb _ => gB b o (ub.keep b o e n hb), fun b o e n hb _ => ?_, fun b o e n _ => ub.free b o e n, fun b o e _ => ?_, ub.tups, ub.frzs, ub.tbls⟩ (hok.kept gB) ag (fun _ z => nomatch z)
    · obtain ⟨sl, q⟩ := ub.slot b o e hb
      exact ⟨sl, by rw [gF b hb]; exact q⟩
    · by_cases hb : b ∈ frs X.stack
      · obtain ⟨sl, q⟩ := ub.slot b o e hb
        exact ⟨_, by rw [gF b hb]; exact q⟩
      · obtain ⟨o', q⟩ := ub.there b o e hb
        exact ⟨o', gB b o' q⟩
  · obtain ⟨e', h⟩ := og b o e
    rcases h with h | h
    · obtain ⟨o', q⟩ := Option.isSome_iff_exists.mp h
      have z := st b o' q
      rw [e'] at z; cases z
      exact q
    · exact absurd h hb
/-- the block's context where an element may let an error out -/
abbrev blkE (X : Cx) (s : Shared) (H : Hp) (scope : Scope) (cenv : Env) (fp : List Addr) (E : XK) : Cx := (X.blk s H scope cenv fp).tr [] (XB (X.blk s H scope cenv fp) E)
theorem inv_toE {X : Cx} {s s' : Shared} {H H' : Hp} {scope : Scope} {cenv : Env} {fp : List Addr} {E : XK} {pins : List (Addr × Obj)} {σ : L2.St} (I : Inv (X.blk s H scope cenv fp) pins σ H' s') : Inv (blkE X s H scope cenv fp E) pins σ H' s' :=
  ⟨I.ok.toTry _ _, I.os, I.bare, I.base, I.loc, I.cell, I.free, I.freeC, I.pin, I.hok, I.len⟩
theorem inv_ofE {X : Cx} {s s' : Shared} {H H' : Hp} {scope : Scope} {cenv : Env} {fp : List Addr} {E : XK} {pins : List (Addr × Obj)} {σ : L2.St} (I : Inv (blkE X s H scope cenv fp E) pins σ H' s') : Inv (X.blk s H scope cenv fp) pins σ H' s' :=
  ⟨I.ok.ofTry, I.os, I.bare, I.base, I.loc, I.cell, I.free, I.freeC, I.pin, I.hok, I.len⟩
theorem passB {X : Cx} {s : Shared} {H : Hp} {scope : Scope} {cenv : Env} {fp : List Addr} {E : XK} : Passes (L2.CX X.prog X.w) (blkE X s H scope cenv fp E) E := fun _ _ _ _ _ _ I c => XB.of_call (inv_ofE I) c
theorem funFrames_but {h h' B B' : Heap} {C : Addr} : ∀ {l : List Env}, h.FunFrames B l → (∀ L ∈ frs l, L ≠ C) → (∀ b o, b ≠ C → h.get? b = some o → h'.get? b = some o) → (∀ b, B.get? b = none → B'.get? b = none) → h'.FunFrames B' l
  | [], _, _, _, _ => trivial
  | env :: l, ⟨hk, ⟨L, o, hf, hb, ho, hd⟩, hr⟩, hC, hh, hB =>
    ⟨hk, ⟨L, o, hf, hB L hb, hh L o (hC L (List.mem_filterMap.mpr ⟨env, List.mem_cons_self, hf⟩)) ho, hd⟩, funFrames_but hr (fun b hb => by
      obtain ⟨e, he, q⟩ := List.mem_filterMap.mp hb
      exact hC b (List.mem_filterMap.mpr ⟨e, List.mem_cons_of_mem _ he, q⟩)) hh hB⟩
/-- a block's error, back in the def -/
theorem XB.out {X : Cx} {pins : List (Addr × Obj)} {σ : L2.St} {H3 : Hp} {s3 s' : Shared} {scope : Scope} {ce : Env} {fp : List Addr} {EE : XK} {use : Option (Value → Sem Unit)} {Qf : Value → Shared → Prop} {acc : Value}
    (tk : Takes X (fun cls d _ H => EE cls d H)) (hs : X.stack = X.env :: X.outer) (hf : X.env.frame = some X.env.locals) (I3 : Inv X pins σ H3 s3) (cf : ce.frame = X.env.frame) (cL : ce.locals = s3.heap.objs.size)
    (f3 : ∀ b ∈ fp, (b ∈ X.ex ∨ X.s_0.heap.objs.size ≤ b) ∧ b ≠ X.env.locals ∧ (∀ x c, X.env.cells.lookup x = some c → c ≠ b) ∧ ∀ p ∈ X.pn ++ pins, p.1 ≠ b) {u : Value} (x : XB (X.blk s3 H3 scope ce fp) EE u s') :
    notedBy (model X.prog X.w) X.A ce (fun e s'' => compPostE (model X.prog X.w) X.A X.xe use Qf acc ce (.error e) s'') u s' := by
  obtain ⟨a, B, sI, pins', σ', H', cls, d, rfl, J, nb, up, fl, na, os, ag, w⟩ := x
  have hfr : X.A.frames = some (X.env :: X.outer) := by rw [I3.ok.frames, hs]
  have fl' : HandSPX.FlyingZ B (X.env :: X.outer) a (Zc cls d) s'.heap := by rw [← hs]; exact fl
  show wpAny _ X.A (noteFrame (.ref a) ce) _ _ _
  rw [noteFrame_frame cf]
  refine HandSPX.looks_onZ Zc.steady hfr hf fl' fun h3 hh3 up3 => ?_
  obtain ⟨m, hn, _⟩ := J.loc
  have hn : sI.heap.Ns ce.locals m := hn
  have hn3 : h3.Ns ce.locals m := up3.ns (up.ns hn)
  have goal : ∃ m, h3.Ns ce.locals m ∧ ∀ h', Heap.SameBut ce.locals h3 h' → wpAny (model X.prog X.w) X.A (passOn "comprehension.variables-let-go" (.ref a) ce : Sem Value) (fun _ _ => False) X.xe { s' with heap := h' } := by
    refine ⟨m, hn3, fun h4 sb => ?_⟩
    have nC : H' ce.locals = none := J.free
    -- everything but the block's own names
    obtain ⟨G, g1, g2⟩ := restrict sI.heap fun b => decide (b ≠ ce.locals)
    obtain ⟨B', b1, b2⟩ := restrict B fun b => decide (b ≠ ce.locals)
    have gG : ∀ b o, b ≠ ce.locals → sI.heap.get? b = some o → G.get? b = some o := fun b o n e => by rw [g1 b (decide_eq_true n)]; exact e
    have oG : ∀ b o, G.get? b = some o → b ≠ ce.locals ∧ sI.heap.get? b = some o := fun b o e => by
      by_cases n : b = ce.locals
      · rw [g2 b (by simp [n])] at e; cases e
      · rw [g1 b (decide_eq_true n)] at e
        exact ⟨n, e⟩
    have oB : ∀ b o, B'.get? b = some o → b ≠ ce.locals ∧ B.get? b = some o := fun b o e => by
      by_cases n : b = ce.locals
      · rw [b2 b (by simp [n])] at e; cases e
      · rw [b1 b (decide_eq_true n)] at e
        exact ⟨n, e⟩
    have nB : ∀ b, B.get? b = none → B'.get? b = none := fun b e => by
      cases q : B'.get? b with
      | none => rfl
      | some o => rw [(oB b o q).2] at e; cases e
    have stF : ∀ b ∈ frs X.stack, b ≠ ce.locals := fun b hb => by
      obtain ⟨_, o, e, _⟩ := I3.stack.mem hb
      rw [cL]
      exact Nat.ne_of_lt (Heap.lt_size e)
    have stF' : ∀ b ∈ frs (X.env :: X.outer), b ≠ ce.locals := fun b hb => stF b (by rw [hs]; exact hb)
    have h34 : ∀ b o, b ≠ ce.locals → h3.get? b = some o → h4.get? b = some o := fun b o n e => (sb.2 b n).trans e
    obtain ⟨od, es, ep, hC3, hCd, _⟩ := hn3
    have rec_ne : ∀ {b : Addr} {o : Obj} {vs : Array Value}, h3.get? b = some o → o.data = .fields vs → b ≠ ce.locals := fun {b o vs} e q z => by
      rw [z, hC3] at e
      cases e
      rw [hCd] at q
      cases q
    obtain ⟨k1, k2, k3, oe, vs, T, oT, ts, he, hz, hd, h1, hnT, hTe, hT, hdT, ht⟩ := hh3
    have hh4 : HandSPX.HeldZ B' (X.env :: X.outer) a (Zc cls d) X.env.locals h4 :=
      ⟨fun b o e => h34 b o (oB b o e).1 (k1 b o (oB b o e).2), nB a k2, funFrames_but k3 stF' h34 nB, oe, vs, T, oT, ts, h34 a oe (rec_ne he hd) he, hz, hd, h1, nB T hnT, hTe, h34 T oT (rec_ne hT hdT) hT, hdT, ht⟩
    rw [passOn_frame cf]
    unfold PySem.passOn
    refine wpAny_bind (wpAny_field (h34 a oe (rec_ne he hd) he) hd h1 ?_)
    rw [if_neg (show ¬ ((Value.ref T == Value.none) = true) from by simp)]
    have fin : wpAny (model X.prog X.w) X.A (setFlight (.ref a) X.env.frame) (fun _ s4 => wpAny (model X.prog X.w) X.A (throw (.ref a) : Sem Value) (fun _ _ => False) X.xe s4) X.xe { s' with heap := h4 } := by
      rw [hf]
      refine HandSPX.setFlight_onZ hh4 fun h5 hh5 up5 => wpAny_throw (tk _ _ ?_)
      refine ⟨a, B', { sI with heap := G }, pins, σ, H', cls, d, rfl, ?_, fun b o e hb => ?_, fun b o e hnf => ?_, .inr (.inr (by rw [hs]; exact hh5)), na, os, ag, w⟩
      · have ub : Un (frs X.stack) fp H3 H' s3.heap sI.heap := J.base
        have lt : ∀ b o, s3.heap.get? b = some o → b ≠ ce.locals := fun b o e z => by
          have := Heap.lt_size e
          rw [z, cL] at this
          exact Nat.lt_irrefl _ this
        refine I3.call' (ch := fp) J.os ⟨fun b o e n hb hx => gG b o (lt b o e) (ub.keep b o e n hb hx), fun b o e n hb hx => ?_, ub.free, fun b o e hx => ?_, ub.tups, ub.frzs, ub.tbls⟩ (fun b o q => (J.hok b o q).stay (fun c v hc r => gG c v (fun z => ?_) r) (fun _ r => r) fun _ _ r => r) J.bare f3
        · obtain ⟨sl, q⟩ := ub.slot b o e n hb hx
          exact ⟨sl, gG _ _ (lt b o e) q⟩
        · obtain ⟨o', q⟩ := ub.there b o e hx
          exact ⟨o', gG _ _ (lt b o e) q⟩
        · rcases hc with hc | hc
          · rw [← hc, z, nC] at q; cases q
          · rw [z, nC] at hc; cases hc
      · obtain ⟨n, e1⟩ := oG b o e
        rw [b1 b (decide_eq_true n)]
        exact nb b o e1 hb
      · obtain ⟨n, e1⟩ := oG b o e
        obtain ⟨sl, e2⟩ := up b o e1 hnf
        obtain ⟨sl3, e3⟩ := up3 b _ e2 hnf
        obtain ⟨sl5, e5⟩ := up5 b { o with slots := sl3 } (h34 b { o with slots := sl3 } n e3) hnf
        exact ⟨sl5, e5⟩
    first
      | exact wpAny_bind (wpAny_pure (wpAny_bind fin))
      | exact wpAny_bind fin
  cases use <;> exact goal
section
variable {X : Cx}
theorem lcE_core {pins : List (Addr × Obj)} {s : Shared} {σ : L2.St} {H : Hp} {Q : VK} {EE : XK} {elt tg iter : Expr} {ifs : List Expr} {scope : Scope} {own : List (Str × Nat)} {pos pos' : Pos} {wi : TI} {g : TG} {tt : TT} {te : TE} {use : Option (Value → Sem Unit)} {Qf : Value → Shared → Prop}
    (tk : Takes X (fun cls d _ H => EE cls d H)) (hst : X.stack = X.env :: X.outer) (hfm : X.env.frame = some X.env.locals)
    (hc : X.calm = true) (hN : X.N.Nodup) (I : Inv X pins σ H s) (hi : PI X tg iter wi) (ok : BlkOk X.N X.env.scope scope own)
    (hg : ∀ (s : Shared) (H : Hp) (C : Addr) (cl : List (Str × Addr)) (fp : List Addr), PG (X.blk s H scope (compEnvC scope cl C X.env) fp) tg g) (ht : ∀ (s : Shared) (H : Hp) (C : Addr) (cl : List (Str × Addr)) (fp : List Addr), PTs (X.blk s H scope (compEnvC scope cl C X.env) fp) ifs tt)
    (he : ∀ (s : Shared) (H : Hp) (C : Addr) (cl : List (Str × Addr)) (fp : List Addr), PE (blkE X s H scope (compEnvC scope cl C X.env) fp EE) elt te) (hs : ∀ x, foldedSetIterable iter X.env x = pure x)
    (h : tLc wi g tt te (own.map (·.2)) σ H Q)
    (hRR : ∀ D ce s' m H', Inv X pins σ H' s' → Q (.ref D) H' → s'.heap.Ns ce.locals m → FpOk X pins H' ce.locals → compPostE (model X.prog X.w) X.A X.xe use Qf (.ref D) ce (.ok .next) s') :
    wpAny (model X.prog X.w) X.A (comprehension (.ListComp elt [⟨tg, iter, ifs, 0⟩] scope pos) scope X.env pos' (newList []) false (eval iter X.env) use) Qf X.xe s := by
  have hfree : ∀ y ∈ scope.names, y.2 = .free → ∃ c, X.env.cells.lookup y.1 = some c := fun y hy e => by
    rcases ok.free y hy e with k | k
    · exact I.ok.has _ (.inl k)
    · exact I.ok.has _ (.inr k)
  refine comp_freeE (use := use) rfl hs (closure_ok hfree) ok.kind (fun y hy e => by rw [ok.uniq y hy, e])
    (thn (hi.run pins s σ H _ I h) fun xv s1 hx => thn hx fun itv s2 h2 => ?_)
  obtain ⟨it, fp, tn, J, H2, e, I2, T, st2, f2, q⟩ := h2
  subst e
  refine wpAny_newObj_type (newEnv_comp ?_) (by show 0 ≤ sizeLine; decide)
  generalize hD : s2.heap.objs.size = D
  have hDn : H2 D = none := I2.hok.fresh (Nat.le_of_eq hD)
  obtain ⟨W, ⟨m0, w0⟩, turn⟩ := q D hDn
  -- the new list
  generalize hs3 : ({ s2 with heap := s2.heap.push { cls := .type "list", data := .seq ([] : List Value).toArray } } : Shared) = s3
  have I3 : Inv X pins σ (upd H2 D (.lst [])) s3 := by
    rw [← hs3]
    refine I2.laid (t' := s2.toks) (fun b o e => Heap.get?_push_of_some _ e) (Nat.le_of_eq hD) ⟨Nat.zero_le _, [], 0, .nil, ?_⟩
    rw [← hD]
    exact Heap.get?_push_size _ rfl
  have h3 : s3.heap = s2.heap.push { cls := .type "list", data := .seq ([] : List Value).toArray } := by rw [← hs3]
  have sz : ∀ b ∈ fp, b < s2.heap.objs.size := fun b hb => by
    obtain ⟨o, e, _⟩ := T.obj _ _ st2 b hb
    exact Heap.lt_size e
  have f3 : ∀ b ∈ fp, FpOk X pins (upd H2 D (.lst [])) b ∧ b < s3.heap.objs.size := fun b hb => by
    have hlt := sz b hb
    refine ⟨⟨?_, (f2 b hb).2⟩, by rw [h3, Heap.size_push]; exact Nat.lt_succ_of_lt hlt⟩
    rw [upd_ne (by rw [← hD]; exact Nat.ne_of_lt hlt)]
    exact (f2 b hb).1
  have st3 : tn 0 s3.heap := T.keep _ _ _ st2 fun b _ o e => by rw [h3]; exact Heap.get?_push_of_some _ e
  have I4 := block_start I3 ok hN f3
  have pg := hg s3 (upd H2 D (.lst [])) s3.heap.objs.size (cellsFrom (s3.heap.objs.size + 1) scope.names (cloFrom X.env.cells scope.names [])) fp
  have pt := ht s3 (upd H2 D (.lst [])) s3.heap.objs.size (cellsFrom (s3.heap.objs.size + 1) scope.names (cloFrom X.env.cells scope.names [])) fp
  have pe := he s3 (upd H2 D (.lst [])) s3.heap.objs.size (cellsFrom (s3.heap.objs.size + 1) scope.names (cloFrom X.env.cells scope.names [])) fp
  show codeAny _ _ (.compStart (.ListComp elt [⟨tg, iter, ifs, 0⟩] scope pos) 0 (.ref it) (.ref D) (compEnvC scope (cellsFrom (s3.heap.objs.size + 1) scope.names (cloFrom X.env.cells scope.names [])) s3.heap.objs.size X.env)) (compPostE (model X.prog X.w) X.A X.xe use Qf (.ref D) (compEnvC scope (cellsFrom (s3.heap.objs.size + 1) scope.names (cloFrom X.env.cells scope.names [])) s3.heap.objs.size X.env)) { s3 with heap := pushCells (s3.heap.push { cls := .type "dict", data := .dict #[] }) scope.names }
  have nfp : ∀ b ∈ fp, (upd H2 D (.lst [])) b = none := fun b hb => (f3 b hb).1.1
  generalize hce : compEnvC scope (cellsFrom (s3.heap.objs.size + 1) scope.names (cloFrom X.env.cells scope.names [])) s3.heap.objs.size X.env = ce at I4 pg pt pe ⊢
  have cL : ce.locals = s3.heap.objs.size := by subst hce; rfl
  have cf : ce.frame = X.env.frame := by subst hce; rfl
  generalize hH3 : upd H2 D (.lst []) = H3 at I3 I4 pg pt pe w0 nfp f3
  generalize hs4 : ({ s3 with heap := pushCells (s3.heap.push { cls := .type "dict", data := .dict #[] }) scope.names } : Shared) = s4 at I4 ⊢
  have st4 : tn 0 s4.heap := T.keep _ _ _ st3 fun b _ o e => by rw [← hs4]; exact pushCells_keeps _ _ _ _ (Heap.get?_push_of_some _ e)
  have stat : ∀ {σ' : L2.St} {H' : Hp} {s' : Shared}, Inv (X.blk s3 H3 scope ce fp) [] σ' H' s' → (∀ b ∈ fp, H' b = none) → ∀ b ∈ fp, FpOk (X.blk s3 H3 scope ce fp) [] H' b := fun {σ' H' s'} I' hn b hb =>
    ⟨hn b hb, (I'.ok.exf b hb).1, I'.ok.exfs b hb, .inl hb, fun x c e => (I'.ok.exf b hb).2 x c e, fun p hp => absurd (show p ∈ ([] : List (Addr × Obj)) ++ [] from hp) (by simp)⟩
  have f3' : ∀ b ∈ fp, (b ∈ X.ex ∨ X.s_0.heap.objs.size ≤ b) ∧ b ≠ X.env.locals ∧ (∀ x c, X.env.cells.lookup x = some c → c ≠ b) ∧ ∀ p ∈ X.pn ++ pins, p.1 ≠ b := fun b hb => ⟨(f3 b hb).1.2.2.2.1, (f3 b hb).1.2.1, (f3 b hb).1.2.2.2.2.1, (f3 b hb).1.2.2.2.2.2⟩
  have loop : codeAny (model X.prog X.w) X.A (.compLoop (.ListComp elt [⟨tg, iter, ifs, 0⟩] scope pos) 0 (.ref it) (.ref D) ce) (compPostE (model X.prog X.w) X.A X.xe use Qf (.ref D) ce) s4 := by
    refine compLoop_any (fun n s' => ∃ i H', Inv (X.blk s3 H3 scope ce fp) [] (wipe σ (own.map (·.2))) H' s' ∧ tn i s'.heap ∧ (∀ b ∈ fp, H' b = none) ∧ W i n H') ?_ m0 ⟨0, H3, I4, st4, nfp, w0⟩
    rintro n s5 ⟨i, H5, I5, st5, n5, w5⟩
    rcases turn i n H5 w5 with ⟨stop, qq⟩ | ⟨go, Nx, hNx, step⟩
    · have td := T.done (X.blk s3 H3 scope ce fp) rfl rfl rfl hc i [] s5 _ H5 (fun _ _ => False) I5 (stat I5 n5) st5 stop
      refine thnF td fun r s6 ⟨hr, I6⟩ => ?_
      subst hr
      have I7 : Inv X pins σ H5 s6 := I3.call' (ch := fp) I6.os I6.base I6.hok I6.bare f3'
      have nC : H5 s3.heap.objs.size = none := by
        have z : H5 ce.locals = none := I6.free
        rw [cL] at z
        exact z
      obtain ⟨m, hn, _⟩ := I6.loc
      have hn : s6.heap.Ns ce.locals m := hn
      exact hRR D ce s6 m H5 I7 qq hn (by rw [cL]; exact I3.fpOk (Nat.le_refl _) nC)
    · have ti := T.item (X.blk s3 H3 scope ce fp) rfl rfl rfl hc i [] s5 _ H5 (fun _ _ => False) I5 (stat I5 n5) st5 go
      refine thnF ti fun r s6 ⟨u, hr, h6⟩ => ?_
      subst hr
      refine thnF h6 fun _ s7 ⟨x, H7, I7, r7, y7, st7, n7⟩ => ?_
      have I7' := I7.pinned (stat I7 n7) (T.obj _ _ st7)
      refine thnF (pg.run _ s7 _ H7 x u _ I7' r7 (step x H7 y7)) fun _ s8 ⟨σ8, H8, I8, hw8, q8⟩ => ?_
      refine thnF (pt.run _ s8 σ8 H8 _ I8 q8) fun b s9 ⟨H9, I9, q9⟩ => ?_
      have fin : ∀ {s' : Shared} {H' : Hp}, Inv (X.blk s3 H3 scope ce fp) ([] ++ pinsAt fp s7.heap) σ8 H' s' → Nx H' → ∃ m, m < n ∧ ∃ i H', Inv (X.blk s3 H3 scope ce fp) [] (wipe σ (own.map (·.2))) H' s' ∧ tn i s'.heap ∧ (∀ b ∈ fp, H' b = none) ∧ W i m H' := fun {s' H'} I' nx => by
        obtain ⟨m', hm, w'⟩ := hNx H' nx
        have pin' : ∀ b ∈ fp, ∀ o, s7.heap.get? b = some o → s'.heap.get? b = some o ∧ H' b = none := fun b hb o e =>
          let z := I'.pin (b, o) (List.mem_append_right _ (List.mem_append_right _ (mem_pinsAt hb e)))
          ⟨z.1, z.2.1⟩
        have hl : (wipe σ (own.map (·.2))).length = σ8.length := by rw [← hw8, wipe_length]
        refine ⟨m', hm, i + 1, H', (I'.unpinned (pins := [])).weak hl (fun j v e => ?_), T.keep _ _ _ st7 fun b hb o e => (pin' b hb o e).1, fun b hb => ?_, w'⟩
        · rw [← hw8] at e
          exact (wipe_some e).1
        · obtain ⟨o, e, _⟩ := T.obj _ _ st7 b hb
          exact (pin' b hb o e).2
      cases b with
      | false =>
        simp only [Bool.false_eq_true, if_false] at q9 ⊢
        exact fin I9 q9
      | true =>
        simp only [if_true] at q9 ⊢
        refine wpAny_mono (pe.run _ s9 σ8 H9 _ (inv_toE I9) q9) (fun z s10 ⟨yv, H10, I10, r10, acc, hD10, hz10, nx⟩ => ?_) fun u s10 xb => XB.out tk hst hfm I3 cf cL f3' xb
        exact app_ok (X := X.blk s3 H3 scope ce fp) (inv_ofE I10) hD10 hz10 r10 fun s11 I11 => fin I11 nx
  exact codeAny_compStart_list loop (T.self X.A 0 _ _ _ st4 loop)
/-- as a value -/
theorem pe_lcE {EE : XK} {elt tg iter : Expr} {ifs : List Expr} {scope : Scope} {own : List (Str × Nat)} {pos : Pos} {wi : TI} {g : TG} {tt : TT} {te : TE} (tk : Takes X (fun cls d _ H => EE cls d H)) (hst : X.stack = X.env :: X.outer) (hfm : X.env.frame = some X.env.locals) (hc : X.calm = true) (hN : X.N.Nodup) (hi : PI X tg iter wi) (ok : BlkOk X.N X.env.scope scope own)
    (hg : ∀ (s : Shared) (H : Hp) (C : Addr) (cl : List (Str × Addr)) (fp : List Addr), PG (X.blk s H scope (compEnvC scope cl C X.env) fp) tg g) (ht : ∀ (s : Shared) (H : Hp) (C : Addr) (cl : List (Str × Addr)) (fp : List Addr), PTs (X.blk s H scope (compEnvC scope cl C X.env) fp) ifs tt)
    (he : ∀ (s : Shared) (H : Hp) (C : Addr) (cl : List (Str × Addr)) (fp : List Addr), PE (blkE X s H scope (compEnvC scope cl C X.env) fp EE) elt te) (hs : ∀ x, foldedSetIterable iter X.env x = pure x := by intro _; rfl) :
    PE X (.ListComp elt [⟨tg, iter, ifs, 0⟩] scope pos) (tLc wi g tt te (own.map (·.2))) := by
  refine ⟨fun pins s σ H Q I h => ?_⟩
  rw [eval_ListComp]
  refine lcE_core tk hst hfm hc hN I hi ok hg ht he hs h fun D ce s' m H' I' q hn f => ⟨m, hn, fun h'' sb => ?_⟩
  obtain ⟨f0, f1, f2, f3, f4, f5⟩ := f
  exact ⟨.ref D, H', I'.turned (t' := s'.toks) (fun b o hb e => (sb.2 b hb).trans e) f0 f1 f3 f4 f5, rfl, q⟩
/-- name = [..] on one line, the name a local -/
theorem ps_setLcE {EE : XK} {i : Nat} {y : Str} {py : Pos} {elt tg iter : Expr} {ifs : List Expr} {scope : Scope} {own : List (Str × Nat)} {pos spos : Pos} {wi : TI} {g : TG} {tt : TT} {te : TE} (tk : Takes X (fun cls d _ H => EE cls d H)) (hst : X.stack = X.env :: X.outer) (hfm : X.env.frame = some X.env.locals) (hc : X.calm = true) (hN : X.N.Nodup) (hy : X.N[i]? = some y) (hyl : X.env.scope.names.lookup y = some .local)
    (hsw : swapsWith (.ListComp elt [⟨tg, iter, ifs, 0⟩] scope pos) (some (.Name y py)) spos.line X.env = pure true) (hi : PI X tg iter wi) (ok : BlkOk X.N X.env.scope scope own)
    (hg : ∀ (s : Shared) (H : Hp) (C : Addr) (cl : List (Str × Addr)) (fp : List Addr), PG (X.blk s H scope (compEnvC scope cl C X.env) fp) tg g) (ht : ∀ (s : Shared) (H : Hp) (C : Addr) (cl : List (Str × Addr)) (fp : List Addr), PTs (X.blk s H scope (compEnvC scope cl C X.env) fp) ifs tt)
    (he : ∀ (s : Shared) (H : Hp) (C : Addr) (cl : List (Str × Addr)) (fp : List Addr), PE (blkE X s H scope (compEnvC scope cl C X.env) fp EE) elt te) (hs : ∀ x, foldedSetIterable iter X.env x = pure x := by intro _; rfl) :
    PS X (.Assign [.Name y py] (.ListComp elt [⟨tg, iter, ifs, 0⟩] scope pos) spos) (tAsg (tLc wi g tt te (own.map (·.2))) (gName i)) := by
  refine ⟨fun pins s σ H D I h => ?_⟩
  rw [exec_Assign_Name_used _ _ _ _ hsw]
  refine wpAny_bind (wpAny_standAt (wpAny_bind ?_))
  show wpAny _ X.A (do let _ ← comprehension (.ListComp elt [⟨tg, iter, ifs, 0⟩] scope pos) scope X.env (firstIterPos [⟨tg, iter, ifs, 0⟩] pos) (newList []) false (eval iter X.env) (some (assign (.Name y py) X.env))) _ _ s
  have h : tLc wi g tt te (own.map (·.2)) σ H (fun x H1 => gName i x σ H1 D.nx) := h
  refine wpAny_bind (thn (lcE_core (Qf := fun _ s' => SP X pins D .next s') tk hst hfm hc hN I hi ok hg ht he hs h fun L ce s' m H' I' q hn f => ?_) fun _ s' hq => wpAny_pure (wpAny_pure hq))
  show wpAny _ _ (assign (.Name y py) X.env (.ref L)) _ _ _
  refine wpAny_assign_Name (store_ok2 (v := V.ref L) I' hN hy (.inl hyl) rfl (fun s2 I2 ⟨a, sb, ha⟩ => ?_) (.inr hyl))
  obtain ⟨f0, f1, f2, f3, f4, f5⟩ := f
  have haC : ce.locals ≠ a := by
    rcases ha with z | z
    · rw [z]; exact f1
    · exact fun e => f4 y a z e.symm
  refine ⟨m, hn.sameBut sb haC, fun h3 sb3 => ?_⟩
  exact ⟨_, H', I2.turned (t' := s2.toks) (fun b o hb e => (sb3.2 b hb).trans e) f0 f1 f3 f4 f5, q⟩
end
section
variable {X : Cx} {e o : Expr} {es : List Expr} {p pos apos : Pos} {ta : TE} {t : TA} {C m x : Str} {ps : List Str} {sp : Sp} {j k : Nat} {E : XK}
/-- calls in such a block -/
theorem pcallB (c : Cl X.prog X.w X.K X.mg X.base k x ps sp) (hr : Room j X.A) (hk : k ≤ j) (px : Passes (L2.CX X.prog X.w) X E) (ha : PA X (e :: es) t) (hg : Gl X x := by rfl)
    (he : starEach (e :: es) X.env = (false, eval e X.env) :: starEach es X.env := by rfl) (hpl : (backTo pos (starEach es X.env)).any (·.1) = false := by rfl) (hdb : (x == ("__debug__" : Str)) = false := by decide) :
    PE X (.Call (.Name x p) (e :: es) [] pos) (tCall sp [] E t) := by
  obtain ⟨f, fd, F, m, kp, b⟩ := c.ex
  exact pe_call F (hr.mono hk) hg m kp b .nil px ha hdb he hpl
theorem pmethB {pl : Sem Bool} {K : PySem.W.Frag} (hK : X.K = K) (c : MCl X.prog X.w K X.mg X.base k C m ps sp) (hr : Room j X.A) (hk : k ≤ j) (px : Passes (L2.CX X.prog X.w) X E) (he : PE X o ta) (ha : PA X (e :: es) t)
    (hst : starEach (e :: es) X.env = (false, eval e X.env) :: starEach es X.env := by rfl) (hpl : (backTo pos (starEach es X.env)).any (·.1) = false := by rfl)
    (ht : eval (.Call (.Attribute o m apos) (e :: es) [] pos) X.env = (do
      let ov ← eval o X.env
      standAt apos.atName
      let (f, first) ← holding [ov] (getMethod ov m pl)
      callWith pos f first (backTo pos (starEach (e :: es) X.env)) (backToKw pos (keywordEach [] X.env))) := by rfl) :
    PE X (.Call (.Attribute o m apos) (e :: es) [] pos) (tMethS (He.ga K C) m sp (fun _ => E) ta t) := by
  subst hK
  obtain ⟨f, fd, hc, hm, F, b⟩ := c.ex
  refine ⟨fun pins s σ H Q I h => (pe_meth (pl := pl) he hc hm F (hr.mono hk) b .nil px ha hst hpl ht).run pins s σ H Q I ?_⟩
  simp only [tMeth, List.append_nil]
  exact h
end
end Gx
/-! isinstance(e, (c, c2, ..)), e the error that a suite holds -/
namespace Gx
open PySem PySem.Spec PyProof.Rows L2
def rIsET (K : PySem.W.Frag) (a : Addr) (cls : Value) (d : Option Addr) : List V → Hp → VK → Prop := fun xs H Q => ∃ D : Addr, cls = .ref D ∧ (d = none ∨ ∃ dd fs, d = some dd ∧ H dd = some (.xd fs)) ∧ ExcC K D ∧
  ∃ (tp : Addr) (cs : List V) (us : List Value) (b : Bool), xs = [.ref a, .ref tp] ∧ H tp = some (.tup cs) ∧ PySem.Paired ClsV cs us ∧ PySem.W.kitAny K (.ref D) us = some b ∧ Q (.bl b) H
theorem call_isET {X : Cx} {a : Addr} {cls : Value} {d : Option Addr} {oe : Obj} {pn : List (Addr × Obj)} (hz : Zc cls d oe) (hf : ∃ vs, oe.data = .fields vs) : CallR (X.suite a ((a, oe) :: pn)) (.builtin "isinstance") (rIsET X.K a cls d) := by
  intro pins s σ H xs us Q I r h
  obtain ⟨D, rfl, hd, C, tp, cs, ws, b, rfl, hT, k, e, q⟩ := h
  obtain ⟨u1, u2, rfl, r1, r2⟩ := vals2 r
  cases (show u2 = Value.ref tp from r2)
  cases (show u1 = Value.ref a from r1)
  obtain ⟨_, its, rv, o, h1, h2, n, h3⟩ := (show ObjOk X.prog X.w H s.heap tp (.tup cs) from I.hok tp _ hT)
  have e3 := ClsV.all k rv
  subst e3
  obtain ⟨oc, od, dt, sl⟩ := o
  simp only at h2 h3
  subst h2 h3
  obtain ⟨hget, _⟩ := I.pin (a, oe) (List.mem_append.mpr (.inl List.mem_cons_self))
  obtain ⟨vs, hv⟩ := hf
  rcases hd with rfl | ⟨dd, fs, rfl, hdd⟩
  · have J : PySem.W.InstAt s.heap a oe D none := ⟨hget, hz.1, by unfold PySem.W.notCls; rw [hv] <;> rfl, by rw [hz.2]; exact trivial⟩
    exact PySem.W.kia_tup (PySem.W.kitx_exc (by obtain ⟨cd, hc, _⟩ := PySem.W.any_some C.hd; rw [hc]; rfl) C.hg C.hk C.hs C.ha C.hn C.ht C.hm) I.kIn J h1 e (fun z => nomatch z) fun tk => ⟨.bl b, H, I.kept (t' := tk) fun _ _ z => z, rfl, q⟩
  · have hx : ObjOk X.prog X.w H s.heap dd (.xd fs) := I.hok dd _ hdd
    obtain ⟨mA, hns, hr⟩ := hx
    obtain ⟨od, ho, hl⟩ := lookIn_ns hns
    have J : PySem.W.InstAt s.heap a oe D (some od) := ⟨hget, hz.1, by unfold PySem.W.notCls; rw [hv] <;> rfl, by rw [hz.2]; exact ho⟩
    exact PySem.W.kia_tup (PySem.W.kitx_exc (by obtain ⟨cd, hc, _⟩ := PySem.W.any_some C.hd; rw [hc]; rfl) C.hg C.hk C.hs C.ha C.hn C.ht C.hm) I.kIn J h1 e (fun z => nomatch z) fun tk => ⟨.bl b, H, I.kept (t' := tk) fun _ _ z => z, rfl, q⟩
theorem kany0 {K : PySem.W.Frag} {t : Value} : PySem.W.kitAny K t [] = some false := rfl
theorem kanyF {K : PySem.W.Frag} {t c : Value} {us : List Value} {b : Bool} (h : PySem.W.kitOne K t c = some false) (r : PySem.W.kitAny K t us = some b) : PySem.W.kitAny K t (c :: us) = some b := by
  show (match PySem.W.kitOne K t c with | some true => some true | some false => PySem.W.kitAny K t us | none => none) = some b
  rw [h]
  exact r
theorem kanyT {K : PySem.W.Frag} {t c : Value} {us : List Value} (h : PySem.W.kitOne K t c = some true) : PySem.W.kitAny K t (c :: us) = some true := by
  show (match PySem.W.kitOne K t c with | some true => some true | some false => PySem.W.kitAny K t us | none => none) = some true
  rw [h]
theorem k_isETD {K : PySem.W.Frag} {H : Hp} {Q : VK} {a D dd tp : Addr} {fs : List (Str × V)} {cs : List V} {us : List Value} {b : Bool} (h : H dd = some (.xd fs)) (C : ExcC K D) (ht : H tp = some (.tup cs)) (hp : PySem.Paired ClsV cs us) (hk : PySem.W.kitAny K (.ref D) us = some b) (q : Q (.bl b) H) : rIsET K a (.ref D) (some dd) [.ref a, .ref tp] H Q :=
  ⟨D, rfl, .inr ⟨dd, fs, rfl, h⟩, C, tp, cs, us, b, rfl, ht, hp, hk, q⟩
theorem k_isET {K : PySem.W.Frag} {H : Hp} {Q : VK} {a D tp : Addr} {cs : List V} {us : List Value} {b : Bool} (C : ExcC K D) (ht : H tp = some (.tup cs)) (hp : PySem.Paired ClsV cs us) (hk : PySem.W.kitAny K (.ref D) us = some b) (q : Q (.bl b) H) : rIsET K a (.ref D) none [.ref a, .ref tp] H Q :=
  ⟨D, rfl, .inl rfl, C, tp, cs, us, b, rfl, ht, hp, hk, q⟩
end Gx
/-! all(t), t a tuple; what is never reached -/
namespace Gx
open PySem PySem.Spec PyProof.Rows L2
def rAllT (K : PySem.W.Frag) : List V → Hp → VK → Prop := fun vs H Q => ∃ (a : Addr) (bs : List Bool), vs = [V.ref a] ∧ SqT K H a (bs.map V.bl) ∧ Q (.bl (bs.all id)) H
theorem cr_allT {X : Cx} (hc : X.calm = true) : CallR X (.builtin "all") (rAllT X.K) := by
  intro pins s σ H vs us Q I r h
  obtain ⟨a, bs, rfl, hs, q⟩ := h
  obtain ⟨its, rv, hl, _⟩ := I.tuple hs
  rw [Vals.ref1 r]
  have hb := rv.bls
  have hlt : a < s.heap.objs.size := hl.lt
  refine call_all_walk (wpAny_pyIter_tuple hl ?_)
  refine ⟨_, _, _, _, _, _, _, rfl, Walks.tuple (A := X.A.in1) (I.ok.hd hc) _ a (Nat.ne_of_lt hlt) its.toArray, ⟨⟨_, Heap.get?_push_size _ rfl, rfl, rfl⟩, hl.push _⟩, truth_bools hb, fun h' tk hk => ?_⟩
  refine ⟨.bl _, H, I.kept fun b o eo => hk b o (fun hmem => ?_) (Heap.get?_push_of_some _ eo), ?_, q⟩
  · rcases List.mem_cons.mp hmem with e1 | hmem
    · exact absurd (e1 ▸ Heap.lt_size eo) (Nat.lt_irrefl _)
    · cases hmem
  · show Value.bool _ = Value.bool _
    rw [← L2.all_range, hb, List.size_toArray, List.length_map]
theorem k_allT {K : PySem.W.Frag} {H : Hp} {Q : VK} {a : Addr} {bs : List Bool} (h : SqT K H a (bs.map V.bl)) (q : Q (.bl (bs.all id)) H) : rAllT K [.ref a] H Q := ⟨a, bs, rfl, h, q⟩
end Gx
namespace Gx
open PySem PySem.Spec PyProof.Rows L2
/-- code that is never reached -/
theorem ps_void {X : Cx} {st : Stmt} : PS X st (fun _ _ _ => False) := ⟨fun _ _ _ _ _ _ h => h.elim⟩
theorem pe_void {X : Cx} {e : Expr} : PE X e (fun _ _ _ => False) := ⟨fun _ _ _ _ _ _ h => h.elim⟩
end Gx
/-! x or y, x whatever has a truth -/
namespace Gx
open PySem PySem.Spec PyProof.Rows L2
def tOrU (K : PySem.W.Frag) (ta tb : TE) : TE := fun σ H Q => ta σ H fun x H1 => ∃ k, TruV K x H1 k ∧ if k = true then Q x H1 else tb σ H1 Q
theorem pe_orU {X : Cx} {K : PySem.W.Frag} {a b : Expr} {rest : List Expr} {pos : Pos} {ta tb : TE} (h : X.K = K) (ha : PE X a ta) (hb : PE X (.BoolOp .Or (b :: rest) pos) tb) : PE X (.BoolOp .Or (a :: b :: rest) pos) (tOrU K ta tb) := by
  subst h
  refine ⟨fun pins s σ H Q I h => ?_⟩
  refine BoolOp_or (thn (ha.run pins s σ H _ I h) fun v s1 ⟨x, H1, I1, r1, q1⟩ => ?_)
  obtain ⟨k, e, q1⟩ := q1
  refine thn (tru_ok pins s1 σ H1 x v (fun z H2 => z = k ∧ if k = true then Q x H2 else tb σ H2 Q) I1 r1 ⟨k, e, rfl, q1⟩) fun z s2 ⟨H2, I2, ez, q2⟩ => ?_
  subst ez
  cases z with
  | true => exact ⟨x, H2, I2, r1, q2⟩
  | false => exact hb.run pins s2 σ H2 Q I2 q2
theorem k_orU {K : PySem.W.Frag} {ta tb : TE} {σ : L2.St} {H : Hp} {Q : VK} (q : ta σ H fun x H1 => ∃ k, TruV K x H1 k ∧ if k = true then Q x H1 else tb σ H1 Q) : tOrU K ta tb σ H Q := q
end Gx
/-! dicts by texts -/
namespace Gx
open PySem PySem.Spec PyProof.Rows L2
def rDG (x y : V) (H : Hp) (Q : VK) : Prop := ∃ a v, x = .ref a ∧ DGet H a y (some v) ∧ Q v H
theorem pe_dgN {X : Cx} {k : Nat} {o i : Expr} {pos : Pos} {td ty : TE} (hr : Room k X.A) (ho : PE X o td) (hi : PE X i ty) (hs : NoSl i) : PE X (.Subscript o i pos) (tDGet td ty) := pe_dget (by have := hr.un; omega) ho hi hs
theorem ps_dpN {X : Cx} {k : Nat} {o i value : Expr} {pos pos' : Pos} {td ty tv : TE} (hr : Room k X.A) (ho : PE X o td) (hi : PE X i ty) (hv : PE X value tv) (hs : swapsWith value (some (.Subscript o i pos')) pos.line X.env = pure false) : PS X (.Assign [.Subscript o i pos'] value pos) (sDPut td ty tv) := ps_dput (by have := hr.un; omega) ho hi hv hs
theorem k_dget {td ty : TE} {σ : L2.St} {H : Hp} {Q : VK} (q : td σ H fun x H1 => ty σ H1 fun y H2 => rDG x y H2 Q) : tDGet td ty σ H Q := q
theorem k_dgx {a : Addr} {kvs : List (Key × V)} {z : Str} {v : V} {H : Hp} {Q : VK} (h : H a = some (.dK kvs)) (e : valV kvs (.inr z) = some v) (q : Q v H) : rDG (.ref a) (.str z) H Q := ⟨a, v, rfl, e ▸ DGet.k (k := .inr z) h, q⟩
def rDP (x y v : V) (H : Hp) (N : Hp → Prop) : Prop := ∃ a H4, x = .ref a ∧ DPut H a y v H4 ∧ N H4
theorem k_dput {td ty tv : TE} {D : Ends} {σ : L2.St} {H : Hp} (q : tv σ H fun v H1 => td σ H1 fun x H2 => ty σ H2 fun y H3 => rDP x y v H3 fun H4 => D.nx σ H4) : sDPut td ty tv D σ H := q
theorem putK_le {kvs : List (Key × V)} {k : Key} {v : V} : (putK kvs k v).length ≤ kvs.length + 1 := by
  unfold putK
  split
  · rw [List.length_map]; omega
  · rw [List.length_append]; simp
theorem k_dpx {a : Addr} {kvs : List (Key × V)} {z : Str} {v : V} {H : Hp} {N : Hp → Prop} (h : H a = some (.dK kvs)) (hl : kvs.length < sizeLine) (q : ∀ kvs' H', But a H H' → H' a = some (.dK kvs') → kvs'.length ≤ kvs.length + 1 → (∀ j : Str, valV kvs' (.inr j) = if j = z then some v else valV kvs (.inr j)) → N H') : rDP (.ref a) (.str z) v H N :=
  ⟨a, _, rfl, DPut.k (k := .inr z) h hl, q _ _ But.upd upd_same putK_le fun j => by
    rw [valV_put]
    by_cases e : j = z
    · rw [if_pos e, if_pos (by rw [e])]
    · rw [if_neg e, if_neg fun w => e (Sum.inr.inj w)]⟩
/-- a dict written out -/
def rDispE (p : Addr) (ps : List (V × V)) (H : Hp) (Q : VK) : Prop := H p = some (.dK []) ∧ ∃ kvs : List (Key × V), ps = kvs.map (fun kv => (kV kv.1, kv.2)) ∧ kvs.length ≤ 15 ∧ Q (.ref p) (upd H p (.dK (mergeK [] kvs)))
theorem k_dispG {trs : List (TE × TE)} {σ : L2.St} {H : Hp} {Q : VK} (q : ∀ p H1, H p = none → Same H H1 → H1 p = some (.dK []) → tPairs trs σ H1 fun ps H2 => rDispE p ps H2 Q) : tDisp trs σ H Q := fun p hp => q p _ hp (same_new hp) upd_same
theorem k_pairC {tk tv : TE} {r : List (TE × TE)} {σ : L2.St} {H : Hp} {Q : List (V × V) → Hp → Prop} (q : tk σ H fun x H1 => tv σ H1 fun y H2 => tPairs r σ H2 fun ps H3 => Q ((x, y) :: ps) H3) : tPairs ((tk, tv) :: r) σ H Q := q
theorem k_pair0 {σ : L2.St} {H : Hp} {Q : List (V × V) → Hp → Prop} (q : Q [] H) : tPairs [] σ H Q := q
theorem merge_look : ∀ (zs : List (Str × V)) (acc : List (Key × V)) (j : Str), valV (mergeK acc (zs.map fun z => (Sum.inr z.1, z.2))) (.inr j) = match zs.reverse.lookup j with | some v => some v | none => valV acc (.inr j)
  | [], acc, j => rfl
  | (z, v) :: r, acc, j => by
    have ih := merge_look r (putK acc (.inr z) v) j
    rw [List.map_cons]
    show valV (mergeK (putK acc (.inr z) v) _) _ = _
    rw [ih, valV_put, List.reverse_cons, List.lookup_append]
    cases r.reverse.lookup j with
    | some w => rfl
    | none =>
      by_cases e : j = z
      · subst e
        rw [if_pos rfl]
        simp [List.lookup]
      · have e2 : (j == z) = false := beq_eq_false_iff_ne.mpr e
        rw [if_neg fun w => e (Sum.inr.inj w)]
        simp [List.lookup, e2]
theorem merge_len : ∀ (zs acc : List (Key × V)), (mergeK acc zs).length ≤ acc.length + zs.length
  | [], acc => Nat.le_refl _
  | (k, v) :: r, acc => by
    have := merge_len r (putK acc k v)
    have h := putK_le (kvs := acc) (k := k) (v := v)
    show (mergeK (putK acc k v) r).length ≤ _
    rw [List.length_cons]
    omega
theorem k_dispX {p : Addr} {ps : List (V × V)} {H : Hp} {Q : VK} (zs : List (Str × V)) (h : H p = some (.dK [])) (e : ps = zs.map fun z => (V.str z.1, z.2)) (l : zs.length ≤ 15)
    (q : ∀ kvs H', But p H H' → H' p = some (.dK kvs) → kvs.length ≤ 15 → (∀ j : Str, valV kvs (.inr j) = zs.reverse.lookup j) → Q (.ref p) H') : rDispE p ps H Q := by
  refine ⟨h, zs.map fun z => (Sum.inr z.1, z.2), ?_, by rw [List.length_map]; exact l, q _ _ But.upd upd_same ?_ fun j => ?_⟩
  · rw [e, List.map_map]; rfl
  · have := merge_len (zs.map fun z => ((Sum.inr z.1 : Key), z.2)) []
    rw [List.length_map] at this
    simpa using Nat.le_trans this (by simpa using l)
  · rw [merge_look]
    cases zs.reverse.lookup j <;> rfl
end Gx
namespace Gx
open PySem PySem.Spec PyProof.Rows L2
/-- d[z] = v, where z is a key already -/
theorem k_dpe {a : Addr} {kvs : List (Key × V)} {z : Str} {u v : V} {H : Hp} {N : Hp → Prop} (h : H a = some (.dK kvs)) (e : valV kvs (.inr z) = some u) (hl : kvs.length < sizeLine) (q : ∀ kvs' H', But a H H' → H' a = some (.dK kvs') → kvs'.length = kvs.length → (∀ j : Str, valV kvs' (.inr j) = if j = z then some v else valV kvs (.inr j)) → N H') : rDP (.ref a) (.str z) v H N := by
  have len : (putK kvs (Sum.inr z : Key) v).length = kvs.length := by
    unfold putK
    rw [if_pos (by rw [valV_any, e]; rfl), List.length_map]
  exact ⟨a, _, rfl, DPut.k (k := .inr z) h hl, q _ _ But.upd upd_same len fun j => by
    rw [valV_put]
    by_cases e : j = z
    · rw [if_pos e, if_pos (by rw [e])]
    · rw [if_neg e, if_neg fun w => e (Sum.inr.inj w)]⟩
end Gx
open PySem PySem.Spec PyProof.Rows L2 Gx
local macro_rules | `(tactic| walk_at "s1") => `(tactic| first
  | refine k_var rfl ?_ | refine k_c ?_ | refine k_op ?_ | refine k_seq ?_ | refine k_asg ?_ | refine k_gn ?_ | refine k_gcons ?_ | refine k_gnil ?_ | refine k_ifs ?_ | refine k_tst ?_ | refine k_B ?_ | refine k_bl ?_
  | refine k_ret ?_ | refine k_drop ?_ | refine k_next ?_ | refine k_par ?_ | refine k_two ?_ | refine k_for ?_ | refine k_iRng1 ?_ | refine k_iRng2 ?_ | refine k_iList ?_ | refine k_iTup ?_ | refine k_iSeqU ?_
  | refine k_cb ?_ | refine k_cons ?_ | refine k_nil ?_ | refine k_callS ?_ | refine k_call ?_ | refine k_tup0 ?_ | refine k_lst0 ?_ | refine k_bm0 ?_ | refine k_bm ?_
  | refine k_and ?_ | refine k_or ?_ | refine k_not ?_ | refine k_andV ?_ | refine k_orV ?_ | refine k_notV ?_ | refine k_ife ?_ | refine k_chain ?_ | refine k_un ?_ | refine k_rev ?_ | refine k_st ?_ | refine k_revT ?_
  | refine k_I0 ?_ | refine k_addI ?_ | refine k_eqI ?_ | refine k_neI ?_ | refine k_eqT ?_ | refine k_neT ?_ | refine k_eqB ?_ | refine k_neB ?_ | refine k_neg ?_
  | refine k_dget ?_ | refine k_dput ?_ | refine k_pairC ?_ | refine k_pair0 ?_ | refine k_fld ?_ | refine k_sfld ?_ | refine k_meth ?_ | refine k_make ?_ | refine k_makeB ?_ | refine k_makeS ?_ | refine k_revR ?_ | refine k_iEnum ?_ | refine k_iEnumT ?_ | refine k_isBl ?_ | refine k_notBl ?_ | refine k_lenSetT ?_ | refine k_mk0 ?_ | refine k_mkF ?_ | refine k_iZipM ?_ | refine k_iZipN ?_ | refine k_iStr ?_ | refine k_itS ?_ | refine k_iZipU ?_ | refine k_cntT ?_ | refine k_veI ?_ | refine k_ost ?_ | refine k_xf ?_ | refine k_aug rfl ?_ | refine k_ip ?_ | refine k_frz ?_ | refine k_gsub ?_ | refine k_m1 ?_ | refine k_m0 ?_ | refine k_isS ?_ | refine k_abs ?_ | refine k_max ?_ | refine k_min ?_ | refine k_intI ?_ | refine k_intB ?_ | refine k_lc ?_ | refine k_yes ?_ | refine k_listRg ?_ | refine k_rg1 ?_ | refine k_sl ?_ | refine k_part ?_ | refine k_noPart ?_ | refine k_int ?_ | refine k_dict0 ?_ | refine k_isN ?_ | refine k_notN ?_
  | refine k_nonT ?_ | refine k_nonF ?_ | refine k_refT ?_ | refine k_refF ?_ | refine k_blT ?_ | refine k_blF ?_ | refine k_strT ?_ | refine k_strF ?_ | refine k_ifT ?_ | refine k_ifF ?_ | refine k_ifnT ?_ | refine k_ifnF ?_)
local macro_rules | `(tactic| walk_at "s2") => `(tactic| first
  | refine k_powc (a := 10) (b := 61) (c := 10000000000000000000000000000000000000000000000000000000000000) (by decide +kernel) (cpow (by decide) (by decide) (by decide)) ?_
  | refine k_powc (a := 10) (b := 60) (c := 1000000000000000000000000000000000000000000000000000000000000) (by decide +kernel) (cpow (by decide) (by decide) (by decide)) ?_
  | refine k_powc (a := 10) (b := 12) (c := 1000000000000) (by decide +kernel) (cpow (by decide) (by decide) (by decide)) ?_
  | refine k_powc (a := 10) (b := 5) (c := 100000) (by decide +kernel) (cpow (by decide) (by decide) (by decide)) ?_
  | refine k_powc (a := 10) (b := 6) (c := 1000000) (by decide +kernel) (cpow (by decide) (by decide) (by decide)) ?_
  | refine k_powc (a := 10) (b := 9) (c := 1000000000) (by decide +kernel) (cpow (by decide) (by decide) (by decide)) ?_
  | refine k_powc (a := 10) (b := 20) (c := 100000000000000000000) (by decide +kernel) (cpow (by decide) (by decide) (by decide)) ?_
  | refine k_powc (a := 10) (b := 50) (c := 100000000000000000000000000000000000000000000000000) (by decide +kernel) (cpow (by decide) (by decide) (by decide)) ?_
  | refine k_powc (a := 10) (b := 58) (c := 10000000000000000000000000000000000000000000000000000000000) (by decide +kernel) (cpow (by decide) (by decide) (by decide)) ?_
  | refine k_mod (by first | decide | omega) ?_
  | refine k_div (by first | decide | omega) (by first | decide +kernel | exact k_log (by omega)) ?_)
local macro_rules | `(tactic| walk_at "go") => `(tactic| repeat (first | with_reducible walk_at "s1" | with_reducible walk_at "s2"))
local macro_rules | `(tactic| walk_at "up") => `(tactic| first | assumption | (refine up_same (by assumption) ?_; walk_at "up") | (refine up_but (by assumption) (by first | assumption | (apply Ne.symm; assumption)) ?_; walk_at "up"))
local macro_rules | `(tactic| walk_at "ut") => `(tactic| first | assumption | exact SqT.of (by assumption) | (refine seqT_same (by assumption) ?_; walk_at "ut"))
local macro_rules | `(tactic| walk_at "ul") => `(tactic| first | assumption | exact SqL.of (by assumption) | (refine seqL_same (by assumption) ?_; walk_at "ul"))
local macro_rules | `(tactic| walk_at "n") => `(tactic| first | with_reducible walk_at "s1" | with_reducible walk_at "s2")
local macro_rules | `(tactic| walk_at "lk") => `(tactic| first | exact lk1 | (apply lkn; (decide +kernel); walk_at "lk"))
local macro_rules | `(tactic| walk_at "lz") => `(tactic| first | exact lk0 | (apply lkz; (decide +kernel); walk_at "lz"))
local macro_rules | `(tactic| walk_at "pf") => `(tactic| first | rfl | (rw [pfn]; (walk_at "pf"); (decide +kernel)) | (rw [pf1]; walk_at "pf") | (rw [pf0]; walk_at "pf"))
local macro_rules | `(tactic| walk_at "pl") => `(tactic| first | (simp only [List.length_cons, List.length_nil]; done) | (simp only [List.length_cons, List.length_nil]; decide) | exact Nat.lt_of_lt_of_le pfl0 (by decide) | exact Nat.lt_of_lt_of_le (pfl pfl0) (by decide) | exact Nat.lt_of_lt_of_le (pfl (pfl pfl0)) (by decide) | exact Nat.lt_of_lt_of_le (pfl (pfl (pfl pfl0))) (by decide) | exact Nat.lt_of_lt_of_le (pfl (pfl (pfl (pfl pfl0)))) (by decide) | exact Nat.lt_of_lt_of_le (pfl (pfl (pfl (pfl (pfl pfl0))))) (by decide) | exact Nat.lt_of_lt_of_le (pfl (pfl (pfl (pfl (pfl (pfl pfl0)))))) (by decide) | exact Nat.lt_of_lt_of_le (pfl (pfl (pfl (pfl (pfl (pfl (pfl pfl0))))))) (by decide) | exact Nat.lt_of_lt_of_le (pfl (pfl (pfl (pfl (pfl (pfl (pfl (pfl pfl0)))))))) (by decide) | exact Nat.lt_of_lt_of_le (pfl (pfl (pfl (pfl (pfl (pfl (pfl (pfl (pfl pfl0))))))))) (by decide) | (simp; done))
local macro_rules | `(tactic| walk_at "st") => `(tactic| repeat (first | with_reducible refine k_next ?_ | with_reducible refine k_seq ?_))
namespace Lw
open PySem PySem.Spec PyProof.Rows L2 Gx
def top (i : Nat) : Stmt := PySem.Challenge.pw_surecount_k21_no_contests.main.body.getD i (.Pass ⟨0, 0, 0, 0⟩)
abbrev s_NoText___init__ : Stmt := inClass (top 11) 0
theorem sc_NoText___init__ : FnScope ["self", "row"] ["self", "row"] (defScope s_NoText___init__) := ⟨rfl, rfl, rfl, by decide +kernel, rfl, by decide +kernel, by decide +kernel⟩
abbrev s_is_whole : Stmt := top 15
theorem sc_is_whole : FnScope ["thing"] ["thing"] (defScope s_is_whole) := ⟨rfl, rfl, rfl, by decide +kernel, rfl, by decide +kernel, by decide +kernel⟩
abbrev s_in_common : Stmt := top 16
theorem sc_in_common : FnScope ["a", "b"] ["a", "b"] (defScope s_in_common) := ⟨rfl, rfl, rfl, by decide +kernel, rfl, by decide +kernel, by decide +kernel⟩
abbrev s_below : Stmt := top 17
theorem sc_below : FnScope ["x", "y"] ["x", "y"] (defScope s_below) := ⟨rfl, rfl, rfl, by decide +kernel, rfl, by decide +kernel, by decide +kernel⟩
abbrev s_is_fraction : Stmt := top 18
theorem sc_is_fraction : FnScope ["thing"] ["thing"] (defScope s_is_fraction) := ⟨rfl, rfl, rfl, by decide +kernel, rfl, by decide +kernel, by decide +kernel⟩
abbrev s_shown_fraction : Stmt := top 22
theorem sc_shown_fraction : FnScope ["x"] ["x"] (defScope s_shown_fraction) := ⟨rfl, rfl, rfl, by decide +kernel, rfl, by decide +kernel, by decide +kernel⟩
abbrev s_number_by : Stmt := top 23
theorem sc_number_by : FnScope ["word", "sign"] ["word"] (defScope s_number_by) := ⟨rfl, rfl, rfl, by decide +kernel, rfl, by decide +kernel, by decide +kernel⟩
abbrev s_read_fraction : Stmt := top 24
theorem sc_read_fraction : FnScope ["text", "words", "first", "x"] ["text"] (defScope s_read_fraction) := ⟨rfl, rfl, rfl, by decide +kernel, rfl, by decide +kernel, by decide +kernel⟩
abbrev s_Contest___init__ : Stmt := inClass (top 26) 0
theorem sc_Contest___init__ : FnScope ["self", "names"] ["self", "names"] (defScope s_Contest___init__) := ⟨rfl, rfl, rfl, by decide +kernel, rfl, by decide +kernel, by decide +kernel⟩
abbrev s_Contest_named : Stmt := inClass (top 26) 1
theorem sc_Contest_named : FnScope ["self"] ["self"] (defScope s_Contest_named) := ⟨rfl, rfl, rfl, by decide +kernel, rfl, by decide +kernel, by decide +kernel⟩
abbrev s_Most___init__ : Stmt := inClass (top 27) 0
theorem sc_Most___init__ : FnScope ["self", "names", "seats"] ["self", "names", "seats"] (defScope s_Most___init__) := ⟨rfl, rfl, rfl, by decide +kernel, rfl, by decide +kernel, by decide +kernel⟩
abbrev s_Portion___init__ : Stmt := inClass (top 28) 0
theorem sc_Portion___init__ : FnScope ["self", "names", "share"] ["self", "names", "share"] (defScope s_Portion___init__) := ⟨rfl, rfl, rfl, by decide +kernel, rfl, by decide +kernel, by decide +kernel⟩
abbrev s_is_name : Stmt := top 33
theorem sc_is_name : FnScope ["word", "sign"] ["word"] (defScope s_is_name) := ⟨rfl, rfl, rfl, by decide +kernel, rfl, by decide +kernel, by decide +kernel⟩
abbrev s_is_count : Stmt := top 34
theorem sc_is_count : FnScope ["word", "sign"] ["word"] (defScope s_is_count) := ⟨rfl, rfl, rfl, by decide +kernel, rfl, by decide +kernel, by decide +kernel⟩
abbrev s_are_names : Stmt := top 35
theorem sc_are_names : FnScope ["words", "word"] ["words"] (defScope s_are_names) := ⟨rfl, rfl, rfl, by decide +kernel, rfl, by decide +kernel, by decide +kernel⟩
abbrev s_shown_contest : Stmt := top 36
theorem sc_shown_contest : FnScope ["contest", "names"] ["contest"] (defScope s_shown_contest) := ⟨rfl, rfl, rfl, by decide +kernel, rfl, by decide +kernel, by decide +kernel⟩
abbrev s_read_most : Stmt := top 37
theorem sc_read_most : FnScope ["word", "names"] ["word", "names"] (defScope s_read_most) := ⟨rfl, rfl, rfl, by decide +kernel, rfl, by decide +kernel, by decide +kernel⟩
abbrev s_read_portion : Stmt := top 38
theorem sc_read_portion : FnScope ["word", "names", "share"] ["word", "names"] (defScope s_read_portion) := ⟨rfl, rfl, rfl, by decide +kernel, rfl, by decide +kernel, by decide +kernel⟩
abbrev s_read_contest : Stmt := top 39
theorem sc_read_contest : FnScope ["text", "words"] ["text"] (defScope s_read_contest) := ⟨rfl, rfl, rfl, by decide +kernel, rfl, by decide +kernel, by decide +kernel⟩
abbrev s__law_source : Stmt := top 41
theorem sc__law_source : FnScope ["_law_script", "_law_cells", "_law_k", "_law_number", "_law_other", "_law_cell"] ["_law_script"] (defScope s__law_source) := ⟨rfl, rfl, rfl, by decide +kernel, rfl, by decide +kernel, by decide +kernel⟩
abbrev s__law_draw : Stmt := top 42
theorem sc__law_draw : FnScope ["_law_source_here", "_law_most", "_law_at", "_law_cell"] ["_law_source_here", "_law_most"] (defScope s__law_draw) := ⟨rfl, rfl, rfl, by decide +kernel, rfl, by decide +kernel, by decide +kernel⟩
abbrev s__law_unlike : Stmt := top 43
theorem sc__law_unlike : FnScope ["_law_source_here", "_law_many", "_law_letters", "_law_k", "_law_base", "_law_at", "_law_first", "_law_found"] ["_law_source_here", "_law_many"] (defScope s__law_unlike) := ⟨rfl, rfl, rfl, by decide +kernel, rfl, by decide +kernel, by decide +kernel⟩
abbrev s__law_lowest : Stmt := top 44
theorem sc__law_lowest : FnScope ["_law_a", "_law_b", "_law_one", "_law_other"] ["_law_a", "_law_b"] (defScope s__law_lowest) := ⟨rfl, rfl, rfl, by decide +kernel, rfl, by decide +kernel, by decide +kernel⟩
abbrev s__law_half : Stmt := top 45
theorem sc__law_half : FnScope ["_law_source_here", "_law_whole", "_law_least"] ["_law_source_here"] (defScope s__law_half) := ⟨rfl, rfl, rfl, by decide +kernel, rfl, by decide +kernel, by decide +kernel⟩
abbrev s__law_is_name : Stmt := top 46
theorem sc__law_is_name : FnScope ["_law_word", "_law_sign"] ["_law_word"] (defScope s__law_is_name) := ⟨rfl, rfl, rfl, by decide +kernel, rfl, by decide +kernel, by decide +kernel⟩
abbrev s__law_is_count : Stmt := top 47
theorem sc__law_is_count : FnScope ["_law_word", "_law_sign"] ["_law_word"] (defScope s__law_is_count) := ⟨rfl, rfl, rfl, by decide +kernel, rfl, by decide +kernel, by decide +kernel⟩
abbrev s__law_is_share : Stmt := top 48
theorem sc__law_is_share : FnScope ["_law_word", "_law_parts", "_law_one", "_law_other"] ["_law_word"] (defScope s__law_is_share) := ⟨rfl, rfl, rfl, by decide +kernel, rfl, by decide +kernel, by decide +kernel⟩
abbrev s__law_is_contest : Stmt := top 49
theorem sc__law_is_contest : FnScope ["_law_text", "_law_words", "_law_names", "_law_name"] ["_law_text"] (defScope s__law_is_contest) := ⟨rfl, rfl, rfl, by decide +kernel, rfl, by decide +kernel, by decide +kernel⟩
abbrev s__law_piece : Stmt := top 50
theorem sc__law_piece : FnScope ["_law_source_here", "_law_some"] ["_law_source_here"] (defScope s__law_piece) := ⟨rfl, rfl, rfl, by decide +kernel, rfl, by decide +kernel, by decide +kernel⟩
abbrev s__law_bent : Stmt := top 51
theorem sc__law_bent : FnScope ["_law_source_here", "_law_text", "_law_words", "_law_at", "_law_spot", "_law_sign", "_law_way", "_law_last"] ["_law_source_here", "_law_text"] (defScope s__law_bent) := ⟨rfl, rfl, rfl, by decide +kernel, rfl, by decide +kernel, by decide +kernel⟩
abbrev s__law_told : Stmt := top 52
theorem sc__law_told : FnScope ["_law_thing", "_law_told_here", "e", "_law_others"] ["_law_thing"] (defScope s__law_told) := ⟨rfl, rfl, rfl, by decide +kernel, rfl, by decide +kernel, by decide +kernel⟩
abbrev s_law : Stmt := top 53
theorem sc_law : FnScope ["_law_script", "_law_source_here", "_law_names", "_law_text", "_law_part", "_law_whole", "_law_k", "_law_bent_here", "_law_thing"] ["_law_script"] (defScope s_law) := ⟨rfl, rfl, rfl, by decide +kernel, rfl, by decide +kernel, by decide +kernel⟩
abbrev FnP (K : PySem.W.Frag) (x q : Str) (st : Stmt) (f : Addr) (fd : FuncData) : Prop := FunD K x q (defArgs st) (defBody st) (defScope st) [] [] f fd
structure Txt (K : PySem.W.Frag) (mg : Str → Option Value) : Prop where
  n_ValueError : mg "ValueError" = none
  n_abs : mg "abs" = none
  n_all : mg "all" = none
  n_bool : mg "bool" = none
  n_enumerate : mg "enumerate" = none
  n_int : mg "int" = none
  n_isinstance : mg "isinstance" = none
  n_len : mg "len" = none
  n_list : mg "list" = none
  n_range : mg "range" = none
  n_set : mg "set" = none
  n_sorted : mg "sorted" = none
  n_str : mg "str" = none
  n_sum : mg "sum" = none
  n_tuple : mg "tuple" = none
  n_zip : mg "zip" = none
  c_Ended : ∃ u, mg "Ended" = some u ∧ RelV (.ref (He.ga K "Ended")) u
  c_FIGURES_contesttexts : ∃ u, mg "FIGURES_contesttexts" = some u ∧ RelV (.str "0123456789") u
  c_FIGURES_figures : ∃ u, mg "FIGURES_figures" = some u ∧ RelV (.str "0123456789") u
  c_LETTERS : ∃ u, mg "LETTERS" = some u ∧ RelV (.str "abcdefghijklmnopqrstuvwxyz") u
  c_MOST_FIGURES : ∃ u, mg "MOST_FIGURES" = some u ∧ RelV (.int 60) u
  c_MOST_PART : ∃ u, mg "MOST_PART" = some u ∧ RelV (.int 999999) u
  c_Most : ∃ u, mg "Most" = some u ∧ RelV (.ref (He.ga K "Most")) u
  c_NoBallot : ∃ u, mg "NoBallot" = some u ∧ RelV (.ref (He.ga K "NoBallot")) u
  c_NoFraction : ∃ u, mg "NoFraction" = some u ∧ RelV (.ref (He.ga K "NoFraction")) u
  c_NoMargin : ∃ u, mg "NoMargin" = some u ∧ RelV (.ref (He.ga K "NoMargin")) u
  c_NoName : ∃ u, mg "NoName" = some u ∧ RelV (.ref (He.ga K "NoName")) u
  c_NoNumber : ∃ u, mg "NoNumber" = some u ∧ RelV (.ref (He.ga K "NoNumber")) u
  c_NoOutcome : ∃ u, mg "NoOutcome" = some u ∧ RelV (.ref (He.ga K "NoOutcome")) u
  c_NoRow : ∃ u, mg "NoRow" = some u ∧ RelV (.ref (He.ga K "NoRow")) u
  c_NoStake : ∃ u, mg "NoStake" = some u ∧ RelV (.ref (He.ga K "NoStake")) u
  c_NoText : ∃ u, mg "NoText" = some u ∧ RelV (.ref (He.ga K "NoText")) u
  c_TooMany : ∃ u, mg "TooMany" = some u ∧ RelV (.ref (He.ga K "TooMany")) u
  cl_Contest : Cls K (He.ga K "Contest")
  f_Contest_names : NoAttr K (He.ga K "Contest") "names"
  cl_Portion : Cls K (He.ga K "Portion")
  f_Portion_share : NoAttr K (He.ga K "Portion") "share"
  f_Portion_names : NoAttr K (He.ga K "Portion") "names"
  cl_Most : Cls K (He.ga K "Most")
  f_Most_seats : NoAttr K (He.ga K "Most") "seats"
  f_Most_names : NoAttr K (He.ga K "Most") "names"
  su_Contest___init__ : ClX.CRead K (He.ga K "Contest") (.type "type") ∧ PySem.W.findCls K (.ref (He.ga K "Contest")) (.type "type") "__init__" = some (.val (.ref (He.ma K (He.ga K "Contest") "__init__"))) ∧ PySem.W.keepIn K (.ref (He.ma K (He.ga K "Contest") "__init__")) = true
  gs_Contest___init__ : mg "Contest" = some (.ref (He.ga K "Contest"))
  me_Portion_named : Meth K (He.ga K "Portion") "named" (He.ma K (He.ga K "Contest") "named")
  me_Most_named : Meth K (He.ga K "Most") "named" (He.ma K (He.ga K "Contest") "named")
  mk_Most : Mk K (He.ga K "Most") (He.ma K (He.ga K "Most") "__init__")
  gk_Most : mg "Most" = some (.ref (He.ga K "Most"))
  mk_Portion : Mk K (He.ga K "Portion") (He.ma K (He.ga K "Portion") "__init__")
  gk_Portion : mg "Portion" = some (.ref (He.ga K "Portion"))
  g_NoText : mg "NoText" = some (.ref (He.ga K "NoText"))
  g_SureError : mg "SureError" = some (.ref (He.ga K "SureError"))
  o_NoText : OexC K (He.ga K "NoText")
  oi_NoText : PySem.W.findIn K (.ref (He.ga K "NoText")) "__init__" = some (some (.ref (He.ma K (He.ga K "NoText") "__init__"))) ∧ PySem.W.typeIn K (.ref (He.ma K (He.ga K "NoText") "__init__")) = some (.type "function")
  f_NoText_row : PySem.W.findIn K (.ref (He.ga K "NoText")) "row" = some none
  s_SureError : SupC K (He.ga K "SureError")
  xf_NoText : XfC K (He.ga K "NoText")
  in_Contest : InsT K (He.ga K "Contest")
  in_Most : InsT K (He.ga K "Most")
  in_Portion : InsT K (He.ga K "Portion")
  ii_Contest_Most : PySem.W.kitOne K (.ref (He.ga K "Contest")) (.ref (He.ga K "Most")) = some false
  ii_Most_Most : PySem.W.kitOne K (.ref (He.ga K "Most")) (.ref (He.ga K "Most")) = some true
  ii_Portion_Most : PySem.W.kitOne K (.ref (He.ga K "Portion")) (.ref (He.ga K "Most")) = some false
  e_NoText : ExcC K (He.ga K "NoText")
  i_NoText_Ended : PySem.W.kitOne K (.ref (He.ga K "NoText")) (.ref (He.ga K "Ended")) = some false
  i_NoText_NoBallot : PySem.W.kitOne K (.ref (He.ga K "NoText")) (.ref (He.ga K "NoBallot")) = some false
  i_NoText_NoFraction : PySem.W.kitOne K (.ref (He.ga K "NoText")) (.ref (He.ga K "NoFraction")) = some false
  i_NoText_NoMargin : PySem.W.kitOne K (.ref (He.ga K "NoText")) (.ref (He.ga K "NoMargin")) = some false
  i_NoText_NoName : PySem.W.kitOne K (.ref (He.ga K "NoText")) (.ref (He.ga K "NoName")) = some false
  i_NoText_NoNumber : PySem.W.kitOne K (.ref (He.ga K "NoText")) (.ref (He.ga K "NoNumber")) = some false
  i_NoText_NoOutcome : PySem.W.kitOne K (.ref (He.ga K "NoText")) (.ref (He.ga K "NoOutcome")) = some false
  i_NoText_NoRow : PySem.W.kitOne K (.ref (He.ga K "NoText")) (.ref (He.ga K "NoRow")) = some false
  i_NoText_NoStake : PySem.W.kitOne K (.ref (He.ga K "NoText")) (.ref (He.ga K "NoStake")) = some false
  i_NoText_NoText : PySem.W.kitOne K (.ref (He.ga K "NoText")) (.ref (He.ga K "NoText")) = some true
  i_NoText_TooMany : PySem.W.kitOne K (.ref (He.ga K "NoText")) (.ref (He.ga K "TooMany")) = some false
  i_NoText_ValueError : PySem.W.kitOne K (.ref (He.ga K "NoText")) (.type "ValueError") = some true
  m_NoText_SureError : PySem.W.exmOne K (.ref (He.ga K "NoText")) (.ref (He.ga K "SureError")) = some true
end Lw
namespace Lw
open PySem PySem.Spec PyProof.Rows L2 Gx
def d_NoText___init__ : He.DefD := ⟨("NoText", some "__init__"), "__init__", "NoText.__init__", defArgs s_NoText___init__, defBody s_NoText___init__, defScope s_NoText___init__, [], []⟩
def d_is_whole : He.DefD := ⟨("is_whole", none), "is_whole", "is_whole", defArgs s_is_whole, defBody s_is_whole, defScope s_is_whole, [], []⟩
def d_in_common : He.DefD := ⟨("in_common", none), "in_common", "in_common", defArgs s_in_common, defBody s_in_common, defScope s_in_common, [], []⟩
def d_below : He.DefD := ⟨("below", none), "below", "below", defArgs s_below, defBody s_below, defScope s_below, [], []⟩
def d_is_fraction : He.DefD := ⟨("is_fraction", none), "is_fraction", "is_fraction", defArgs s_is_fraction, defBody s_is_fraction, defScope s_is_fraction, [], []⟩
def d_shown_fraction : He.DefD := ⟨("shown_fraction", none), "shown_fraction", "shown_fraction", defArgs s_shown_fraction, defBody s_shown_fraction, defScope s_shown_fraction, [], []⟩
def d_number_by : He.DefD := ⟨("number_by", none), "number_by", "number_by", defArgs s_number_by, defBody s_number_by, defScope s_number_by, [], []⟩
def d_read_fraction : He.DefD := ⟨("read_fraction", none), "read_fraction", "read_fraction", defArgs s_read_fraction, defBody s_read_fraction, defScope s_read_fraction, [], []⟩
def d_Contest___init__ : He.DefD := ⟨("Contest", some "__init__"), "__init__", "Contest.__init__", defArgs s_Contest___init__, defBody s_Contest___init__, defScope s_Contest___init__, [], []⟩
def d_Contest_named : He.DefD := ⟨("Contest", some "named"), "named", "Contest.named", defArgs s_Contest_named, defBody s_Contest_named, defScope s_Contest_named, [], []⟩
def d_Most___init__ : He.DefD := ⟨("Most", some "__init__"), "__init__", "Most.__init__", defArgs s_Most___init__, defBody s_Most___init__, defScope s_Most___init__, [], []⟩
def d_Portion___init__ : He.DefD := ⟨("Portion", some "__init__"), "__init__", "Portion.__init__", defArgs s_Portion___init__, defBody s_Portion___init__, defScope s_Portion___init__, [], []⟩
def d_is_name : He.DefD := ⟨("is_name", none), "is_name", "is_name", defArgs s_is_name, defBody s_is_name, defScope s_is_name, [], []⟩
def d_is_count : He.DefD := ⟨("is_count", none), "is_count", "is_count", defArgs s_is_count, defBody s_is_count, defScope s_is_count, [], []⟩
def d_are_names : He.DefD := ⟨("are_names", none), "are_names", "are_names", defArgs s_are_names, defBody s_are_names, defScope s_are_names, [], []⟩
def d_shown_contest : He.DefD := ⟨("shown_contest", none), "shown_contest", "shown_contest", defArgs s_shown_contest, defBody s_shown_contest, defScope s_shown_contest, [], []⟩
def d_read_most : He.DefD := ⟨("read_most", none), "read_most", "read_most", defArgs s_read_most, defBody s_read_most, defScope s_read_most, [], []⟩
def d_read_portion : He.DefD := ⟨("read_portion", none), "read_portion", "read_portion", defArgs s_read_portion, defBody s_read_portion, defScope s_read_portion, [], []⟩
def d_read_contest : He.DefD := ⟨("read_contest", none), "read_contest", "read_contest", defArgs s_read_contest, defBody s_read_contest, defScope s_read_contest, [], []⟩
def d__law_source : He.DefD := ⟨("_law_source", none), "_law_source", "_law_source", defArgs s__law_source, defBody s__law_source, defScope s__law_source, [], []⟩
def d__law_draw : He.DefD := ⟨("_law_draw", none), "_law_draw", "_law_draw", defArgs s__law_draw, defBody s__law_draw, defScope s__law_draw, [], []⟩
def d__law_unlike : He.DefD := ⟨("_law_unlike", none), "_law_unlike", "_law_unlike", defArgs s__law_unlike, defBody s__law_unlike, defScope s__law_unlike, [], []⟩
def d__law_lowest : He.DefD := ⟨("_law_lowest", none), "_law_lowest", "_law_lowest", defArgs s__law_lowest, defBody s__law_lowest, defScope s__law_lowest, [], []⟩
def d__law_half : He.DefD := ⟨("_law_half", none), "_law_half", "_law_half", defArgs s__law_half, defBody s__law_half, defScope s__law_half, [], []⟩
def d__law_is_name : He.DefD := ⟨("_law_is_name", none), "_law_is_name", "_law_is_name", defArgs s__law_is_name, defBody s__law_is_name, defScope s__law_is_name, [], []⟩
def d__law_is_count : He.DefD := ⟨("_law_is_count", none), "_law_is_count", "_law_is_count", defArgs s__law_is_count, defBody s__law_is_count, defScope s__law_is_count, [], []⟩
def d__law_is_share : He.DefD := ⟨("_law_is_share", none), "_law_is_share", "_law_is_share", defArgs s__law_is_share, defBody s__law_is_share, defScope s__law_is_share, [], []⟩
def d__law_is_contest : He.DefD := ⟨("_law_is_contest", none), "_law_is_contest", "_law_is_contest", defArgs s__law_is_contest, defBody s__law_is_contest, defScope s__law_is_contest, [], []⟩
def d__law_piece : He.DefD := ⟨("_law_piece", none), "_law_piece", "_law_piece", defArgs s__law_piece, defBody s__law_piece, defScope s__law_piece, [], []⟩
def d__law_bent : He.DefD := ⟨("_law_bent", none), "_law_bent", "_law_bent", defArgs s__law_bent, defBody s__law_bent, defScope s__law_bent, [], []⟩
def d__law_told : He.DefD := ⟨("_law_told", none), "_law_told", "_law_told", defArgs s__law_told, defBody s__law_told, defScope s__law_told, [], []⟩
def d_law : He.DefD := ⟨("law", none), "law", "law", defArgs s_law, defBody s_law, defScope s_law, [], []⟩
def fn : List He.DefD := [d_NoText___init__, d_is_whole, d_in_common, d_below, d_is_fraction, d_shown_fraction, d_number_by, d_read_fraction, d_Contest___init__, d_Contest_named, d_Most___init__, d_Portion___init__, d_is_name, d_is_count, d_are_names, d_shown_contest, d_read_most, d_read_portion, d_read_contest, d__law_source, d__law_draw, d__law_unlike, d__law_lowest, d__law_half, d__law_is_name, d__law_is_count, d__law_is_share, d__law_is_contest, d__law_piece, d__law_bent, d__law_told, d_law]
def fa : List He.Fa := [.free "ValueError", .free "abs", .free "all", .free "bool", .free "enumerate", .free "int", .free "isinstance", .free "len", .free "list", .free "range", .free "set", .free "sorted", .free "str", .free "sum", .free "tuple", .free "zip", .glo "Ended", .str "FIGURES_contesttexts" "0123456789", .str "FIGURES_figures" "0123456789", .str "LETTERS" "abcdefghijklmnopqrstuvwxyz", .int "MOST_FIGURES" 60, .int "MOST_PART" 999999, .glo "Most", .glo "NoBallot", .glo "NoFraction", .glo "NoMargin", .glo "NoName", .glo "NoNumber", .glo "NoOutcome", .glo "NoRow", .glo "NoStake", .glo "NoText", .glo "TooMany", .cls "Contest", .noat "Contest" "names", .cls "Portion", .noat "Portion" "share", .noat "Portion" "names", .cls "Most", .noat "Most" "seats", .noat "Most" "names", .glo "Contest", .meth "Portion" "named", .meth "Most" "named", .mkr "Most", .glo "Most", .mkr "Portion", .glo "Portion", .glo "NoText", .glo "SureError", .exm "NoText" "SureError" true, .noat "NoText" "row", .glo "is_whole", .glo "in_common", .glo "below", .glo "is_fraction", .glo "shown_fraction", .glo "number_by", .glo "read_fraction", .glo "is_name", .glo "is_count", .glo "are_names", .glo "shown_contest", .glo "read_most", .glo "read_portion", .glo "read_contest", .glo "_law_source", .glo "_law_draw", .glo "_law_unlike", .glo "_law_lowest", .glo "_law_half", .glo "_law_is_name", .glo "_law_is_count", .glo "_law_is_share", .glo "_law_is_contest", .glo "_law_piece", .glo "_law_bent", .glo "_law_told", .glo "law"]
abbrev R : PySem.W.OpenRow := PySem.W.OpenLaw.row PySem.Challenge.rw_surecount_k21_no_contests
def exl : List (PySem.W.Frag → Bool) := [fun K => oexB K "NoText", fun K => oinB K "NoText", fun K => supmB K "Contest" "__init__", fun K => decide (He.ma K (He.ga K "Portion") "named" = He.ma K (He.ga K "Contest") "named"), fun K => decide (He.ma K (He.ga K "Most") "named" = He.ma K (He.ga K "Contest") "named"), fun K => supB K "SureError", fun K => xfB K (He.ga K "NoText"), fun K => insB K "Contest", fun K => insB K "Most", fun K => insB K "Portion", fun K => kitB2 K "Contest" (.ref (He.ga K "Most")) false, fun K => kitB2 K "Most" (.ref (He.ga K "Most")) true, fun K => kitB2 K "Portion" (.ref (He.ga K "Most")) false, fun K => excB K "NoText", fun K => kitB2 K "NoText" (.ref (He.ga K "Ended")) false, fun K => kitB2 K "NoText" (.ref (He.ga K "NoBallot")) false, fun K => kitB2 K "NoText" (.ref (He.ga K "NoFraction")) false, fun K => kitB2 K "NoText" (.ref (He.ga K "NoMargin")) false, fun K => kitB2 K "NoText" (.ref (He.ga K "NoName")) false, fun K => kitB2 K "NoText" (.ref (He.ga K "NoNumber")) false, fun K => kitB2 K "NoText" (.ref (He.ga K "NoOutcome")) false, fun K => kitB2 K "NoText" (.ref (He.ga K "NoRow")) false, fun K => kitB2 K "NoText" (.ref (He.ga K "NoStake")) false, fun K => kitB2 K "NoText" (.ref (He.ga K "NoText")) true, fun K => kitB2 K "NoText" (.ref (He.ga K "TooMany")) false, fun K => kitB2 K "NoText" (.type "ValueError") true]
def exB (K : PySem.W.Frag) : Bool := exl.all fun f => f K
def reachA : List PySem.Addr := ([3, 6, 4, 21, 31, 44, 56, 68, 80, 92, 104, 116, 128, 147, 166, 185, 194, 201, 208, 215, 222, 227, 234, 277] : List PySem.Addr) ++ ([310, 343, 350, 355, 360, 367, 374, 381, 388, 393, 400, 405, 412, 419, 424, 429, 436, 441, 448, 455, 462, 469, 0, 20] : List PySem.Addr) ++ ([30, 43, 55, 67, 79, 91, 103, 115, 127, 146, 165, 184, 193, 200, 207, 214, 221, 226, 233, 276, 309, 342, 349, 354] : List PySem.Addr) ++ ([359, 366, 373, 380, 387, 392, 399, 404, 411, 418, 423, 428, 435, 440, 447, 454, 461, 468, 15, 16, 17, 18, 19, 29] : List PySem.Addr) ++ ([32, 42, 54, 66, 78, 90, 102, 114, 126, 144, 145, 163, 164, 182, 183, 188, 189, 190, 191, 192, 195, 196, 197, 198] : List PySem.Addr) ++ ([199, 202, 203, 204, 205, 206, 209, 210, 211, 212, 213, 216, 217, 218, 219, 220, 223, 224, 225, 228, 229, 230, 231, 232] : List PySem.Addr) ++ ([248, 255, 260, 267, 274, 275, 278, 279, 295, 300, 307, 308, 326, 333, 340, 341, 346, 347, 348, 351, 352, 353, 356, 357] : List PySem.Addr) ++ ([358, 361, 362, 363, 364, 365, 368, 369, 370, 371, 372, 375, 376, 377, 378, 379, 382, 383, 384, 385, 386, 389, 390, 391] : List PySem.Addr) ++ ([394, 395, 396, 397, 398, 401, 402, 403, 406, 407, 408, 409, 410, 413, 414, 415, 416, 417, 420, 421, 422, 425, 426, 427] : List PySem.Addr) ++ ([430, 431, 432, 433, 434, 437, 438, 439, 442, 443, 444, 445, 446, 449, 450, 451, 452, 453, 456, 457, 458, 459, 460, 463] : List PySem.Addr) ++ ([464, 465, 466, 467, 143, 162, 181, 247, 254, 259, 266, 273, 294, 299, 306, 325, 332, 339, 138, 139, 140, 141, 142, 157] : List PySem.Addr) ++ ([158, 159, 160, 161, 176, 177, 178, 179, 180, 242, 243, 244, 245, 246, 249, 250, 251, 252, 253, 256, 257, 258, 261, 262] : List PySem.Addr) ++ ([263, 264, 265, 268, 269, 270, 271, 272, 289, 290, 291, 292, 293, 296, 297, 298, 301, 302, 303, 304, 305, 320, 321, 322] : List PySem.Addr) ++ ([323, 324, 327, 328, 329, 330, 331, 334, 335, 336, 337, 338, 2] : List PySem.Addr)
abbrev hk : PySem.W.Hook := Gx.hookA reachA fa fn exB
def ob (s : PySem.W.SharedT) : He.AlD × Bool := Gx.obsA reachA fa fn exB (HandSHeadRun.getT s)
theorem ob_eq (s : PySem.W.SharedT) : ob s = hk.obs s.abs := Gx.obsA_eq (HandSHeadRun.getT_eq s)
def loose : List PySem.Str := (["_wall", "is_whole", "in_common", "below", "is_fraction", "shown_fraction", "number_by", "read_fraction", "is_name", "is_count", "are_names", "shown_contest", "read_most", "read_portion", "read_contest", "_law_source"] : List PySem.Str) ++ (["_law_draw", "_law_unlike", "_law_lowest", "_law_half", "_law_is_name", "_law_is_count", "_law_is_share", "_law_is_contest", "_law_piece", "_law_bent", "_law_told", "SureError", "NoFraction", "NoOutcome", "NoNumber", "Ended"] : List PySem.Str) ++ (["NoMargin", "NoBallot", "NoRow", "NoName", "NoText", "TooMany", "NoStake", "Contest", "Most", "Portion", "FIGURES_figures", "MOST_FIGURES", "LETTERS", "FIGURES_contesttexts", "MOST_PART"] : List PySem.Str)
def kof (s : PySem.W.SharedT) : PySem.W.Frag := He.frT (HandSHeadRun.getT s) reachA
def exT (s : PySem.W.SharedT) : Bool := exB (kof s)
open PySem PySem.W HandSHeadRun PySem.Calls in
theorem runB (w : World) : ∀ os : OsState, (HandSHeadRun.endF (HandSHeadRun.stepQ (HandSHeadRun.denQ HandSHeadRun.tabQ) R.prog w) 12000 R.prog w os).map (fun s => looksF R.prog (boot_heap w.params) s.abs && (((fa.all fun f => f.ok (kof s)) && fn.all fun d => d.ok (kof s)) && exT s)) = some true := by
  intro os
  kernel_rfl
open PySem PySem.W HandSHeadRun PySem.Calls in
theorem runS (w : World) : ∀ os : OsState, (HandSHeadRun.endF (HandSHeadRun.stepQ (HandSHeadRun.denQ HandSHeadRun.tabQ) R.prog w) 12000 R.prog w os).map (fun s => seenQ (PySem.W.view R.prog [53]) loose (importedModules R.prog.main.body) (fun s => xlAt (PySem.W.view R.prog [53]) [] s && recOk R.toRowW.records s) s.abs) = some (openGood (PySem.W.view R.prog [53]) loose) := by
  intro os
  kernel_rfl
open PySem PySem.W HandSHeadRun PySem.Calls in
theorem runF (w : World) : ∀ os : OsState, (HandSHeadRun.endF (HandSHeadRun.stepQ (HandSHeadRun.denQ HandSHeadRun.tabQ) R.prog w) 12000 R.prog w os).map (fun s => fn.map fun d => He.fnW (kof s) d.at_) = some (fn.map He.DefD.val) := by
  intro os
  kernel_rfl
theorem map3 {α γ ε : Type} {x : Option α} {l : α → Bool} {a b e : α → Bool} {g : α → γ} {h : α → ε} {vg : γ} {vh : ε} (h1 : x.map (fun s => l s && ((a s && b s) && e s)) = some true) (h2 : x.map g = some vg) (h3 : x.map h = some vh) : x.map (fun s => (l s, g s, ((a s && b s, h s), e s))) = some (true, vg, ((true, vh), true)) := by
  cases x with
  | none => cases h1
  | some s =>
    rw [Option.map_some] at h1 h2 h3 ⊢
    have k := Bool.and_eq_true_iff.mp (Option.some.inj h1)
    have k2 := Bool.and_eq_true_iff.mp k.2
    rw [k.1, k2.1, k2.2, Option.some.inj h2, Option.some.inj h3]
theorem run (w : World) : HandSHeadRun.RunEq R (PySem.W.view R.prog [53]) hk ob 12000 loose w := fun os => map3 (runB w os) (runS w os) (runF w os)
end Lw
namespace Dk
open PySem PySem.Spec PyProof.Rows L2
theorem at_map {ns : List Int} {i : Int} (h0 : 0 ≤ i) (h1 : i < ns.length) : ∃ z : Int, atI (ns.map V.int) i = some (.int z) := by
  obtain ⟨n, rfl⟩ : ∃ n : Nat, i = (n : Int) := ⟨i.toNat, by omega⟩
  have hl : n < ns.length := by omega
  exact ⟨ns[n], atI_nat (by simp [hl])⟩
theorem dp_all {K : PySem.W.Frag} {H : Hp} : ∀ ns : List Int, DpAll K H (ns.map V.int) (ns.map PyData.int)
  | [] => .nil
  | n :: r => .cons (.int n) (dp_all r)
theorem dp_ints {K : PySem.W.Frag} {H : Hp} {a : Addr} {ns : List Int} (h : SqL K H a (ns.map V.int)) : Dp K H (.ref a) (.list (ns.map PyData.int)) := .lst h (dp_all ns)
theorem shaped_ints (ns : List Int) : SeqAt.shaped (.list (ns.map PyData.int)) = true := by
  have h : ∀ l : List Int, PyData.canLayAll0 (l.map PyData.int) = true ∧ PyData.depthAll (l.map PyData.int) = 0 := fun l => by
    induction l with
    | nil => exact ⟨by simp [PyData.canLayAll0], by simp [PyData.depthAll]⟩
    | cons n r ih => exact ⟨by simp [PyData.canLayAll0, PyData.canLay0, ih.1], by simp [PyData.depthAll, PyData.depth, ih.2]⟩
  obtain ⟨h1, h2⟩ := h ns
  simp [SeqAt.shaped, PyData.canLay0, PyData.depth, h1, h2]
theorem eqv_nil (ns : List Int) : (!PyData.eqv (.list (ns.map PyData.int)) (.list [])) = !ns.isEmpty := by
  cases ns <;> simp [PyData.eqv, PyData.eqvAll]
theorem last (ds : List Int) (h : 0 < ds.length) : ∃ es e, ds = es ++ [e] := ⟨ds.dropLast, ds.getLast (by intro z; rw [z] at h; exact absurd h (by decide)), (List.dropLast_concat_getLast _).symm⟩
theorem last2 (ds : List Int) (h : 1 < ds.length) : ∃ es e2 e1, ds = es ++ [e2, e1] := by
  obtain ⟨fs, e1, rfl⟩ := last ds (by omega)
  obtain ⟨es, e2, rfl⟩ := last fs (by simp at h; omega)
  exact ⟨es, e2, e1, by simp⟩
theorem last3 (ds : List Int) (h : 2 < ds.length) : ∃ es e3 e2 e1, ds = es ++ [e3, e2, e1] := by
  obtain ⟨fs, e1, rfl⟩ := last ds (by omega)
  obtain ⟨es, e3, e2, rfl⟩ := last2 fs (by simp at h; omega)
  exact ⟨es, e3, e2, e1, by simp⟩
theorem sub {P : Int → Prop} {es r : List Int} (h : ∀ d ∈ es ++ r, P d) : ∀ d ∈ es, P d := fun d hd => h d (List.mem_append_left _ hd)
theorem shaped_tints (ns : List Int) : SeqAt.shaped (.tuple (ns.map PyData.int)) = true := by
  have h : ∀ l : List Int, PyData.canLayAll0 (l.map PyData.int) = true ∧ PyData.depthAll (l.map PyData.int) = 0 := fun l => by
    induction l with
    | nil => exact ⟨by simp [PyData.canLayAll0], by simp [PyData.depthAll]⟩
    | cons n r ih => exact ⟨by simp [PyData.canLayAll0, PyData.canLay0, ih.1], by simp [PyData.depthAll, PyData.depth, ih.2]⟩
  obtain ⟨h1, h2⟩ := h ns
  simp [SeqAt.shaped, PyData.canLay0, PyData.depth, h1, h2]
theorem emod_le {a b : Int} (h : 0 ≤ a) (hb : 0 < b) : a % b ≤ a := by
  have e := Int.emod_add_mul_ediv a b
  have z := Int.mul_nonneg (Int.le_of_lt hb) (Int.ediv_nonneg h (Int.le_of_lt hb))
  omega
end Dk
namespace Lw
open PySem PySem.Spec PyProof.Rows L2 Gx
/-- a deck: a new list of so many numbers, each from 0 on, of at most 61 figures -/
def Deck (ds : List Int) : Prop := ∀ d ∈ ds, 0 ≤ d ∧ d < 10000000000000000000000000000000000000000000000000000000000000
theorem Deck.last {es : List Int} {e : Int} (h : Deck (es ++ [e])) : Deck es ∧ 0 ≤ e ∧ e < 10000000000000000000000000000000000000000000000000000000000000 := ⟨fun d hd => h d (List.mem_append_left _ hd), h e (by simp)⟩
end Lw
namespace Dw
open PySem PySem.Spec PyProof.Rows L2
/-- draws through those that are left -/
def dr (again : Bool) : List Int → List Int → List Int → Option (List Int)
  | _, [], found => some found
  | left, n :: r, found => if 0 ≤ n ∧ n < (left.length : Int) then dr again (if again then left else left.eraseIdx n.toNat) r (found ++ [left.getD n.toNat 0]) else none
/-- 0, 1, .. -/
def rg (m : Nat) : List Int := (List.range m).map fun (i : Nat) => (i : Int)
theorem rg_len (m : Nat) : (rg m).length = m := by simp [rg]
theorem rgV_eq (m : Nat) : rgV 0 (m : Int) = (rg m).map V.int := by
  unfold rgV rg
  rw [List.map_map, show ((m : Int) - 0).toNat = m by omega]
  congr 1
  funext i
  show V.int (0 + (i : Int)) = V.int (i : Int)
  rw [Int.zero_add]
theorem dr_app {again : Bool} : ∀ {ns ms left found : List Int}, dr again left (ns ++ ms) found = match dr again left ns found with
    | none => none
    | some f => dr again ((fun (z : List Int) => z) (ns.foldl (fun (l : List Int) n => if again then l else l.eraseIdx n.toNat) left)) ms f
  | [], ms, left, found => rfl
  | n :: r, ms, left, found => by
    show (if 0 ≤ n ∧ n < (left.length : Int) then dr again (if again then left else left.eraseIdx n.toNat) (r ++ ms) (found ++ [left.getD n.toNat 0]) else none) = match (if 0 ≤ n ∧ n < (left.length : Int) then dr again (if again then left else left.eraseIdx n.toNat) r (found ++ [left.getD n.toNat 0]) else none) with
      | none => none
      | some f => dr again ((n :: r).foldl (fun (l : List Int) n => if again then l else l.eraseIdx n.toNat) left) ms f
    by_cases c : 0 ≤ n ∧ n < (left.length : Int)
    · rw [if_pos c, if_pos c]
      exact dr_app
    · rw [if_neg c, if_neg c]
/-- how many are left -/
def lf (again : Bool) (m k : Nat) : Int := (m : Int) - (k : Int) * (if again then 0 else 1)
theorem fold_len {again : Bool} : ∀ {ns left : List Int}, (∀ (k : Nat) (n : Int), ns[k]? = some n → 0 ≤ n ∧ n < (left.length : Int) - (k : Int) * (if again then 0 else 1)) →
    ((ns.foldl (fun (l : List Int) n => if again then l else l.eraseIdx n.toNat) left).length : Int) = (left.length : Int) - (ns.length : Int) * (if again then 0 else 1)
  | [], left, _ => by simp
  | n :: r, left, h => by
    have h0 := h 0 n rfl
    have l1 : (((if again then left else left.eraseIdx n.toNat) : List Int).length : Int) = (left.length : Int) - (if again then 0 else 1) := by
      cases again
      · show ((left.eraseIdx n.toNat).length : Int) = _
        rw [List.length_eraseIdx]
        simp at h0
        rw [if_pos (by omega)]
        simp
        omega
      · simp
    have ih := fold_len (again := again) (ns := r) (left := if again then left else left.eraseIdx n.toNat) fun k x hx => by
      have := h (k + 1) x hx
      rw [l1]
      cases again <;> simp at this ⊢ <;> omega
    show ((r.foldl _ (if again then left else left.eraseIdx n.toNat)).length : Int) = _
    rw [ih, l1]
    cases again <;> simp
    omega
theorem dr_ok {again : Bool} : ∀ {ns left found : List Int}, (∀ (k : Nat) (n : Int), ns[k]? = some n → 0 ≤ n ∧ n < (left.length : Int) - (k : Int) * (if again then 0 else 1)) → ∃ out, dr again left ns found = some out
  | [], left, found, _ => ⟨found, rfl⟩
  | n :: r, left, found, h => by
    have h0 := h 0 n rfl
    have h0' : 0 ≤ n ∧ n < (left.length : Int) := by simpa using h0
    show ∃ out, (if 0 ≤ n ∧ n < (left.length : Int) then _ else none) = some out
    rw [if_pos h0']
    refine dr_ok fun k x hx => ?_
    have := h (k + 1) x hx
    cases again
    · show 0 ≤ x ∧ x < ((left.eraseIdx n.toNat).length : Int) - _
      rw [List.length_eraseIdx, if_pos (by omega)]
      simp at this ⊢
      omega
    · simpa using this
/-- a bad number behind good ones -/
theorem dr_bad {again : Bool} {ns ms left found : List Int} {x : Int} (h : ∀ (k : Nat) (n : Int), ns[k]? = some n → 0 ≤ n ∧ n < (left.length : Int) - (k : Int) * (if again then 0 else 1)) (hx : x < 0 ∨ (left.length : Int) - (ns.length : Int) * (if again then 0 else 1) ≤ x) :
    dr again left (ns ++ x :: ms) found = none := by
  rw [dr_app]
  obtain ⟨out, e⟩ := dr_ok (found := found) h
  rw [e]
  show (if 0 ≤ x ∧ x < ((ns.foldl (fun (l : List Int) n => if again then l else l.eraseIdx n.toNat) left).length : Int) then _ else none) = none
  rw [fold_len h, if_neg (by omega)]
theorem seqIx {n : Int} {k : Nat} (h0 : 0 ≤ n) (h1 : n < (k : Int)) : seqIndex? n k = some n.toNat := by
  unfold seqIndex?
  show (if (decide (0 ≤ (if n < 0 then n + (k : Int) else n)) && decide ((if n < 0 then n + (k : Int) else n) < (k : Int))) = true then some (if n < 0 then n + (k : Int) else n).toNat else none) = _
  rw [if_neg (show ¬ n < 0 by omega), decide_eq_true h0, decide_eq_true h1]
  rfl
theorem erase_map {α β : Type} (f : α → β) : ∀ (l : List α) (k : Nat), (l.map f).eraseIdx k = (l.eraseIdx k).map f
  | [], _ => rfl
  | _ :: _, 0 => rfl
  | a :: l, k + 1 => congrArg (fun z => f a :: z) (erase_map f l k)
end Dw
namespace Ct
open PySem PySem.Spec PyProof.Rows L2
theorem to {xs : List V} {k : Nat} (h : k ≤ xs.length) : cutV xs none (some (k : Int)) = xs.take k := by
  unfold cutV
  rw [HT.sIx_none, HT.sIx_nat, Nat.min_eq_left h]
  simp
theorem from_ {xs : List V} {k : Nat} (h : k ≤ xs.length) : cutV xs (some (k : Int)) none = xs.drop k := by
  unfold cutV
  rw [HT.sIx_none, HT.sIx_nat, Nat.min_eq_left h]
  rw [List.take_of_length_le]
  simp
theorem but1 {xs : List V} : cutV xs none (some (-1)) = xs.dropLast := by
  unfold cutV
  rw [HT.sIx_none]
  have e : HT.sIx xs.length xs.length (some (-1)) = xs.length - 1 := by
    unfold HT.sIx
    simp
    omega
  rw [e, List.dropLast_eq_take]
  simp
theorem cutI {ns : List Int} {lo hi : Nat} : ∃ ms : List Int, cutV (ns.map V.int) (some (lo : Int)) (some (hi : Int)) = ms.map V.int ∧ ms.length ≤ hi - lo := by
  refine ⟨(ns.drop (min lo ns.length)).take (min hi ns.length - min lo ns.length), ?_, ?_⟩
  · unfold cutV
    rw [HT.sIx_nat, HT.sIx_nat, List.length_map, List.map_take, List.map_drop]
  · rw [List.length_take, List.length_drop]
    omega
end Ct
namespace Dt
open PySem PySem.Spec PyProof.Rows L2 Gx
/-! shape, with its depth -/
def Sh (k : Nat) (d : PyData) : Prop := d.canLay0 = true ∧ d.depth ≤ k
theorem sh_int {k : Nat} (i : Int) : Sh k (.int i) := ⟨by simp [PyData.canLay0], by simp [PyData.depth]⟩
theorem sh_bl {k : Nat} (b : Bool) : Sh k (.bool b) := ⟨by simp [PyData.canLay0], by simp [PyData.depth]⟩
theorem sh_non {k : Nat} : Sh k .none := ⟨by simp [PyData.canLay0], by simp [PyData.depth]⟩
theorem sh_str {k : Nat} {x : Str} (h : PyData.strOk x = true) : Sh k (.str x) := ⟨by simpa [PyData.canLay0] using h, by simp [PyData.depth]⟩
theorem shAll {k : Nat} : ∀ {ds : List PyData}, (∀ d ∈ ds, Sh k d) → PyData.canLayAll0 ds = true ∧ PyData.depthAll ds ≤ k
  | [], _ => ⟨by simp [PyData.canLayAll0], by simp [PyData.depthAll]⟩
  | d :: ds, h => by
    obtain ⟨h1, h2⟩ := shAll fun x hx => h x (List.mem_cons_of_mem d hx)
    obtain ⟨g1, g2⟩ := h d (List.mem_cons_self ..)
    exact ⟨by simp [PyData.canLayAll0, g1, h1], by simp [PyData.depthAll]; omega⟩
theorem sh_tup {k : Nat} {ds : List PyData} (h : ∀ d ∈ ds, Sh k d) : Sh (k + 1) (.tuple ds) := by
  obtain ⟨h1, h2⟩ := shAll h
  exact ⟨by simpa [PyData.canLay0] using h1, by simp [PyData.depth]; omega⟩
theorem sh_lst {k : Nat} {ds : List PyData} (h : ∀ d ∈ ds, Sh k d) : Sh (k + 1) (.list ds) := by
  obtain ⟨h1, h2⟩ := shAll h
  exact ⟨by simpa [PyData.canLay0] using h1, by simp [PyData.depth]; omega⟩
theorem Sh.mono {k n : Nat} {d : PyData} (h : Sh k d) (e : k ≤ n) : Sh n d := ⟨h.1, Nat.le_trans h.2 e⟩
theorem Sh.ok {k : Nat} {d : PyData} (h : Sh k d) (e : k ≤ 64 := by decide) : SeqAt.shaped d = true := by
  unfold SeqAt.shaped
  rw [h.1, decide_eq_true (Nat.le_trans h.2 e)]
  rfl
theorem refl {k : Nat} {d : PyData} (h : Sh k d) : PyData.eqv d d = true := SeqAt.eqv_refl _ h.1
/-! data taken apart -/
variable {K : PySem.W.Frag} {H : Hp}
theorem tup {v : V} {ds : List PyData} (h : Dp K H v (.tuple ds)) : ∃ p xs, v = .ref p ∧ SqT K H p xs ∧ DpAll K H xs ds := by
  cases h with
  | tup a b => exact ⟨_, _, rfl, a, b⟩
theorem lst {v : V} {ds : List PyData} (h : Dp K H v (.list ds)) : ∃ p xs, v = .ref p ∧ SqL K H p xs ∧ DpAll K H xs ds := by
  cases h with
  | lst a b => exact ⟨_, _, rfl, a, b⟩
theorem int {v : V} {i : Int} (h : Dp K H v (.int i)) : v = .int i := by cases h; rfl
theorem str {v : V} {x : Str} (h : Dp K H v (.str x)) : v = .str x := by cases h; rfl
theorem bl {v : V} {b : Bool} (h : Dp K H v (.bool b)) : v = .bl b := by cases h; rfl
theorem non {v : V} (h : Dp K H v .none) : v = .non := by cases h; rfl
theorem len : ∀ {xs : List V} {ds : List PyData}, DpAll K H xs ds → xs.length = ds.length
  | _, _, .nil => rfl
  | _, _, .cons _ r => congrArg (· + 1) (len r)
theorem at_ : ∀ {xs : List V} {ds : List PyData} {i : Nat} {x : V}, DpAll K H xs ds → xs[i]? = some x → ∃ d, ds[i]? = some d ∧ Dp K H x d
  | _, _, 0, x, .cons (d := d) a r, e => ⟨d, rfl, (Option.some.inj e) ▸ a⟩
  | _, _, i + 1, x, .cons a r, e => at_ (i := i) r e
theorem at2 : ∀ {xs : List V} {ds : List PyData} {i : Nat} {d : PyData}, DpAll K H xs ds → ds[i]? = some d → ∃ x, xs[i]? = some x ∧ Dp K H x d
  | _, _, 0, d, .cons (v := v) a r, e => ⟨v, rfl, (Option.some.inj e) ▸ a⟩
  | _, _, i + 1, d, .cons a r, e => at2 (i := i) r e
theorem cons {x : V} {xs : List V} {d : PyData} {ds : List PyData} (h : DpAll K H (x :: xs) (d :: ds)) : Dp K H x d ∧ DpAll K H xs ds := by
  cases h with
  | cons a b => exact ⟨a, b⟩
theorem pair {v : V} {a b : PyData} (h : Dp K H v (.tuple [a, b])) : ∃ p x y, v = .ref p ∧ SqT K H p [x, y] ∧ Dp K H x a ∧ Dp K H y b := by
  obtain ⟨p, xs, rfl, s, g⟩ := tup h
  cases g with
  | cons h1 g =>
    cases g with
    | cons h2 g =>
      cases g
      exact ⟨p, _, _, rfl, s, h1, h2⟩
theorem app : ∀ {xs : List V} {ds : List PyData} {ys : List V} {es : List PyData}, DpAll K H xs ds → DpAll K H ys es → DpAll K H (xs ++ ys) (ds ++ es)
  | _, _, _, _, .nil, g => g
  | _, _, _, _, .cons a r, g => .cons a (app r g)
theorem take : ∀ {xs : List V} {ds : List PyData} (n : Nat), DpAll K H xs ds → DpAll K H (xs.take n) (ds.take n)
  | _, _, 0, _ => .nil
  | _, _, n + 1, .nil => .nil
  | _, _, n + 1, .cons a r => .cons a (take n r)
theorem drop : ∀ {xs : List V} {ds : List PyData} (n : Nat), DpAll K H xs ds → DpAll K H (xs.drop n) (ds.drop n)
  | _, _, 0, h => h
  | _, _, n + 1, .nil => .nil
  | _, _, n + 1, .cons a r => drop n r
theorem set : ∀ {xs : List V} {ds : List PyData} (n : Nat) {x : V} {d : PyData}, DpAll K H xs ds → Dp K H x d → DpAll K H (xs.set n x) (ds.set n d)
  | _, _, _, _, _, .nil, _ => .nil
  | _, _, 0, _, _, .cons a r, h => .cons h r
  | _, _, n + 1, _, _, .cons a r, h => .cons a (set n r h)
theorem two {x y : V} {a b : PyData} (h1 : Dp K H x a) (h2 : Dp K H y b) : DpAll K H [x, y] [a, b] := .cons h1 (.cons h2 .nil)
theorem intz (ns : List Int) : DpAll K H (ns.map V.int) (ns.map PyData.int) := Dk.dp_all ns
theorem strz : ∀ ns : List Str, DpAll K H (ns.map V.str) (ns.map PyData.str)
  | [] => .nil
  | n :: r => .cons (.str n) (strz r)
theorem of_strs : ∀ {xs : List V} {ns : List Str}, DpAll K H xs (ns.map PyData.str) → xs = ns.map V.str
  | _, [], .nil => rfl
  | _, n :: r, .cons a g => by rw [str a, of_strs g]; rfl
theorem of_ints : ∀ {xs : List V} {ns : List Int}, DpAll K H xs (ns.map PyData.int) → xs = ns.map V.int
  | _, [], .nil => rfl
  | _, n :: r, .cons a g => by rw [int a, of_ints g]; rfl
/-- the list's own data, once more where others are appended -/
theorem snoc {xs : List V} {ds : List PyData} {x : V} {d : PyData} (h : DpAll K H xs ds) (g : Dp K H x d) : DpAll K H (xs ++ [x]) (ds ++ [d]) := app h (.cons g .nil)
theorem noLs_of : ∀ {ds : List PyData}, (∀ d ∈ ds, noL d = true) → noLs ds = true
  | [], _ => by simp [noLs]
  | d :: ds, h => by simp [noLs, h d (List.mem_cons_self ..), noLs_of fun x hx => h x (List.mem_cons_of_mem d hx)]
theorem noL_tup {ds : List PyData} (h : ∀ d ∈ ds, noL d = true) : noL (.tuple ds) = true := by simpa [noL] using noLs_of h
/-! == of data, told -/
theorem eqv_int (a b : Int) : PyData.eqv (.int a) (.int b) = decide (a = b) := by simp [PyData.eqv]; by_cases h : a = b <;> simp [h]
theorem eqv_bl (a b : Bool) : PyData.eqv (.bool a) (.bool b) = decide (a = b) := by cases a <;> cases b <;> simp [PyData.eqv]
end Dt
namespace Dt
open PySem PySem.Spec PyProof.Rows L2 Gx
theorem k_ne {K : PySem.W.Frag} {H : Hp} {Q : VK} {x y : V} {d : PyData} {k : Nat} (hx : Dp K H x d) (hy : Dp K H y d) (s : Sh k d) (q : Q (.bl false) H) (e : k ≤ 64 := by decide) : rNeU K x y H Q := k_neD hx hy (by rw [refl s]; exact q) (s.ok e) (s.ok e)
end Dt
namespace Dt
open PySem PySem.Spec PyProof.Rows L2 Gx
theorem bools {K : PySem.W.Frag} {H : Hp} : ∀ bs : List Bool, DpAll K H (bs.map V.bl) (bs.map PyData.bool)
  | [] => .nil
  | b :: r => .cons (.bl b) (bools r)
theorem sh_bools (bs : List Bool) : Sh 1 (.tuple (bs.map PyData.bool)) := sh_tup fun d hd => by
  obtain ⟨b, _, rfl⟩ := List.mem_map.mp hd
  exact sh_bl b
end Dt
namespace Fr
open PySem PySem.Spec PyProof.Rows L2
/-- a fraction's two parts -/
abbrev fq (q : Rat) : List V := [.int q.num, .int (q.den : Int)]
def fqd (q : Rat) : PyData := .tuple [.int q.num, .int (q.den : Int)]
theorem dp_fq {K : PySem.W.Frag} {H : Hp} {p : Addr} {q : Rat} (h : SqT K H p (fq q)) : Dp K H (.ref p) (fqd q) := .tup h (.cons (.int _) (.cons (.int _) .nil))
theorem shaped_fq (q : Rat) : SeqAt.shaped (fqd q) = true := by simp [SeqAt.shaped, fqd, PyData.canLay0, PyData.canLayAll0, PyData.depth, PyData.depthAll]
theorem eqv_fq (x y : Rat) : PyData.eqv (fqd x) (fqd y) = decide (x = y) := by
  have e : PyData.eqv (fqd x) (fqd y) = (decide (x.num = y.num) && decide (x.den = y.den)) := by
    simp [fqd, PyData.eqv, PyData.eqvAll]
    by_cases h1 : x.num = y.num <;> by_cases h2 : x.den = y.den <;> simp [h1, h2] <;> omega
  rw [e]
  by_cases h : x = y
  · simp [h]
  · have : ¬ (x.num = y.num ∧ x.den = y.den) := fun z => h (Rat.ext z.1 z.2)
    simp [h]
    exact fun z w => this ⟨z, w⟩
/-! ### the greatest divisor -/
theorem gcd_fmod (a b : Int) : Int.gcd b (a.fmod b) = Int.gcd a b := by
  rw [Int.fmod_def, Int.gcd_sub_mul_left_right, Int.gcd_comm]
theorem fmod_nn (a : Int) {b : Int} (h : 0 < b) : 0 ≤ a.fmod b := by
  rw [Int.fmod_eq_emod_of_nonneg a (by omega)]
  exact Int.emod_nonneg _ (by omega)
theorem fmod_less {a b : Int} (h : b ≠ 0) : (a.fmod b).natAbs < b.natAbs := by
  rcases Int.lt_or_lt_of_ne h with c | c
  · have e : a.fmod b = -((-a).fmod (-b)) := by
      rw [Int.fmod_def, Int.fmod_def, Int.neg_fdiv_neg]
      have := Int.neg_mul b (a.fdiv b)
      omega
    have h1 := fmod_nn (-a) (show 0 < -b by omega)
    have h2 := Int.fmod_lt_of_pos (-a) (show 0 < -b by omega)
    omega
  · have h1 := fmod_nn a c
    have h2 := Int.fmod_lt_of_pos a c
    omega
/-- what lowest makes -/
theorem low_num {a b d : Int} (hb : b ≠ 0) (hd : d = if b < 0 then 0 - (Int.gcd a b : Int) else (Int.gcd a b : Int)) : a.fdiv d = (Rat.divInt a b).num := by
  have g0 : (0 : Int) < Int.gcd a b := by have := Int.gcd_pos_of_ne_zero_right a hb; omega
  obtain ⟨k, hk⟩ := Int.gcd_dvd_left a b
  rw [Rat.num_divInt, Int.gcd_comm b a]
  rcases Int.lt_or_lt_of_ne hb with c | c
  · rw [if_pos c] at hd
    rw [Int.sign_eq_neg_one_of_neg c]
    have e1 : a.fdiv d = -k := by
      have : a = d * (-k) := by rw [hd, Int.zero_sub, Int.neg_mul_neg]; exact hk
      rw [this]
      exact Int.mul_fdiv_cancel_left _ (by omega)
    have e2 : -1 * a / (Int.gcd a b : Int) = -k := by
      have : -1 * a = (Int.gcd a b : Int) * (-k) := by rw [Int.mul_neg, ← hk]; omega
      rw [this]
      exact Int.mul_ediv_cancel_left _ (by omega)
    rw [e1, e2]
  · rw [if_neg (by omega)] at hd
    rw [Int.sign_eq_one_of_pos c, Int.one_mul, hd, Int.fdiv_eq_ediv_of_nonneg a (by omega)]
theorem low_den {a b d : Int} (hb : b ≠ 0) (hd : d = if b < 0 then 0 - (Int.gcd a b : Int) else (Int.gcd a b : Int)) : b.fdiv d = ((Rat.divInt a b).den : Int) := by
  have g0 : (0 : Int) < Int.gcd a b := by have := Int.gcd_pos_of_ne_zero_right a hb; omega
  obtain ⟨k, hk⟩ := Int.gcd_dvd_right a b
  have e3 : ((Rat.divInt a b).den : Int) = (b.natAbs : Int) / (Int.gcd a b : Int) := by
    rw [Rat.den_divInt, if_neg hb, Int.gcd_comm b a]
    rfl
  rw [e3]
  rcases Int.lt_or_lt_of_ne hb with c | c
  · rw [if_pos c] at hd
    have e1 : b.fdiv d = -k := by
      have : b = d * (-k) := by rw [hd, Int.zero_sub, Int.neg_mul_neg]; exact hk
      rw [this]
      exact Int.mul_fdiv_cancel_left _ (by omega)
    have e2 : (b.natAbs : Int) / (Int.gcd a b : Int) = -k := by
      have : (b.natAbs : Int) = (Int.gcd a b : Int) * (-k) := by rw [Int.mul_neg, ← hk]; omega
      rw [this]
      exact Int.mul_ediv_cancel_left _ (by omega)
    rw [e1, e2]
  · rw [if_neg (by omega)] at hd
    rw [hd, Int.fdiv_eq_ediv_of_nonneg b (by omega)]
    congr 1
    omega
/-! ### sizes -/
def Sz (n : Nat) (q : Rat) : Prop := q.num.natAbs < 2 ^ n ∧ q.den < 2 ^ n
theorem pw {a b : Nat} (h : a ≤ b) : 2 ^ a ≤ 2 ^ b := Nat.pow_le_pow_right (by decide) h
theorem Sz.mono {m n : Nat} {q : Rat} (h : Sz m q) (l : m ≤ n) : Sz n q := ⟨Nat.lt_of_lt_of_le h.1 (pw l), Nat.lt_of_lt_of_le h.2 (pw l)⟩
theorem divInt_num_le {a b : Int} (hb : b ≠ 0) : (Rat.divInt a b).num.natAbs ≤ a.natAbs := by
  rw [Rat.num_divInt]
  have h : (b.sign * a / (Int.gcd b a : Int)).natAbs ≤ (b.sign * a).natAbs := Int.natAbs_ediv_le_natAbs _ _
  have e : (b.sign * a).natAbs = a.natAbs := by
    rw [Int.natAbs_mul, Int.natAbs_sign_of_ne_zero hb, Nat.one_mul]
  omega
theorem divInt_den_le {a b : Int} (hb : b ≠ 0) : (Rat.divInt a b).den ≤ b.natAbs := by
  rw [Rat.den_divInt, if_neg hb]
  exact Nat.div_le_self _ _
theorem sz_divInt {a b : Int} {n : Nat} (hb : b ≠ 0) (h1 : a.natAbs < 2 ^ n) (h2 : b.natAbs < 2 ^ n) : Sz n (Rat.divInt a b) := ⟨Nat.lt_of_le_of_lt (divInt_num_le hb) h1, Nat.lt_of_le_of_lt (divInt_den_le hb) h2⟩
theorem mul_lt {a b : Int} {m n : Nat} (ha : a.natAbs < 2 ^ m) (hb : b.natAbs < 2 ^ n) : (a * b).natAbs < 2 ^ (m + n) := by
  rw [Int.natAbs_mul, Nat.pow_add]
  exact Nat.mul_lt_mul'' ha hb
theorem add_lt {a b : Int} {m : Nat} (ha : a.natAbs < 2 ^ m) (hb : b.natAbs < 2 ^ m) : (a + b).natAbs < 2 ^ (m + 1) := by
  rw [Nat.pow_succ]
  omega
theorem sub_lt {a b : Int} {m : Nat} (ha : a.natAbs < 2 ^ m) (hb : b.natAbs < 2 ^ m) : (a - b).natAbs < 2 ^ (m + 1) := by
  rw [Nat.pow_succ]
  omega
theorem den_ne (q : Rat) : (q.den : Int) ≠ 0 := by have := q.den_nz; omega
theorem den_pos (q : Rat) : (0 : Int) < (q.den : Int) := by have := q.den_nz; omega
theorem add_eq (x y : Rat) : Rat.divInt (x.num * y.den + y.num * x.den) (x.den * y.den) = x + y := by
  rw [Rat.add_def']
  exact Rat.divInt_ofNat _ (x.den * y.den)
theorem sub_eq (x y : Rat) : Rat.divInt (x.num * y.den - y.num * x.den) (x.den * y.den) = x - y := by
  rw [Rat.sub_def']
  exact Rat.divInt_ofNat _ (x.den * y.den)
theorem mul_eq (x y : Rat) : Rat.divInt (x.num * y.num) (x.den * y.den) = x * y := by
  rw [Rat.mul_def']
  exact Rat.divInt_ofNat _ (x.den * y.den)
theorem div_eq (x y : Rat) : Rat.divInt (x.num * y.den) (x.den * y.num) = x / y := by
  rw [Rat.div_def, Rat.inv_def, ← Rat.divInt_mul_divInt, Rat.num_divInt_den]
theorem Sz.den {n : Nat} {q : Rat} (h : Sz n q) : ((q.den : Int)).natAbs < 2 ^ n := h.2
theorem dd_lt {x y : Rat} {m n : Nat} (hx : Sz m x) (hy : Sz n y) : ((x.den : Int) * (y.den : Int)).natAbs < 2 ^ (m + n) := mul_lt hx.den hy.den
theorem up1 {a : Int} {n : Nat} (h : a.natAbs < 2 ^ n) : a.natAbs < 2 ^ (n + 1) := Nat.lt_of_lt_of_le h (pw (by omega))
theorem nn_lt {x y : Rat} {m n : Nat} (hx : Sz m x) (hy : Sz n y) : (x.num * (y.den : Int) + y.num * (x.den : Int)).natAbs < 2 ^ (m + n + 1) := by
  have h1 := mul_lt hx.1 hy.den
  have h2 := mul_lt hy.1 hx.den
  rw [Nat.add_comm n m] at h2
  exact add_lt h1 h2
theorem ns_lt {x y : Rat} {m n : Nat} (hx : Sz m x) (hy : Sz n y) : (x.num * (y.den : Int) - y.num * (x.den : Int)).natAbs < 2 ^ (m + n + 1) := by
  have h1 := mul_lt hx.1 hy.den
  have h2 := mul_lt hy.1 hx.den
  rw [Nat.add_comm n m] at h2
  exact sub_lt h1 h2
theorem Sz.add {x y : Rat} {m n : Nat} (hx : Sz m x) (hy : Sz n y) : Sz (m + n + 1) (x + y) := by
  rw [← add_eq]
  exact sz_divInt (Int.mul_ne_zero (den_ne x) (den_ne y)) (nn_lt hx hy) (up1 (dd_lt hx hy))
theorem Sz.sub {x y : Rat} {m n : Nat} (hx : Sz m x) (hy : Sz n y) : Sz (m + n + 1) (x - y) := by
  rw [← sub_eq]
  exact sz_divInt (Int.mul_ne_zero (den_ne x) (den_ne y)) (ns_lt hx hy) (up1 (dd_lt hx hy))
theorem Sz.mul {x y : Rat} {m n : Nat} (hx : Sz m x) (hy : Sz n y) : Sz (m + n) (x * y) := by
  rw [← mul_eq]
  exact sz_divInt (Int.mul_ne_zero (den_ne x) (den_ne y)) (mul_lt hx.1 hy.1) (dd_lt hx hy)
theorem num_ne {y : Rat} (h : y ≠ 0) : y.num ≠ 0 := fun z => h (Rat.num_eq_zero.mp z)
theorem Sz.div {x y : Rat} {m n : Nat} (hx : Sz m x) (hy : Sz n y) : Sz (m + n) (x / y) := by
  by_cases h : y = 0
  · rw [h, Rat.div_def, Rat.inv_zero, Rat.mul_zero]
    have h3 : 1 < 2 ^ m := by have := hx.2; have := x.den_nz; omega
    exact ⟨Nat.lt_of_lt_of_le (by decide) (Nat.one_le_two_pow (n := m + n)), Nat.lt_of_lt_of_le h3 (pw (by omega))⟩
  · rw [← div_eq]
    exact sz_divInt (Int.mul_ne_zero (den_ne x) (num_ne h)) (mul_lt hx.1 hy.den) (mul_lt hx.den hy.1)
theorem gcd_small {a b : Int} {n : Nat} (hb : b ≠ 0) (h : b.natAbs < 2 ^ n) : Int.gcd a b < 2 ^ n := Nat.lt_of_le_of_lt (Int.gcd_le_natAbs_right a hb) h
end Fr
namespace Lw
open PySem PySem.Spec PyProof.Rows L2 Gx
/-- a divisor that the division may have -/
def Okd (a b : Int) : Prop := (a.natAbs < 2 ^ 13500 ∧ b.natAbs < 2 ^ 13500) ∨ Int.gcd a b < 2 ^ 9000
theorem Okd.div {a b d : Int} (h : Okd a b) (e : d.natAbs = Int.gcd a b) : Builtin.divisionGoesByPylong a d = false ∧ Builtin.divisionGoesByPylong b d = false := by
  rcases h with ⟨h1, h2⟩ | h
  · exact ⟨noPy_mid h1, noPy_mid h2⟩
  · exact ⟨noPy_low (by rw [e]; exact h), noPy_low (by rw [e]; exact h)⟩
theorem okd_den {a b : Int} {n : Nat} (hb : b ≠ 0) (h : b.natAbs < 2 ^ n) (hn : n ≤ 9000) : Okd a b := .inr (Nat.lt_of_lt_of_le (Fr.gcd_small hb h) (Fr.pw hn))
/-- a great fraction times a small one: what both parts have in common is small -/
theorem okd_mul {x y : Rat} {n : Nat} (hy : y ≠ 0) (sy : Fr.Sz n y) (h : 2 * n ≤ 9000) : Okd (x.num * y.num) ((x.den : Int) * (y.den : Int)) := by
  refine .inr (Nat.lt_of_lt_of_le ?_ (Fr.pw h))
  have e : Int.gcd (x.num * y.num) ((x.den : Int) * (y.den : Int)) = Nat.gcd (x.num.natAbs * y.num.natAbs) (x.den * y.den) := by
    unfold Int.gcd
    rw [Int.natAbs_mul, Int.natAbs_mul, Int.natAbs_natCast, Int.natAbs_natCast]
  rw [e]
  have d := Nat.gcd_mul_right_dvd_mul_gcd (x.num.natAbs * y.num.natAbs) x.den y.den
  have c0 : Nat.gcd (x.num.natAbs * y.num.natAbs) x.den ∣ y.num.natAbs := by
    have cp : Nat.Coprime x.den x.num.natAbs := x.reduced.symm
    have h2 : Nat.Coprime (Nat.gcd (x.num.natAbs * y.num.natAbs) x.den) x.num.natAbs := Nat.Coprime.coprime_dvd_left (Nat.gcd_dvd_right ..) cp
    exact h2.dvd_of_dvd_mul_left (Nat.gcd_dvd_left ..)
  have c1 := Nat.gcd_dvd_right (x.num.natAbs * y.num.natAbs) y.den
  have yn : y.num.natAbs ≠ 0 := fun z => hy (Rat.num_eq_zero.mp (Int.natAbs_eq_zero.mp z))
  have l0 := Nat.le_of_dvd (by omega) c0
  have l1 := Nat.le_of_dvd y.den_pos c1
  have pos : 0 < Nat.gcd (x.num.natAbs * y.num.natAbs) x.den * Nat.gcd (x.num.natAbs * y.num.natAbs) y.den := Nat.mul_pos (Nat.gcd_pos_of_pos_right _ x.den_pos) (Nat.gcd_pos_of_pos_right _ y.den_pos)
  have l2 := Nat.le_of_dvd pos d
  have l3 := Nat.mul_le_mul l0 l1
  have l4 : y.num.natAbs * y.den < 2 ^ n * 2 ^ n := Nat.mul_lt_mul'' sy.1 sy.2
  have e2 : 2 ^ (2 * n) = 2 ^ n * 2 ^ n := by rw [Nat.two_mul, Nat.pow_add]
  omega
end Lw
namespace Lw
open PySem PySem.Spec PyProof.Rows L2 Gx
/-- whether a value is a whole number, by its type -/
def Whole (K : PySem.W.Frag) (H : Hp) (x : V) (b : Bool) : Prop := ∃ (t : Value) (b1 b2 : Bool), TyX K H x t ∧ PySem.W.kitOne K t (.type "int") = some b1 ∧ PySem.W.kitOne K t (.type "bool") = some b2 ∧ b = (b1 && !b2)
theorem Whole.int {K : PySem.W.Frag} {H : Hp} (i : Int) : Whole K H (.int i) true := ⟨.type "int", true, false, .base (.int i), kit_ty (by decide +kernel), kit_ty (by decide +kernel), rfl⟩
theorem Whole.bl {K : PySem.W.Frag} {H : Hp} (b : Bool) : Whole K H (.bl b) false := ⟨.type "bool", true, true, .base (.bl b), kit_ty (by decide +kernel), kit_ty (by decide +kernel), rfl⟩
theorem Whole.str {K : PySem.W.Frag} {H : Hp} (x : Str) : Whole K H (.str x) false := ⟨.type "str", false, false, .base (.str x), kit_ty (by decide +kernel), kit_ty (by decide +kernel), rfl⟩
theorem Whole.non {K : PySem.W.Frag} {H : Hp} : Whole K H .non false := ⟨.type "NoneType", false, false, .base .non, kit_ty (by decide +kernel), kit_ty (by decide +kernel), rfl⟩
theorem Whole.same {K : PySem.W.Frag} {H H' : Hp} (e : Same H H') {x : V} {b : Bool} (h : Whole K H x b) : Whole K H' x b := by
  obtain ⟨t, b1, b2, ht, h⟩ := h
  exact ⟨t, b1, b2, tyx_same e ht, h⟩
theorem Whole.tup {K : PySem.W.Frag} {H : Hp} {p : Addr} {xs : List V} (h : SqT K H p xs) : Whole K H (.ref p) false := ⟨.type "tuple", false, false, ty_tup h, kit_ty (by decide +kernel), kit_ty (by decide +kernel), rfl⟩
theorem Whole.lst {K : PySem.W.Frag} {H : Hp} {p : Addr} {xs : List V} (h : SqL K H p xs) : Whole K H (.ref p) false := ⟨.type "list", false, false, ty_lst h, kit_ty (by decide +kernel), kit_ty (by decide +kernel), rfl⟩
theorem Whole.dict {K : PySem.W.Frag} {H : Hp} {p : Addr} {kvs : List (Key × V)} (h : H p = some (.dK kvs)) : Whole K H (.ref p) false := ⟨.type "dict", false, false, .base (.dK h), kit_ty (by decide +kernel), kit_ty (by decide +kernel), rfl⟩
/-- whether a thing is a fraction -/
inductive IsF (K : PySem.W.Frag) (H : Hp) : V → Bool → Prop
  | kind {x : V} {t : Value} (ht : TyX K H x t) (hk : PySem.W.kitOne K t (.type "tuple") = some false) : IsF K H x false
  | len {p : Addr} {xs : List V} (h : SqT K H p xs) (hl : xs.length ≠ 2) : IsF K H (.ref p) false
  | parts {p : Addr} {u v : V} {bu bv : Bool} (h : SqT K H p [u, v]) (hu : Whole K H u bu) (hv : Whole K H v bv) (hb : (bu && bv) = false) : IsF K H (.ref p) false
  | whole {p : Addr} {c d : Int} (h : SqT K H p [.int c, .int d]) : IsF K H (.ref p) (decide (0 < d) && decide (Int.gcd c d = 1))
theorem IsF.int {K : PySem.W.Frag} {H : Hp} (i : Int) : IsF K H (.int i) false := .kind (.base (.int i)) (kit_ty (by decide +kernel))
theorem IsF.bl {K : PySem.W.Frag} {H : Hp} (b : Bool) : IsF K H (.bl b) false := .kind (.base (.bl b)) (kit_ty (by decide +kernel))
theorem IsF.str {K : PySem.W.Frag} {H : Hp} (x : Str) : IsF K H (.str x) false := .kind (.base (.str x)) (kit_ty (by decide +kernel))
theorem IsF.non {K : PySem.W.Frag} {H : Hp} : IsF K H .non false := .kind (.base .non) (kit_ty (by decide +kernel))
theorem IsF.lst {K : PySem.W.Frag} {H : Hp} {p : Addr} {xs : List V} (h : SqL K H p xs) : IsF K H (.ref p) false := .kind (ty_lst h) (kit_ty (by decide +kernel))
theorem IsF.dict {K : PySem.W.Frag} {H : Hp} {p : Addr} {kvs : List (Key × V)} (h : H p = some (.dK kvs)) : IsF K H (.ref p) false := .kind (.base (.dK h)) (kit_ty (by decide +kernel))
theorem IsF.yes {K : PySem.W.Frag} {H : Hp} {p : Addr} {q : Rat} (h : SqT K H p (Fr.fq q)) : IsF K H (.ref p) true := by
  have e2 : Int.gcd q.num (q.den : Int) = 1 := q.reduced
  have z := IsF.whole h
  rw [decide_eq_true (Fr.den_pos q), decide_eq_true e2] at z
  exact z
theorem all_cons {α : Type} {P : α → Prop} {a : α} {l : List α} (h : P a) (r : ∀ x ∈ l, P x) : ∀ x ∈ a :: l, P x := fun x hx => by
  rcases List.mem_cons.mp hx with e | e
  · rw [e]; exact h
  · exact r x e
theorem at_mem {xs : List V} {i : Int} (h0 : 0 ≤ i) (h1 : i < xs.length) : ∃ v, v ∈ xs ∧ atI xs i = some v := by
  obtain ⟨n, rfl⟩ : ∃ n : Nat, i = (n : Int) := ⟨i.toNat, by omega⟩
  exact ⟨xs[n]'(by omega), List.getElem_mem _, atI_nat (by simp)⟩
end Lw
namespace Lw
open PySem PySem.Spec PyProof.Rows L2 Gx
/-- fractions at some addresses -/
def Fqs (K : PySem.W.Frag) (H : Hp) (vs : List V) (qs : List Rat) : Prop := Paired (fun v q => ∃ p, v = V.ref p ∧ SqT K H p (Fr.fq q)) vs qs
theorem Fqs.same {K : PySem.W.Frag} {H H' : Hp} (e : Same H H') : ∀ {vs : List V} {qs : List Rat}, Fqs K H vs qs → Fqs K H' vs qs
  | _, _, .nil => .nil
  | _, _, .cons ⟨p, h1, h2⟩ r => .cons ⟨p, h1, seqT_same e h2⟩ (Fqs.same e r)
theorem Fqs.get {K : PySem.W.Frag} {H : Hp} : ∀ {vs : List V} {qs : List Rat} {i : Nat} {v : V}, Fqs K H vs qs → vs[i]? = some v → ∃ p q, v = .ref p ∧ qs[i]? = some q ∧ SqT K H p (Fr.fq q)
  | _, _, 0, v, .cons (b := q) ⟨p, h1, h2⟩ r, e => ⟨p, q, (Option.some.inj e).symm.trans h1, rfl, h2⟩
  | _, _, i + 1, v, .cons ⟨p, h1, h2⟩ r, e => Fqs.get (i := i) r e
theorem Fqs.len {K : PySem.W.Frag} {H : Hp} {vs : List V} {qs : List Rat} (h : Fqs K H vs qs) : vs.length = qs.length := Paired.length h
def sum (qs : List Rat) : Rat := qs.foldl (· + ·) 0
def szs (ns : List Nat) : Nat := ns.foldl (fun a n => a + n + 1) 1
theorem szs_snoc (l : List Nat) (n : Nat) : szs (l ++ [n]) = szs l + n + 1 := by simp [szs]
theorem sum_snoc (l : List Rat) (q : Rat) : sum (l ++ [q]) = sum l + q := by simp [sum]
theorem szs_take (l : List Nat) (i : Nat) : szs (l.take i) ≤ szs l := by
  have h : ∀ (m : List Nat) (a b : Nat), a ≤ b → a ≤ m.foldl (fun a n => a + n + 1) b := fun m => by
    induction m with
    | nil => intro a b h; exact h
    | cons x r ih => intro a b h; exact ih a _ (show a ≤ b + x + 1 by omega)
  have e : szs l = (l.drop i).foldl (fun a n => a + n + 1) (szs (l.take i)) := by
    unfold szs
    rw [← List.foldl_append, List.take_append_drop]
  rw [e]
  exact h _ _ _ (Nat.le_refl _)
theorem take_snoc {α : Type} {l : List α} {i : Nat} {x : α} (h : l[i]? = some x) : l.take (i + 1) = l.take i ++ [x] := by
  rw [List.take_add_one, h]
  rfl
theorem Paired.get {α β : Type} {F : α → β → Prop} : ∀ {as : List α} {bs : List β} {i : Nat} {a : α}, Paired F as bs → as[i]? = some a → ∃ b, bs[i]? = some b ∧ F a b
  | _, _, 0, a, .cons (b := b) h r, e => ⟨b, rfl, (Option.some.inj e) ▸ h⟩
  | _, _, i + 1, a, .cons h r, e => Paired.get (i := i) r e
theorem Fqs.snoc {K : PySem.W.Frag} {H : Hp} {p : Addr} {q : Rat} (h : SqT K H p (Fr.fq q)) : ∀ {vs : List V} {qs : List Rat}, Fqs K H vs qs → Fqs K H (vs ++ [.ref p]) (qs ++ [q])
  | _, _, .nil => .cons ⟨p, rfl, h⟩ .nil
  | _, _, .cons a r => .cons a (Fqs.snoc h r)
theorem Fqs.put {K : PySem.W.Frag} {H : Hp} {p : Addr} {q : Rat} (h : SqT K H p (Fr.fq q)) : ∀ (k : Nat) {vs : List V} {qs : List Rat}, Fqs K H vs qs → Fqs K H (vs.take k ++ [.ref p] ++ vs.drop k) (qs.take k ++ [q] ++ qs.drop k)
  | 0, _, _, r => .cons ⟨p, rfl, h⟩ r
  | _ + 1, _, _, .nil => .cons ⟨p, rfl, h⟩ .nil
  | k + 1, _, _, .cons a r => .cons a (Fqs.put h k r)
theorem foldl_add (l : List Rat) (a : Rat) : l.foldl (· + ·) a = a + sum l := by
  induction l generalizing a with
  | nil => show a = a + 0; rw [Rat.add_zero]
  | cons x r ih =>
    show r.foldl (· + ·) (a + x) = a + r.foldl (· + ·) (0 + x)
    rw [ih, ih, Rat.zero_add, Rat.add_assoc]
theorem sum_app (l m : List Rat) : sum (l ++ m) = sum l + sum m := by
  show (l ++ m).foldl (· + ·) 0 = _
  rw [List.foldl_append]
  exact foldl_add m _
theorem sum_put (l : List Rat) (k : Nat) (q : Rat) : sum (l.take k ++ [q] ++ l.drop k) = sum l + q := by
  have e : sum l = sum (l.take k) + sum (l.drop k) := by rw [← sum_app, List.take_append_drop]
  rw [sum_app, sum_app, e, show sum [q] = q from Rat.zero_add q, Rat.add_assoc, Rat.add_assoc, Rat.add_comm q]
theorem Fqs.dp {K : PySem.W.Frag} {H : Hp} : ∀ {vs : List V} {qs : List Rat}, Fqs K H vs qs → DpAll K H vs (qs.map Fr.fqd)
  | _, _, .nil => .nil
  | _, _, .cons ⟨p, e, h⟩ r => by
    subst e
    exact .cons (Fr.dp_fq h) (Fqs.dp r)
theorem shaped_fqs (qs : List Rat) : SeqAt.shaped (.list (qs.map Fr.fqd)) = true := by
  have h : ∀ l : List Rat, PyData.canLayAll0 (l.map Fr.fqd) = true ∧ PyData.depthAll (l.map Fr.fqd) ≤ 1 := fun l => by
    induction l with
    | nil => exact ⟨by simp [PyData.canLayAll0], by simp [PyData.depthAll]⟩
    | cons n r ih => exact ⟨by simp [PyData.canLayAll0, PyData.canLay0, Fr.fqd, ih.1], by simp [PyData.depthAll, PyData.depth, Fr.fqd]; have := ih.2; omega⟩
  obtain ⟨h1, h2⟩ := h qs
  have h3 : PyData.depthAll (qs.map Fr.fqd) + 1 ≤ 64 := by omega
  simp [SeqAt.shaped, PyData.canLay0, PyData.depth, h1, h3]
theorem szs_rep (n : Nat) : szs (List.replicate n 200) = 1 + 201 * n := by
  induction n with
  | zero => rfl
  | succ n ih => rw [List.replicate_succ', szs_snoc, ih]; omega
def All200 (qs : List Rat) : Prop := ∀ q ∈ qs, Fr.Sz 200 q
theorem All200.paired : ∀ {qs : List Rat}, All200 qs → Paired (fun q n => Fr.Sz n q) qs (List.replicate qs.length 200)
  | [], _ => .nil
  | q :: r, h => .cons (h q (List.mem_cons_self ..)) (All200.paired fun x hx => h x (List.mem_cons_of_mem _ hx))
end Lw
namespace Lw
open PySem PySem.Spec PyProof.Rows L2 Gx
theorem Fqs.imm {K : PySem.W.Frag} {H H' : Hp} (e : Imm H H') : ∀ {vs : List V} {qs : List Rat}, Fqs K H vs qs → Fqs K H' vs qs
  | _, _, .nil => .nil
  | _, _, .cons ⟨p, h, g⟩ r => .cons ⟨p, h, seqT_imm e g⟩ (Fqs.imm e r)
end Lw
namespace Pl
open PySem PySem.Spec PyProof.Rows L2 Gx
abbrev P := List (Str × Int)
def pd (p : Str × Int) : PyData := .tuple [.str p.1, .int p.2]
def d (pl : P) : PyData := .tuple (pl.map pd)
def tot (pl : P) : Int := (pl.map (·.2)).sum
/-- a name: one to eight small letters -/
def Nm (s : Str) : Prop := 1 ≤ s.cps.size ∧ s.cps.size ≤ 8 ∧ ∀ c ∈ s.cps.toList, 97 ≤ c ∧ c ≤ 122
structure Good (pl : P) : Prop where
  nd : (pl.map (·.1)).Nodup
  nm : ∀ p ∈ pl, Nm p.1
  pos : ∀ p ∈ pl, 0 ≤ p.2
  t1 : 1 ≤ tot pl
  t2 : tot pl ≤ 60
  len : pl.length ≤ 9
def place : P → Int → Option (Str × Int)
  | [], _ => none
  | p :: r, k => if k < p.2 then some (p.1, k) else place r (k - p.2)
def numb : P → Str → Int → Int → Option Int
  | [], _, _, _ => none
  | p :: r, s, k, a => if p.1 = s ∧ 0 ≤ k ∧ k < p.2 then some (a + k) else numb r s k (a + p.2)
def row (p : Str × Int) : List (Str × Int) := (List.range p.2.toNat).map fun (k : Nat) => (p.1, (k : Int))
def places (pl : P) : List (Str × Int) := pl.flatMap row
theorem row_len (p : Str × Int) : (row p).length = p.2.toNat := by simp [row]
theorem tot_cons (p : Str × Int) (r : P) : tot (p :: r) = p.2 + tot r := by simp [tot]
theorem tot_nn : ∀ {pl : P}, (∀ p ∈ pl, 0 ≤ p.2) → 0 ≤ tot pl
  | [], _ => by simp [tot]
  | p :: r, h => by
    rw [tot_cons]
    have := tot_nn fun x hx => h x (List.mem_cons_of_mem p hx)
    have := h p (List.mem_cons_self ..)
    omega
theorem places_len : ∀ {pl : P}, (∀ p ∈ pl, 0 ≤ p.2) → ((places pl).length : Int) = tot pl
  | [], _ => rfl
  | p :: r, h => by
    have e : places (p :: r) = row p ++ places r := rfl
    rw [e, List.length_append, row_len, tot_cons]
    have := places_len fun x hx => h x (List.mem_cons_of_mem p hx)
    have := h p (List.mem_cons_self ..)
    omega
theorem row_at {p : Str × Int} {k : Nat} (h : (k : Int) < p.2) : (row p)[k]? = some (p.1, (k : Int)) := by
  unfold row
  rw [List.getElem?_map, List.getElem?_range (by omega)]
  rfl
theorem place_eq : ∀ {pl : P} {k : Nat}, (∀ p ∈ pl, 0 ≤ p.2) → place pl (k : Int) = (places pl)[k]?
  | [], k, _ => by simp [place, places]
  | p :: r, k, h => by
    have h0 := h p (List.mem_cons_self ..)
    have e : places (p :: r) = row p ++ places r := rfl
    rw [e]
    show (if (k : Int) < p.2 then _ else _) = _
    by_cases c : (k : Int) < p.2
    · rw [if_pos c, List.getElem?_append_left (by rw [row_len]; omega), row_at c]
    · rw [if_neg c, List.getElem?_append_right (by rw [row_len]; omega), row_len, show (k : Int) - p.2 = ((k - p.2.toNat : Nat) : Int) by omega]
      exact place_eq fun x hx => h x (List.mem_cons_of_mem p hx)
theorem mem_row {p q : Str × Int} (h : q ∈ row p) : q.1 = p.1 ∧ 0 ≤ q.2 ∧ q.2 < p.2 := by
  unfold row at h
  obtain ⟨k, hk, rfl⟩ := List.mem_map.mp h
  have := List.mem_range.mp hk
  exact ⟨rfl, by simp, by show (k : Int) < p.2; omega⟩
theorem mem_places : ∀ {pl : P} {q : Str × Int}, q ∈ places pl ↔ ∃ p ∈ pl, q.1 = p.1 ∧ 0 ≤ q.2 ∧ q.2 < p.2
  | pl, q => by
    unfold places
    rw [List.mem_flatMap]
    constructor
    · rintro ⟨p, hp, hq⟩
      exact ⟨p, hp, mem_row hq⟩
    · rintro ⟨p, hp, e, h0, h1⟩
      refine ⟨p, hp, ?_⟩
      unfold row
      rw [List.mem_map]
      refine ⟨q.2.toNat, List.mem_range.mpr (by omega), ?_⟩
      rw [← e, Int.toNat_of_nonneg h0]
theorem numb_none : ∀ {pl : P} {s : Str} {k a : Int}, numb pl s k a = none ↔ (s, k) ∉ places pl
  | [], s, k, a => by simp [numb, places]
  | p :: r, s, k, a => by
    have ih := numb_none (pl := r) (s := s) (k := k) (a := a + p.2)
    show (if _ then _ else _) = none ↔ _
    by_cases c : p.1 = s ∧ 0 ≤ k ∧ k < p.2
    · rw [if_pos c]
      refine ⟨fun z => (by cases z), fun z => (z ?_).elim⟩
      exact mem_places.mpr ⟨p, List.mem_cons_self .., c.1.symm, c.2.1, c.2.2⟩
    · rw [if_neg c, ih, mem_places, mem_places]
      constructor
      · rintro h ⟨x, hx, e⟩
        rcases List.mem_cons.mp hx with q | q
        · subst q; exact c ⟨e.1.symm, e.2.1, e.2.2⟩
        · exact h ⟨x, q, e⟩
      · rintro h ⟨x, hx, e⟩
        exact h ⟨x, List.mem_cons_of_mem _ hx, e⟩
theorem numb_at : ∀ {pl : P} {s : Str} {k a : Int} {i : Nat}, (pl.map (·.1)).Nodup → (∀ p ∈ pl, 0 ≤ p.2) → (places pl)[i]? = some (s, k) → numb pl s k a = some (a + (i : Int))
  | [], s, k, a, i, _, _, h => by simp [places] at h
  | p :: r, s, k, a, i, nd, h0, h => by
    have e : places (p :: r) = row p ++ places r := rfl
    have hp := h0 p (List.mem_cons_self ..)
    rw [List.map_cons, List.nodup_cons] at nd
    rw [e] at h
    show (if _ then _ else _) = _
    by_cases c : i < (row p).length
    · rw [List.getElem?_append_left c] at h
      rw [row_len] at c
      rw [row_at (by omega)] at h
      cases h
      rw [if_pos ⟨rfl, by omega, by omega⟩]
    · rw [List.getElem?_append_right (by omega)] at h
      rw [row_len] at h c
      have hm := mem_places.mp (List.mem_of_getElem? h)
      obtain ⟨x, hx, ex, _, _⟩ := hm
      rw [if_neg (fun z => nd.1 (by rw [z.1, show s = x.1 from ex]; exact List.mem_map_of_mem hx))]
      rw [numb_at nd.2 (fun x hx => h0 x (List.mem_cons_of_mem p hx)) h]
      congr 1
      omega
theorem sum_set : ∀ (cs : List Int) (j : Nat) (v : Int), j < cs.length → (cs.set j v).sum = cs.sum - cs.getD j 0 + v
  | [], j, v, h => by simp at h
  | c :: r, 0, v, h => by simp; omega
  | c :: r, j + 1, v, h => by
    have ih := sum_set r j v (by simpa using h)
    simp at ih ⊢
    omega
theorem sum_nn : ∀ {cs : List Int}, (∀ c ∈ cs, 0 ≤ c) → 0 ≤ cs.sum ∧ ∀ c ∈ cs, c ≤ cs.sum
  | [], _ => ⟨by simp, fun _ h => nomatch h⟩
  | c :: r, h => by
    obtain ⟨h1, h2⟩ := sum_nn fun x hx => h x (List.mem_cons_of_mem c hx)
    have h0 := h c (List.mem_cons_self ..)
    rw [List.sum_cons]
    refine ⟨by omega, fun x hx => ?_⟩
    rcases List.mem_cons.mp hx with e | e
    · rw [e]; omega
    · have := h2 x e; omega
theorem sum_set0 {cs : List Int} (h : ∀ c ∈ cs, 0 ≤ c) (h0 : cs.sum = 0) {j : Nat} (hj : j < cs.length) (v : Int) : (cs.set j v).sum = v := by
  obtain ⟨_, h2⟩ := sum_nn h
  have hm : cs.getD j 0 ∈ cs := by
    rw [show cs.getD j 0 = cs[j] by simp [hj]]
    exact List.getElem_mem hj
  have := h2 _ hm
  have := h _ hm
  rw [sum_set cs j v hj]
  omega
theorem zip_set : ∀ {ns : List Str} {cs : List Int} {j : Nat} {s : Str} (v : Int), ns[j]? = some s → ns.zip (cs.set j v) = (ns.zip cs).set j (s, v)
  | [], _, _, _, _, h => by simp at h
  | n :: r, [], j, s, v, h => by simp
  | n :: r, c :: t, 0, s, v, h => by simp at h; simp [h]
  | n :: r, c :: t, j + 1, s, v, h => by
    have ih := zip_set (cs := t) v (show r[j]? = some s by simpa using h)
    simp [ih]
/-! data -/
theorem noL_d (pl : P) : noL (d pl) = true := Dt.noL_tup fun x hx => by
  obtain ⟨p, _, rfl⟩ := List.mem_map.mp hx
  rfl
theorem Nm.ok {s : Str} (h : Nm s) : PyData.strOk s = true := by
  unfold PyData.strOk
  rw [← Array.all_toList, List.all_eq_true]
  intro c hc
  have := h.2.2 c hc
  simp
  omega
theorem sh_pd0 {k : Nat} {p : Str × Int} (h : PyData.strOk p.1 = true) : Dt.Sh (k + 1) (pd p) := Dt.sh_tup fun x hx => by
  rcases List.mem_cons.mp hx with e | e
  · rw [e]; exact Dt.sh_str h
  · rw [List.mem_singleton.mp e]; exact Dt.sh_int _
theorem ok_app {a b : Str} (h : PyData.strOk a = true) (g : PyData.strOk b = true) : PyData.strOk (a ++ b) = true := by
  unfold PyData.strOk at h g ⊢
  show (a.cps ++ b.cps).all _ = true
  rw [Array.all_append, h, g]
  rfl
theorem sh_pd {k : Nat} {p : Str × Int} (h : Nm p.1) : Dt.Sh (k + 1) (pd p) := Dt.sh_tup fun x hx => by
  rcases List.mem_cons.mp hx with e | e
  · rw [e]; exact Dt.sh_str h.ok
  · rw [List.mem_singleton.mp e]; exact Dt.sh_int _
theorem sh_places {pl : P} (h : ∀ p ∈ pl, Nm p.1) : ∀ q ∈ places pl, Nm q.1 := fun q hq => by
  obtain ⟨p, hp, e, _⟩ := mem_places.mp hq
  rw [e]
  exact h p hp
/-- a piles' tuple at a place -/
theorem at_pd {K : PySem.W.Frag} {H : Hp} {xs : List V} {pl : P} {i : Nat} {x : V} (h : DpAll K H xs (pl.map pd)) (e : xs[i]? = some x) : ∃ p s, pl[i]? = some p ∧ x = .ref s ∧ SqT K H s [.str p.1, .int p.2] := by
  obtain ⟨z, hz, hd⟩ := Dt.at_ h e
  rw [List.getElem?_map] at hz
  cases q : pl[i]? with
  | none => rw [q] at hz; cases hz
  | some p =>
    rw [q] at hz
    cases hz
    obtain ⟨s, u, v, rfl, hs, h1, h2⟩ := Dt.pair hd
    rw [Dt.str h1, Dt.int h2] at hs
    exact ⟨p, s, rfl, rfl, hs⟩
theorem dp_pd {K : PySem.W.Frag} {H : Hp} {s : Addr} {p : Str × Int} (h : SqT K H s [.str p.1, .int p.2]) : Dp K H (.ref s) (pd p) := .tup h (Dt.two (.str _) (.int _))
/-! what a place is -/
inductive IsPl (K : PySem.W.Frag) (H : Hp) : V → Option (Str × Int) → Prop
  | kind {x : V} {t : Value} (ht : TyX K H x t) (hk : PySem.W.kitOne K t (.type "tuple") = some false) : IsPl K H x none
  | len {p : Addr} {xs : List V} (h : SqT K H p xs) (hl : xs.length ≠ 2) : IsPl K H (.ref p) none
  | key {p : Addr} {u v : V} {t : Value} (h : SqT K H p [u, v]) (ht : TyX K H u t) (hk : PySem.W.kitOne K t (.type "str") = some false) : IsPl K H (.ref p) none
  | num {p : Addr} {s : Str} {v : V} (h : SqT K H p [.str s, v]) (hv : Lw.Whole K H v false) : IsPl K H (.ref p) none
  | yes {p : Addr} {s : Str} {k : Int} (h : SqT K H p [.str s, .int k]) : IsPl K H (.ref p) (some (s, k))
theorem IsPl.same {K : PySem.W.Frag} {H H' : Hp} (e : Same H H') {x : V} {o : Option (Str × Int)} (h : IsPl K H x o) : IsPl K H' x o := by
  cases h with
  | kind ht hk => exact .kind (tyx_same e ht) hk
  | len h hl => exact .len (seqT_same e h) hl
  | key h ht hk => exact .key (seqT_same e h) (tyx_same e ht) hk
  | num h hv => exact .num (seqT_same e h) (hv.same e)
  | yes h => exact .yes (seqT_same e h)
/-- a place, its name a text that can be laid -/
def Pq (K : PySem.W.Frag) (H : Hp) (x : V) : Prop := ∃ o, IsPl K H x o ∧ ∀ z, o = some z → PyData.strOk z.1 = true
theorem Pq.same {K : PySem.W.Frag} {H H' : Hp} (e : Same H H') {x : V} (h : Pq K H x) : Pq K H' x := by
  obtain ⟨o, h, g⟩ := h
  exact ⟨o, h.same e, g⟩
theorem Pq.no {K : PySem.W.Frag} {H : Hp} {x : V} (h : IsPl K H x none) : Pq K H x := ⟨none, h, fun _ z => nomatch z⟩
theorem Pq.yes {K : PySem.W.Frag} {H : Hp} {p : Addr} {s : Str} {k : Int} (h : SqT K H p [.str s, .int k]) (g : PyData.strOk s = true) : Pq K H (.ref p) := ⟨_, .yes h, fun z e => by cases e; exact g⟩
theorem eqv_pd (a b : Str × Int) : PyData.eqv (pd a) (pd b) = decide (a = b) := by
  obtain ⟨s, k⟩ := a
  obtain ⟨t, j⟩ := b
  by_cases h : s = t <;> by_cases g : k = j <;> simp [pd, PyData.eqv, PyData.eqvAll, h, g]
end Pl
namespace Pl
open PySem PySem.Spec PyProof.Rows L2 Gx
def abc : Str := "abcdefghijklmnopqrstuvwxyz"
theorem abc_at {i : Int} (h0 : 0 ≤ i) (h1 : i < 26) : atI abc.cps.toList i = some (97 + i.toNat) := by
  obtain ⟨k, rfl⟩ := Int.eq_ofNat_of_zero_le h0
  have h : ∀ k : Fin 26, atI abc.cps.toList ((k.1 : Nat) : Int) = some (97 + ((k.1 : Nat) : Int).toNat) := by decide +kernel
  exact h ⟨k, by omega⟩
def one (c : Nat) : Str := ⟨#[c]⟩
theorem join_ones : ∀ cs : List Nat, Txt.join Str.empty (cs.map one) = ⟨cs.toArray⟩ := fun cs => by
  show Builtin.Str.glued Str.empty (cs.map one) = _
  rw [PySem.StrLaws.glued_eq_join]
  induction cs with
  | nil => rfl
  | cons c r ih =>
    cases r with
    | nil => rfl
    | cons c2 r =>
      rw [List.map_cons, List.map_cons, join_cons_cons, ← List.map_cons, ih]
      show Str.append (Str.append (one c) Str.empty) ⟨_⟩ = _
      simp [Str.append, one, Str.empty]
theorem sum_ones (cs : List Nat) : ((cs.map one).map (·.length)).sum = cs.length := by
  induction cs with
  | nil => rfl
  | cons c r ih => rw [List.map_cons, List.map_cons, List.sum_cons, ih, List.length_cons]; show 1 + r.length = _; omega
/-- a text, one letter of it changed -/
def nm (cs : List Nat) (k : Nat) (c : Nat) : Str := ⟨(cs.set k c).toArray⟩
def Letters (cs : List Nat) : Prop := ∀ c ∈ cs, 97 ≤ c ∧ c ≤ 122
theorem Letters.set {cs : List Nat} (h : Letters cs) (k : Nat) {c : Nat} (hc : 97 ≤ c ∧ c ≤ 122) : Letters (cs.set k c) := fun x hx => by
  rcases List.mem_or_eq_of_mem_set hx with e | e
  · exact h x e
  · rw [e]; exact hc
theorem nm_of {cs : List Nat} (h : Letters cs) (h1 : 1 ≤ cs.length) (h8 : cs.length ≤ 8) : Nm ⟨cs.toArray⟩ := ⟨by simpa using h1, by simpa using h8, fun c hc => h c (by simpa using hc)⟩
theorem nm_inj {cs : List Nat} {k c d : Nat} (hk : k < cs.length) (h : nm cs k c = nm cs k d) : c = d := by
  unfold nm at h
  have h2 : cs.set k c = cs.set k d := by simpa using h
  have h3 := congrArg (fun l => l[k]?) h2
  simpa [hk] using h3
/-- so many names, one after another -/
def some_ (cs : List Nat) (k : Nat) (c0 : Int) (m : Nat) : List Str := (List.range m).map fun (j : Nat) => nm cs k (97 + ((c0 + (j : Int)) % 26).toNat)
theorem some_len (cs : List Nat) (k : Nat) (c0 : Int) (m : Nat) : (some_ cs k c0 m).length = m := by simp [some_]
theorem some_succ (cs : List Nat) (k : Nat) (c0 : Int) (m : Nat) : some_ cs k c0 (m + 1) = some_ cs k c0 m ++ [nm cs k (97 + ((c0 + (m : Int)) % 26).toNat)] := by simp [some_, List.range_succ]
theorem some_nd {cs : List Nat} {k : Nat} (hk : k < cs.length) (c0 : Int) {m : Nat} (hm : m ≤ 9) : (some_ cs k c0 m).Nodup := by
  unfold some_
  refine List.pairwise_map.mpr (List.Pairwise.imp_of_mem ?_ List.pairwise_lt_range)
  intro a b ha hb hab e
  have := nm_inj hk e
  have := List.mem_range.mp ha
  have := List.mem_range.mp hb
  omega
theorem some_nm {cs : List Nat} {k : Nat} (h : Letters cs) (h1 : 1 ≤ cs.length) (h8 : cs.length ≤ 8) (c0 : Int) (m : Nat) : ∀ s ∈ some_ cs k c0 m, Nm s := fun s hs => by
  obtain ⟨j, _, rfl⟩ := List.mem_map.mp hs
  exact nm_of (h.set k (by omega)) (by simpa using h1) (by simpa using h8)
theorem some_size {cs : List Nat} {k : Nat} {c0 : Int} {m : Nat} : ∀ s ∈ some_ cs k c0 m, s.cps.size = cs.length := fun s hs => by
  obtain ⟨j, _, rfl⟩ := List.mem_map.mp hs
  simp [nm]
/-- a text's front -/
theorem cut_front {s : Str} {k : Nat} (h : k ≤ s.cps.size) : cutS s none (some (k : Int)) = ⟨(s.cps.toList.take k).toArray⟩ := by
  unfold cutS
  rw [HT.sIx_none, HT.sIx_nat, Nat.min_eq_left (show k ≤ s.length from h)]
  rfl
def fr (s : Str) (k : Nat) : Str := ⟨(s.cps.toList.take (k + 1)).toArray⟩
theorem fr_size {s : Str} {k : Nat} (h : k < s.cps.size) : (fr s k).cps.size = k + 1 := by
  simp [fr]
  omega
theorem fr_nm {s : Str} {k : Nat} (h : Nm s) (hk : k < s.cps.size) : Nm (fr s k) := by
  refine ⟨by rw [fr_size hk]; omega, by rw [fr_size hk]; have := h.2.1; omega, fun c hc => h.2.2 c ?_⟩
  have : c ∈ s.cps.toList.take (k + 1) := by simpa [fr] using hc
  exact List.mem_of_mem_take this
theorem fr_all {s : Str} (h : s.cps.size = 8) : fr s 7 = s := by
  cases s with
  | mk a =>
    unfold fr
    congr 1
    have : a.toList.length = 8 := by simpa using h
    show (a.toList.take 8).toArray = a
    rw [List.take_of_length_le (by omega)]
/-- the fronts of the first, then the others -/
theorem fronts_nd {s : Str} {r : List Str} (h : s.cps.size = 8) (hr : ∀ x ∈ r, x.cps.size = 8) (nd : (s :: r).Nodup) : ((List.range 8).map (fr s) ++ r).Nodup := by
  have nd2 := List.nodup_cons.mp nd
  refine List.pairwise_append.mpr ⟨?_, nd2.2, ?_⟩
  · refine List.pairwise_map.mpr (List.Pairwise.imp_of_mem ?_ List.pairwise_lt_range)
    intro a b ha hb hab e
    have := List.mem_range.mp ha
    have := List.mem_range.mp hb
    have e2 : (fr s a).cps.size = (fr s b).cps.size := congrArg (fun x : Str => x.cps.size) e
    rw [fr_size (by omega), fr_size (by omega)] at e2
    omega
  · intro a ha b hb e
    obtain ⟨j, hj, rfl⟩ := List.mem_map.mp ha
    have := List.mem_range.mp hj
    have e2 : (fr s j).cps.size = b.cps.size := congrArg (fun x : Str => x.cps.size) e
    rw [fr_size (by omega), hr b hb] at e2
    obtain rfl : j = 7 := by omega
    rw [fr_all h] at e
    exact nd2.1 (e ▸ hb)
end Pl
namespace Cm
open PySem PySem.Spec PyProof.Rows L2 Gx
/-- a claim -/
inductive C
  | claim
  | beats (o t : Str)
  | over (n : Str) (s : Rat)
  | under (n : Str) (s : Rat)
def greatest : C → Rat
  | .claim => 1/2
  | .beats _ _ => 1
  | .over _ s => (1/2) / s
  | .under _ s => (1/2) / (1 - s)
def valueOf : C → Option Str → Rat
  | .claim, _ => 1/2
  | .beats o t, m => if m = some o then 1 else if m = some t then 0 else 1/2
  | .over n s, m => if m = none ∨ m = some (Str.ofString "") then 1/2 else if m = some n then greatest (.over n s) else 0
  | .under n s, m => if m = none ∨ m = some (Str.ofString "") then 1/2 else if m = some n then 0 else greatest (.under n s)
def value (c : C) (m : Option Str) : Rat := if m = some (Str.ofString "?") then 0 else valueOf c m
def Ok (n : Nat) : C → Prop
  | .over _ s => 0 < s ∧ s < 1 ∧ Fr.Sz n s
  | .under _ s => 0 < s ∧ s < 1 ∧ Fr.Sz n s
  | _ => True
def At (K : PySem.W.Frag) (H : Hp) (a : Addr) : C → Prop
  | .claim => ∃ dx, H a = some (.ins (He.ga K "Claim") dx [])
  | .beats o t => ∃ dx, H a = some (.ins (He.ga K "Beats") dx [("one", .str o), ("other", .str t)])
  | .over n s => ∃ dx q, H a = some (.ins (He.ga K "Over") dx [("name", .str n), ("share", .ref q)]) ∧ SqT K H q (Fr.fq s)
  | .under n s => ∃ dx q, H a = some (.ins (He.ga K "Under") dx [("name", .str n), ("share", .ref q)]) ∧ SqT K H q (Fr.fq s)
theorem At.same {K : PySem.W.Frag} {H H' : Hp} (e : Same H H') {a : Addr} : ∀ {c : C}, At K H a c → At K H' a c
  | .claim, ⟨dx, h⟩ => ⟨dx, e _ _ h⟩
  | .beats _ _, ⟨dx, h⟩ => ⟨dx, e _ _ h⟩
  | .over _ _, ⟨dx, q, h, g⟩ => ⟨dx, q, e _ _ h, seqT_same e g⟩
  | .under _ _, ⟨dx, q, h, g⟩ => ⟨dx, q, e _ _ h, seqT_same e g⟩
theorem ins_lst {C dx : Addr} {fs : List (Str × V)} {xs : List V} : HO.ins C dx fs ≠ HO.lst xs := fun z => by cases z
theorem At.but {K : PySem.W.Frag} {H H' : Hp} {l : Addr} {ys : List V} (b : But l H H') (hl : H l = some (.lst ys)) {a : Addr} : ∀ {c : C}, At K H a c → At K H' a c
  | .claim, ⟨dx, h⟩ => ⟨dx, b _ _ (ne_of h hl ins_lst) h⟩
  | .beats _ _, ⟨dx, h⟩ => ⟨dx, b _ _ (ne_of h hl ins_lst) h⟩
  | .over _ _, ⟨dx, q, h, g⟩ => ⟨dx, q, b _ _ (ne_of h hl ins_lst) h, seqT_but b hl g⟩
  | .under _ _, ⟨dx, q, h, g⟩ => ⟨dx, q, b _ _ (ne_of h hl ins_lst) h, seqT_but b hl g⟩
/-- a mark: a text, or None -/
def mv : Option Str → V
  | none => .non
  | some s => .str s
theorem k_eqM {K : PySem.W.Frag} {H : Hp} {Q : VK} {m : Option Str} {s : Str} (q : Q (.bl (decide (m = some s))) H) : rEqU K (mv m) (.str s) H Q := by
  cases m with
  | none => exact k_eqS rfl (by rw [show decide (mv none = .str s) = decide ((none : Option Str) = some s) by simp [mv]]; exact q)
  | some t => exact k_eqT (by rw [show decide (t = s) = decide (some t = some s) by by_cases h : t = s <;> simp [h]]; exact q)
theorem k_neM {K : PySem.W.Frag} {H : Hp} {Q : VK} {m : Option Str} {s : Str} (q : Q (.bl (!decide (m = some s))) H) : rNeU K (mv m) (.str s) H Q := by
  cases m with
  | none => exact k_neS rfl (by rw [show decide (mv none = .str s) = decide ((none : Option Str) = some s) by simp [mv]]; exact q)
  | some t => exact k_neT (by rw [show decide (t = s) = decide (some t = some s) by by_cases h : t = s <;> simp [h]]; exact q)
theorem dec_non (m : Option Str) : decide (mv m = V.non) = decide (m = none) := by
  cases m <;> simp [mv]
theorem fq0 : Fr.fq 0 = [.int 0, .int 1] := rfl
theorem fq1 : Fr.fq 1 = [.int 1, .int 1] := rfl
theorem fqh : Fr.fq (1/2) = [.int 1, .int 2] := by
  have e1 : (1/2 : Rat).num = 1 := by decide +kernel
  have e2 : (1/2 : Rat).den = 2 := by decide +kernel
  show [V.int (1/2 : Rat).num, V.int ((1/2 : Rat).den : Int)] = _
  rw [e1, e2]
  rfl
theorem sz0 {n : Nat} : Fr.Sz (n + 2) 0 := ⟨by show (0 : Int).natAbs < _; exact Nat.two_pow_pos _, by show 1 < 2 ^ (n + 2); have := Nat.two_pow_pos n; rw [Nat.pow_add]; omega⟩
theorem sz1 {n : Nat} : Fr.Sz (n + 2) 1 := ⟨by show 1 < 2 ^ (n + 2); have := Nat.two_pow_pos n; rw [Nat.pow_add]; omega, by show 1 < 2 ^ (n + 2); have := Nat.two_pow_pos n; rw [Nat.pow_add]; omega⟩
theorem szh {n : Nat} : Fr.Sz (n + 2) (1/2) := by
  have e1 : (1/2 : Rat).num = 1 := by decide +kernel
  have e2 : (1/2 : Rat).den = 2 := by decide +kernel
  have := Nat.two_pow_pos n
  refine ⟨?_, ?_⟩
  · rw [e1, Nat.pow_add]; show 1 < _; omega
  · rw [e2, Nat.pow_add]; omega
theorem ne1 {s : Rat} (h : s < 1) : 1 - s ≠ 0 := fun z => by
  have e : s = 1 := by grind
  rw [e] at h
  exact absurd h (by decide)
theorem ne0 {s : Rat} (h : 0 < s) : s ≠ 0 := fun z => by rw [z] at h; exact absurd h (by decide)
theorem sz_greatest {n : Nat} : ∀ {c : C}, Ok n c → Fr.Sz (n + 5) (greatest c)
  | .claim, _ => (szh (n := n)).mono (by omega)
  | .beats _ _, _ => (sz1 (n := n)).mono (by omega)
  | .over _ s, h => (Fr.Sz.div (m := 2) (szh (n := 0)) h.2.2).mono (by omega)
  | .under _ s, h => (Fr.Sz.div (m := 2) (szh (n := 0)) (Fr.Sz.sub (m := 2) (sz1 (n := 0)) h.2.2)).mono (by omega)
theorem sz_valueOf {n : Nat} (c : C) (h : Ok n c) (m : Option Str) : Fr.Sz (n + 5) (valueOf c m) := by
  have g := sz_greatest h
  have a0 : Fr.Sz (n + 5) 0 := (sz0 (n := n)).mono (by omega)
  have a1 : Fr.Sz (n + 5) 1 := (sz1 (n := n)).mono (by omega)
  have ah : Fr.Sz (n + 5) (1/2) := (szh (n := n)).mono (by omega)
  cases c with
  | claim => exact ah
  | beats o t =>
    show Fr.Sz (n + 5) (if m = some o then 1 else if m = some t then 0 else 1/2)
    split
    · exact a1
    · split
      · exact a0
      · exact ah
  | over k s =>
    show Fr.Sz (n + 5) (if m = none ∨ m = some (Str.ofString "") then 1/2 else if m = some k then greatest (.over k s) else 0)
    split
    · exact ah
    · split
      · exact g
      · exact a0
  | under k s =>
    show Fr.Sz (n + 5) (if m = none ∨ m = some (Str.ofString "") then 1/2 else if m = some k then 0 else greatest (.under k s))
    split
    · exact ah
    · split
      · exact a0
      · exact g
theorem sz_value {n : Nat} (c : C) (h : Ok n c) (m : Option Str) : Fr.Sz (n + 5) (value c m) := by
  unfold value
  split
  · exact (sz0 (n := n)).mono (by omega)
  · exact sz_valueOf c h m
/-! shares -/
theorem num_pos {s : Rat} (h : 0 < s) : 0 < s.num := by
  have := (Rat.lt_iff 0 s).mp h
  have e : (0 : Rat).num * (s.den : Int) = 0 := by rw [show (0 : Rat).num = 0 from rfl, Int.zero_mul]
  have e2 : s.num * ((0 : Rat).den : Int) = s.num := by rw [show (0 : Rat).den = 1 from rfl]; omega
  rw [e, e2] at this
  exact this
theorem num_lt {s : Rat} (h : s < 1) : s.num < (s.den : Int) := by
  have := (Rat.lt_iff s 1).mp h
  have e : s.num * ((1 : Rat).den : Int) = s.num := by rw [show (1 : Rat).den = 1 from rfl]; omega
  have e2 : (1 : Rat).num * (s.den : Int) = (s.den : Int) := by rw [show (1 : Rat).num = 1 from rfl]; omega
  rw [e, e2] at this
  exact this
theorem share_pos {a b : Int} (ha : 1 ≤ a) (hb : a < b) : 0 < Rat.divInt a b ∧ Rat.divInt a b < 1 := by
  constructor
  · have e : Rat.divInt a b = (a : Rat) / (b : Rat) := Rat.divInt_eq_div a b
    rw [e, Rat.lt_div_iff (by exact_mod_cast (show (0 : Int) < b by omega)), Rat.zero_mul]
    exact_mod_cast (show (0 : Int) < a by omega)
  · have e : Rat.divInt a b = (a : Rat) / (b : Rat) := Rat.divInt_eq_div a b
    rw [e, Rat.div_lt_iff (by exact_mod_cast (show (0 : Int) < b by omega)), Rat.one_mul]
    exact_mod_cast hb
theorem half_num : (1/2 : Rat).num = 1 := by decide +kernel
theorem half_den : (1/2 : Rat).den = 2 := by decide +kernel
theorem half_over (s : Rat) : Rat.divInt (s.den : Int) (2 * s.num) = (1/2) / s := by
  rw [← Fr.div_eq, half_num, half_den, Int.one_mul]
  rfl
theorem one_sub (s : Rat) : Rat.divInt ((s.den : Int) - s.num) (s.den : Int) = 1 - s := by
  rw [← Fr.sub_eq]
  show _ = Rat.divInt (1 * (s.den : Int) - s.num * 1) (1 * (s.den : Int))
  rw [Int.one_mul, Int.mul_one]
theorem half_under (s : Rat) : Rat.divInt (s.den : Int) (2 * ((s.den : Int) - s.num)) = (1/2) / (1 - s) := by
  rw [← one_sub s]
  have e : (1/2 : Rat) = Rat.divInt 1 2 := by decide +kernel
  rw [e, Rat.div_def, Rat.inv_divInt, Rat.divInt_mul_divInt, Int.one_mul]
/-! marks among names -/
theorem flat_mv (m : Option Str) : flatV (mv m) = true := by cases m <;> rfl
theorem flat_strs (ns : List Str) : (ns.map V.str).all flatV = true := by simp [flatV]
theorem in_mv (m : Option Str) : ∀ ns : List Str, inV (mv m) (ns.map V.str) = decide (∃ n ∈ ns, m = some n) := fun ns => by
  unfold inV
  induction ns with
  | nil => simp
  | cons a r ih =>
    rw [List.map_cons, List.any_cons, ih]
    cases m with
    | none => simp [mv, eqV]
    | some t =>
      have e : eqV (V.str a) (mv (some t)) = decide (a = t) := by
        show (a == t) = _
        by_cases h : a = t
        · simp [h]
        · rw [decide_eq_false h, beq_eq_false_iff_ne.mpr h]
      rw [e]
      by_cases h : a = t
      · simp [h]
      · have h2 : ¬ t = a := fun z => h z.symm
        simp [h, h2]
/-! a claim's method, whatever its class -/
def pick {α : Type} (c : C) (a b d e : α) : α := match c with
  | .claim => a
  | .beats _ _ => b
  | .over _ _ => d
  | .under _ _ => e
theorem pick_same {α : Type} (c : C) (a : α) : pick c a a a a = a := by cases c <;> rfl
theorem k_m4 {K : PySem.W.Frag} {σ : L2.St} {H : Hp} {Q : VK} {ta : TE} {t : TA} {m : Str} {sp1 sp2 sp3 sp4 : Sp} {E : L2.St → XK} {a : Addr} {c : C} (hev : ∀ Q : VK, Q (.ref a) H → ta σ H Q) (hc : At K H a c) (q : t σ H fun vs H2 => (pick c sp1 sp2 sp3 sp4) (.ref a :: vs) H2 Q (E σ))
    (h1 : (m == (Str.ofString "one")) = false := by decide +kernel) (h2 : (m == (Str.ofString "other")) = false := by decide +kernel) (h3 : (m == (Str.ofString "name")) = false := by decide +kernel) (h4 : (m == (Str.ofString "share")) = false := by decide +kernel) :
    tOr2 (tMethS (He.ga K "Claim") m sp1 E ta t) (tOr2 (tMethS (He.ga K "Beats") m sp2 E ta t) (tOr2 (tMethS (He.ga K "Over") m sp3 E ta t) (tMethS (He.ga K "Under") m sp4 E ta t))) σ H Q := by
  cases c with
  | claim =>
    obtain ⟨dx, hi⟩ := hc
    exact k_o1 (k_meth (hev _ (k_methx hi lk0 q)))
  | beats o u =>
    obtain ⟨dx, hi⟩ := hc
    exact k_o2 (k_o1 (k_meth (hev _ (k_methx hi (lkz h1 (lkz h2 lk0)) q))))
  | over n s =>
    obtain ⟨dx, p, hi, _⟩ := hc
    exact k_o2 (k_o2 (k_o1 (k_meth (hev _ (k_methx hi (lkz h3 (lkz h4 lk0)) q)))))
  | under n s =>
    obtain ⟨dx, p, hi, _⟩ := hc
    exact k_o2 (k_o2 (k_o2 (k_meth (hev _ (k_methx hi (lkz h3 (lkz h4 lk0)) q)))))
end Cm
namespace Sr
open PySem PySem.Spec PyProof.Rows L2 Gx
/-- a source of numbers: how many were drawn, then the cells -/
def Src (cs : List Int) : Prop := ∃ k r, cs = k :: r ∧ 0 ≤ k ∧ r ≠ [] ∧ r.length ≤ 62
theorem cut1 {xs : List V} : cutV xs (some 1) (some 63) = (xs.drop 1).take 62 := by
  unfold cutV
  rw [show (some (1 : Int)) = some ((1 : Nat) : Int) from rfl, show (some (63 : Int)) = some ((63 : Nat) : Int) from rfl, HT.sIx_nat, HT.sIx_nat]
  by_cases c : 63 ≤ xs.length
  · rw [show min 1 xs.length = 1 by omega, show min 63 xs.length = 63 by omega]
  · by_cases c1 : 1 ≤ xs.length
    · rw [show min 1 xs.length = 1 by omega, show min 63 xs.length = xs.length by omega, List.take_of_length_le (by simp), List.take_of_length_le (by simp; omega)]
    · rw [show xs = [] from List.length_eq_zero_iff.mp (by omega)]
      rfl
theorem cut63 {xs : List V} : cutV xs none (some 63) = xs.take 63 := by
  unfold cutV
  rw [show (some (63 : Int)) = some ((63 : Nat) : Int) from rfl, HT.sIx_nat, HT.sIx_none, List.drop_zero, Nat.sub_zero]
  by_cases c : 63 ≤ xs.length
  · rw [Nat.min_eq_left c]
  · rw [Nat.min_eq_right (by omega), List.take_of_length_le (by omega), List.take_of_length_le (by omega)]
end Sr
namespace Cm
open PySem PySem.Spec PyProof.Rows L2 Gx Lw
theorem Fqs.but {K : PySem.W.Frag} {H H' : Hp} {l : Addr} {ys : List V} (b : But l H H') (hl : H l = some (.lst ys)) : ∀ {vs : List V} {qs : List Rat}, Fqs K H vs qs → Fqs K H' vs qs
  | _, _, .nil => .nil
  | _, _, .cons ⟨p, h1, h2⟩ r => .cons ⟨p, h1, seqT_but b hl h2⟩ (Fqs.but b hl r)
/-- whether a claim holds of marks -/
def holds (c : C) (ms : List (Option Str)) : Prop := (ms.length : Rat) / 2 < Lw.sum (ms.map (value c))
instance (c : C) (ms : List (Option Str)) : Decidable (holds c ms) := inferInstanceAs (Decidable ((ms.length : Rat) / 2 < Lw.sum (ms.map (value c))))
theorem sizes {n : Nat} (c : C) (h : Ok n c) : ∀ ms : List (Option Str), Paired (fun q k => Fr.Sz k q) (ms.map (value c)) (ms.map fun _ => n + 5)
  | [] => .nil
  | m :: r => .cons (sz_value c h m) (sizes c h r)
theorem szs_rep {α : Type} (n : Nat) : ∀ ms : List α, Lw.szs (ms.map fun _ => n + 5) = ms.length * (n + 6) + 1 := fun ms => by
  have h : ∀ (l : List α) (b : Nat), (l.map fun _ => n + 5).foldl (fun a n => a + n + 1) b = b + l.length * (n + 6) := fun l => by
    induction l with
    | nil => intro b; simp
    | cons x r ih =>
      intro b
      rw [List.map_cons, List.foldl_cons, ih, List.length_cons, Nat.succ_mul]
      omega
  unfold Lw.szs
  rw [h]
  omega
theorem half_of (n : Nat) : Rat.divInt (n : Int) 2 = (n : Rat) / 2 := by
  rw [Rat.divInt_eq_div]
  rfl
end Cm
namespace Lw
open PySem PySem.Spec PyProof.Rows L2 Gx
theorem Fqs.but {K : PySem.W.Frag} {H H' : Hp} {l : Addr} {ys : List V} (b : But l H H') (hl : H l = some (.lst ys)) {vs : List V} {qs : List Rat} (a : Fqs K H vs qs) : Fqs K H' vs qs := Cm.Fqs.but b hl a
end Lw
namespace Cm
open PySem PySem.Spec PyProof.Rows L2 Gx
/-- what a dealt mark may be -/
def Mk (ns : List Str) (b : Bool) (m : Option Str) : Prop := (∃ n ∈ ns, m = some n) ∨ m = some (Str.ofString "") ∨ m = none ∨ (b = true ∧ m = some (Str.ofString "?"))
theorem strs_mv (ns : List Str) : ns.map V.str = (ns.map some).map mv := by rw [List.map_map]; rfl
theorem mk_names {ns : List Str} {b : Bool} : ∀ m ∈ ns.map some, Mk ns b m := fun m hm => by
  obtain ⟨n, hn, rfl⟩ := List.mem_map.mp hm
  exact .inl ⟨n, hn, rfl⟩
theorem all_app {α : Type} {P : α → Prop} {a b : List α} (h : ∀ x ∈ a, P x) (g : ∀ x ∈ b, P x) : ∀ x ∈ a ++ b, P x := fun x hx => (List.mem_append.mp hx).elim (h x) (g x)
theorem all_take {α : Type} {P : α → Prop} {a : List α} {n : Nat} (h : ∀ x ∈ a, P x) : ∀ x ∈ a.take n, P x := fun x hx => h x (List.mem_of_mem_take hx)
theorem all_drop {α : Type} {P : α → Prop} {a : List α} {n : Nat} (h : ∀ x ∈ a, P x) : ∀ x ∈ a.drop n, P x := fun x hx => h x (List.mem_of_mem_drop hx)
theorem get_map {α : Type} {f : α → V} {xs : List α} {j : Nat} {x : V} (h : (xs.map f)[j]? = some x) : ∃ a, xs[j]? = some a ∧ x = f a := by
  rw [List.getElem?_map] at h
  cases e : xs[j]? with
  | none => rw [e] at h; cases h
  | some m => rw [e] at h; exact ⟨m, rfl, (Option.some.inj h).symm⟩
theorem at_map {α : Type} {f : α → V} {xs : List α} {i : Int} (h0 : 0 ≤ i) (h1 : i < xs.length) : ∃ a, a ∈ xs ∧ atI (xs.map f) i = some (f a) := by
  obtain ⟨n, rfl⟩ := Int.eq_ofNat_of_zero_le h0
  exact ⟨xs[n]'(by omega), List.getElem_mem _, atI_nat (by rw [List.getElem?_map, List.getElem?_eq_getElem (by omega)]; rfl)⟩
end Cm
namespace Cm
open PySem PySem.Spec PyProof.Rows L2 Gx
/-! more about values -/
theorem half_nn : (0 : Rat) ≤ 1/2 := by decide +kernel
theorem one_nn : (0 : Rat) ≤ 1 := by decide +kernel
theorem half_le {s : Rat} (h0 : 0 < s) (h1 : s < 1) : (1/2 : Rat) ≤ (1/2) / s := by
  refine Rat.not_lt.mp fun z => ?_
  rw [Rat.div_lt_iff h0] at z
  have := Rat.mul_le_mul_of_nonneg_left (Rat.le_of_lt h1) half_nn
  rw [Rat.mul_one] at this
  exact absurd (Std.lt_of_lt_of_le z this) (Rat.lt_irrefl)
theorem sub_pos {s : Rat} (h1 : s < 1) : 0 < 1 - s ∧ (0 < s → 1 - s < 1) := by
  constructor
  · grind
  · intro h; grind
theorem val_nn {n : Nat} (c : C) (h : Ok n c) (m : Option Str) : 0 ≤ value c m ∧ value c m ≤ greatest c := by
  have g : 0 ≤ greatest c ∧ (1/2 : Rat) ≤ greatest c := by
    cases c with
    | claim => exact ⟨half_nn, Rat.le_refl⟩
    | beats o t => exact ⟨one_nn, show (1/2 : Rat) ≤ 1 by decide +kernel⟩
    | over k s => have := half_le h.1 h.2.1; exact ⟨Rat.le_trans half_nn this, this⟩
    | under k s =>
      obtain ⟨p1, p2⟩ := sub_pos h.2.1
      have := half_le p1 (p2 h.1)
      exact ⟨Rat.le_trans half_nn this, this⟩
  have z : (0 : Rat) ≤ 0 ∧ (0 : Rat) ≤ greatest c := ⟨Rat.le_refl, g.1⟩
  unfold value
  split
  · exact z
  · cases c with
    | claim => exact ⟨half_nn, g.2⟩
    | beats o t =>
      show 0 ≤ (if m = some o then 1 else if m = some t then 0 else 1/2) ∧ (if m = some o then 1 else if m = some t then 0 else 1/2) ≤ _
      split
      · exact ⟨one_nn, Rat.le_refl⟩
      · split
        · exact z
        · exact ⟨half_nn, g.2⟩
    | over k s =>
      show 0 ≤ (if m = none ∨ m = some (Str.ofString "") then 1/2 else if m = some k then greatest (.over k s) else 0) ∧ (if m = none ∨ m = some (Str.ofString "") then 1/2 else if m = some k then greatest (.over k s) else 0) ≤ _
      split
      · exact ⟨half_nn, g.2⟩
      · split
        · exact ⟨g.1, Rat.le_refl⟩
        · exact z
    | under k s =>
      show 0 ≤ (if m = none ∨ m = some (Str.ofString "") then 1/2 else if m = some k then 0 else greatest (.under k s)) ∧ (if m = none ∨ m = some (Str.ofString "") then 1/2 else if m = some k then 0 else greatest (.under k s)) ≤ _
      split
      · exact ⟨half_nn, g.2⟩
      · split
        · exact z
        · exact ⟨g.1, Rat.le_refl⟩
theorem value_q (c : C) : value c (some (Str.ofString "?")) = 0 := if_pos rfl
theorem sum_add : ∀ (qs : List Rat) (a : Rat), qs.foldl (· + ·) a = a + qs.foldl (· + ·) 0
  | [], a => by simp [Rat.add_zero]
  | q :: r, a => by
    rw [List.foldl_cons, List.foldl_cons, sum_add r (a + q), sum_add r (0 + q)]
    grind
theorem sum_cons (q : Rat) (r : List Rat) : Lw.sum (q :: r) = q + Lw.sum r := by
  unfold Lw.sum
  rw [List.foldl_cons, sum_add, Rat.zero_add]
/-- each mark either the same, or one said in place of one that lacks -/
def Said (m m' : Option Str) : Prop := m' = m ∨ m = some (Str.ofString "?")
theorem sum_said {n : Nat} (c : C) (h : Ok n c) : ∀ {ms ms' : List (Option Str)}, PySem.Paired Said ms ms' → Lw.sum (ms.map (value c)) ≤ Lw.sum (ms'.map (value c))
  | _, _, .nil => Rat.le_refl
  | _, _, .cons (a := a) (b := b) p r => by
    rw [List.map_cons, List.map_cons, sum_cons, sum_cons]
    have i := sum_said c h r
    have q : value c a ≤ value c b := by
      rcases p with e | e
      · rw [e]; exact Rat.le_refl
      · rw [e, value_q]; exact (val_nn c h b).1
    grind
theorem holds_said {n : Nat} (c : C) (h : Ok n c) {ms ms' : List (Option Str)} (p : PySem.Paired Said ms ms') (g : holds c ms) : holds c ms' := by
  have e := PySem.Paired.length p
  unfold holds at *
  rw [← e]
  exact Std.lt_of_lt_of_le g (sum_said c h p)
theorem holds_more {c : C} {ms : List (Option Str)} (g : holds c (ms ++ [some (Str.ofString "?")])) : holds c ms := by
  unfold holds at *
  rw [List.map_append, List.length_append] at g
  have e : Lw.sum (ms.map (value c) ++ [value c (some (Str.ofString "?"))]) = Lw.sum (ms.map (value c)) := by
    rw [Lw.sum_snoc, value_q, Rat.add_zero]
  rw [show [some (Str.ofString "?")].map (value c) = [value c (some (Str.ofString "?"))] from rfl, e] at g
  have l : ((ms.length : Rat)) / 2 ≤ ((ms.length + [some (Str.ofString "?")].length : Nat) : Rat) / 2 := by
    show ((ms.length : Rat)) / 2 ≤ ((ms.length + 1 : Nat) : Rat) / 2
    have : ((ms.length + 1 : Nat) : Rat) = (ms.length : Rat) + 1 := by exact_mod_cast rfl
    rw [this]
    grind
  exact Std.lt_of_le_of_lt l g
theorem paired_snoc {α β : Type} {F : α → β → Prop} : ∀ {as : List α} {bs : List β} {a : α} {b : β}, PySem.Paired F as bs → F a b → PySem.Paired F (as ++ [a]) (bs ++ [b])
  | _, _, _, _, .nil, h => .cons h .nil
  | _, _, _, _, .cons x r, h => .cons x (paired_snoc r h)
end Cm
namespace Cm
open PySem PySem.Spec PyProof.Rows L2 Gx
def isQ (m : Option Str) : Bool := decide (m = some (Str.ofString "?"))
def there (m : Option Str) : Bool := !decide (m = some (Str.ofString "?"))
def bare (m : Option Str) : Bool := decide (m = none) || decide (m = some (Str.ofString ""))
def isN (n : Str) (m : Option Str) : Bool := decide (m = some n)
theorem cast_succ (n : Nat) : ((n + 1 : Nat) : Rat) = (n : Rat) + 1 := by exact_mod_cast rfl
theorem sum_two {c : C} {h g : Option Str → Bool} {x : Rat} (hv : ∀ m, value c m = (if h m = true then 1/2 else 0) + (if g m = true then x else 0)) : ∀ ms : List (Option Str), Lw.sum (ms.map (value c)) = (ms.countP h : Rat) * (1/2) + (ms.countP g : Rat) * x
  | [] => by
    show (0 : Rat) = ((0 : Nat) : Rat) * (1/2) + ((0 : Nat) : Rat) * x
    have : ((0 : Nat) : Rat) = 0 := rfl
    rw [this, Rat.zero_mul, Rat.zero_mul, Rat.add_zero]
  | m :: r => by
    rw [List.map_cons, sum_cons, sum_two hv r, hv m, List.countP_cons, List.countP_cons]
    by_cases a : h m = true <;> by_cases b : g m = true <;> simp only [a, b, if_true, Bool.false_eq_true, if_false, Nat.add_zero] <;> (try rw [cast_succ]) <;> (try rw [cast_succ]) <;> grind
theorem ne_q {n : Str} (h : Pl.Nm n) : n ≠ Str.ofString "?" := fun e => by
  rw [e] at h
  have := h.2.2 63 (by decide +kernel)
  omega
theorem ne_e {n : Str} (h : Pl.Nm n) : n ≠ Str.ofString "" := fun e => by
  rw [e] at h
  exact absurd h.1 (by decide +kernel)
theorem q_ne_e : Str.ofString "?" ≠ Str.ofString "" := by decide +kernel
/-! what each claim's values are -/
theorem val_claim (m : Option Str) : value .claim m = (if there m = true then 1/2 else 0) + (if (false : Bool) = true then (0 : Rat) else 0) := by
  show (if m = some (Str.ofString "?") then 0 else 1/2) = _
  by_cases h : m = some (Str.ofString "?")
  · simp [there, h, Rat.add_zero]
  · simp [there, h, Rat.add_zero]
def half2 (a b : Str) (m : Option Str) : Bool := there m && (!isN a m && !isN b m)
theorem val_beats {a b : Str} (ha : a ≠ Str.ofString "?") (hb : b ≠ Str.ofString "?") (m : Option Str) : value (.beats a b) m = (if half2 a b m = true then 1/2 else 0) + (if isN a m = true then (1 : Rat) else 0) := by
  show (if m = some (Str.ofString "?") then 0 else if m = some a then 1 else if m = some b then 0 else 1/2) = _
  by_cases h : m = some (Str.ofString "?")
  · subst h
    have e1 : ¬ (some (Str.ofString "?") = some a) := fun e => ha (Option.some.inj e).symm
    simp [half2, there, isN, e1, Rat.add_zero]
  · by_cases h1 : m = some a
    · simp [half2, isN, h1, Rat.zero_add]
      intro e; exact absurd e ha
    · by_cases h2 : m = some b
      · have h3 : ¬ b = a := fun e => h1 (by rw [h2, e])
        simp [half2, isN, h2, h3, hb, Rat.zero_add]
      · simp [half2, there, isN, h, h1, h2, Rat.add_zero]
theorem val_over {n : Str} {s : Rat} (hn : n ≠ Str.ofString "?") (he : n ≠ Str.ofString "") (m : Option Str) : value (.over n s) m = (if bare m = true then 1/2 else 0) + (if isN n m = true then (1/2) / s else 0) := by
  show (if m = some (Str.ofString "?") then 0 else if m = none ∨ m = some (Str.ofString "") then 1/2 else if m = some n then (1/2)/s else 0) = _
  by_cases h : m = some (Str.ofString "?")
  · subst h
    have e1 : ¬ (Str.ofString "?" = n) := fun e => hn e.symm
    simp [bare, isN, e1, q_ne_e, Rat.add_zero]
  · by_cases h1 : m = none
    · simp [bare, isN, h1, Rat.add_zero]
    · by_cases h2 : m = some (Str.ofString "")
      · have e1 : ¬ (Str.ofString "" = n) := fun e => he e.symm
        simp [bare, isN, h2, e1, Rat.add_zero, Ne.symm q_ne_e]
      · by_cases h3 : m = some n
        · simp [bare, isN, h3, hn, he, Rat.zero_add]
        · simp [bare, isN, h, h1, h2, h3, Rat.zero_add]
def rest (n : Str) (m : Option Str) : Bool := there m && (!bare m && !isN n m)
theorem val_under {n : Str} {s : Rat} (hn : n ≠ Str.ofString "?") (he : n ≠ Str.ofString "") (m : Option Str) : value (.under n s) m = (if bare m = true then 1/2 else 0) + (if rest n m = true then (1/2) / (1 - s) else 0) := by
  show (if m = some (Str.ofString "?") then 0 else if m = none ∨ m = some (Str.ofString "") then 1/2 else if m = some n then 0 else (1/2)/(1 - s)) = _
  by_cases h : m = some (Str.ofString "?")
  · subst h
    simp [bare, rest, there, q_ne_e, Rat.add_zero]
  · by_cases h1 : m = none
    · simp [bare, rest, h1, Rat.add_zero]
    · by_cases h2 : m = some (Str.ofString "")
      · simp [bare, rest, h2, Rat.add_zero, Ne.symm q_ne_e]
      · by_cases h3 : m = some n
        · simp [bare, rest, isN, h3, hn, he, Rat.zero_add]
        · simp [bare, rest, there, isN, h, h1, h2, h3, Rat.zero_add]
/-! the counts, one by the others -/
theorem cnt_half2 {a b : Str} (ha : a ≠ Str.ofString "?") (hb : b ≠ Str.ofString "?") (hab : a ≠ b) : ∀ ms : List (Option Str), ms.countP there = ms.countP (half2 a b) + ms.countP (isN a) + ms.countP (isN b)
  | [] => rfl
  | m :: r => by
    have ih := cnt_half2 ha hb hab r
    rw [List.countP_cons, List.countP_cons, List.countP_cons, List.countP_cons, ih]
    by_cases h : m = some (Str.ofString "?")
    · subst h
      have e1 : ¬ (Str.ofString "?" = a) := fun e => ha e.symm
      have e2 : ¬ (Str.ofString "?" = b) := fun e => hb e.symm
      simp [half2, there, isN, e1, e2]
    · by_cases h1 : m = some a
      · simp [half2, there, isN, h1, ha, hab]; omega
      · by_cases h2 : m = some b
        · have h3 : ¬ b = a := fun e => hab e.symm
          simp [half2, there, isN, h2, h3, hb]; omega
        · simp [half2, there, isN, h, h1, h2]; omega
theorem cnt_rest {n : Str} (hn : n ≠ Str.ofString "?") (he : n ≠ Str.ofString "") : ∀ ms : List (Option Str), ms.countP there = ms.countP (rest n) + ms.countP bare + ms.countP (isN n)
  | [] => rfl
  | m :: r => by
    have ih := cnt_rest hn he r
    rw [List.countP_cons, List.countP_cons, List.countP_cons, List.countP_cons, ih]
    by_cases h : m = some (Str.ofString "?")
    · subst h
      have e1 : ¬ (Str.ofString "?" = n) := fun e => hn e.symm
      simp [rest, there, bare, isN, e1, q_ne_e]
    · by_cases h1 : m = none
      · simp [rest, there, bare, isN, h1]; omega
      · by_cases h2 : m = some (Str.ofString "")
        · have e1 : ¬ (Str.ofString "" = n) := fun e => he e.symm
          simp [rest, there, bare, isN, h2, e1, Ne.symm q_ne_e]; omega
        · by_cases h3 : m = some n
          · simp [rest, there, bare, isN, h3, hn, he]; omega
          · simp [rest, there, bare, isN, h, h1, h2, h3]; omega
/-! when a claim holds, by counts -/
theorem cast_lt {a b : Int} : ((a : Rat) < (b : Rat)) ↔ a < b := by exact_mod_cast Iff.rfl
theorem scaled {a b g x s : Rat} (h0 : 0 < s) (hx : x * s = 1/2) : a / 2 < b * (1/2) + g * x ↔ a * s < b * s + g := by
  rw [← Rat.mul_lt_mul_right h0]
  have e : (b * (1/2) + g * x) * s = (b * s + g) / 2 := by
    have : g * x * s = g * (1/2) := by rw [Rat.mul_assoc, hx]
    grind
  rw [e]
  constructor
  · intro h; grind
  · intro h; grind
theorem num_den (s : Rat) : s * (s.den : Rat) = (s.num : Rat) := by
  have e : s = (s.num : Rat) / (s.den : Rat) := by
    have := Rat.num_divInt_den s
    rw [Rat.divInt_eq_div] at this
    exact this.symm
  have hd : (s.den : Rat) ≠ 0 := by
    intro z
    have : (s.den : Rat) = ((0 : Nat) : Rat) := z
    have h2 : s.den = 0 := by exact_mod_cast this
    exact s.den_nz h2
  calc s * (s.den : Rat) = (s.num : Rat) / (s.den : Rat) * (s.den : Rat) := by rw [← e]
    _ = (s.num : Rat) := Rat.div_mul_cancel hd
theorem den_pos' (s : Rat) : (0 : Rat) < (s.den : Rat) := by exact_mod_cast Nat.pos_of_ne_zero s.den_nz
theorem inv2 {s : Rat} (h0 : 0 < s) : (1/2) / s * s = 1/2 := Rat.div_mul_cancel (ne0 h0)
theorem by_share {l b g : Nat} {s : Rat} {p w : Int} (h0 : 0 < s) (hw : 0 < w) (e : s * (w : Rat) = (p : Rat)) : ((l : Rat) / 2 < (b : Rat) * (1/2) + (g : Rat) * ((1/2) / s)) ↔ (l : Int) * p < (g : Int) * w + (b : Int) * p := by
  have hw2 : (0 : Rat) < (w : Rat) := by exact_mod_cast hw
  rw [scaled h0 (inv2 h0), ← Rat.mul_lt_mul_right hw2]
  have e1 : (l : Rat) * s * (w : Rat) = (((l : Int) * p : Int) : Rat) := by rw [Rat.mul_assoc, e, Rat.intCast_mul]; rfl
  have e2 : ((b : Rat) * s + (g : Rat)) * (w : Rat) = (((g : Int) * w + (b : Int) * p : Int) : Rat) := by
    rw [Rat.intCast_add, Rat.intCast_mul, Rat.intCast_mul, Rat.add_mul, Rat.mul_assoc, e, Rat.add_comm]
    rfl
  rw [e1, e2, cast_lt]
theorem holds_claim (ms : List (Option Str)) : holds .claim ms ↔ (ms.length : Int) < (ms.countP there : Int) := by
  unfold holds
  rw [sum_two val_claim]
  have e : ((ms.countP fun _ => false : Nat) : Rat) = 0 := by rw [List.countP_false]; rfl
  rw [Rat.mul_zero, Rat.add_zero]
  constructor
  · intro h
    have : (ms.length : Rat) < (ms.countP there : Rat) := by grind
    exact_mod_cast this
  · intro h
    have : (ms.length : Rat) < (ms.countP there : Rat) := by exact_mod_cast h
    grind
theorem holds_beats {a b : Str} (ha : a ≠ Str.ofString "?") (hb : b ≠ Str.ofString "?") (hab : a ≠ b) (ms : List (Option Str)) : holds (.beats a b) ms ↔ (ms.length : Int) < 2 * (ms.countP (isN a) : Int) + (ms.countP there : Int) - (ms.countP (isN a) : Int) - (ms.countP (isN b) : Int) := by
  unfold holds
  rw [sum_two (val_beats ha hb)]
  have c := cnt_half2 ha hb hab ms
  have e : (2 * (ms.countP (isN a) : Int) + (ms.countP there : Int) - (ms.countP (isN a) : Int) - (ms.countP (isN b) : Int)) = ((2 * ms.countP (isN a) + ms.countP (half2 a b) : Nat) : Int) := by omega
  rw [e]
  have e2 : ((2 * ms.countP (isN a) + ms.countP (half2 a b) : Nat) : Rat) = 2 * (ms.countP (isN a) : Rat) + (ms.countP (half2 a b) : Rat) := by exact_mod_cast rfl
  constructor
  · intro h
    have : (ms.length : Rat) < ((2 * ms.countP (isN a) + ms.countP (half2 a b) : Nat) : Rat) := by rw [e2]; grind
    exact_mod_cast this
  · intro h
    have : (ms.length : Rat) < ((2 * ms.countP (isN a) + ms.countP (half2 a b) : Nat) : Rat) := by exact_mod_cast h
    rw [e2] at this
    grind
theorem holds_over {n : Str} {s : Rat} (hn : n ≠ Str.ofString "?") (he : n ≠ Str.ofString "") (h0 : 0 < s) (ms : List (Option Str)) : holds (.over n s) ms ↔ (ms.length : Int) * s.num < (ms.countP (isN n) : Int) * (s.den : Int) + (ms.countP bare : Int) * s.num := by
  unfold holds
  rw [sum_two (val_over hn he), by_share (p := s.num) (w := (s.den : Int)) h0 (by have := s.den_nz; omega) (num_den s)]
theorem holds_under {n : Str} {s : Rat} (hn : n ≠ Str.ofString "?") (he : n ≠ Str.ofString "") (h1 : s < 1) (ms : List (Option Str)) : holds (.under n s) ms ↔ (ms.length : Int) * ((s.den : Int) - s.num) < ((ms.countP there : Int) - (ms.countP bare : Int) - (ms.countP (isN n) : Int)) * (s.den : Int) + (ms.countP bare : Int) * ((s.den : Int) - s.num) := by
  unfold holds
  have c := cnt_rest hn he ms
  have e : (ms.countP there : Int) - (ms.countP bare : Int) - (ms.countP (isN n) : Int) = (ms.countP (rest n) : Int) := by omega
  rw [e, sum_two (val_under hn he), by_share (p := (s.den : Int) - s.num) (w := (s.den : Int)) (sub_pos h1).1 (by have := s.den_nz; omega) ?_]
  have g := num_den s
  have : (1 - s) * (s.den : Rat) = (s.den : Rat) - (s.num : Rat) := by rw [← g]; grind
  rw [Rat.intCast_sub]
  exact this
/-! marks as data -/
def md : Option Str → PyData
  | none => .none
  | some s => .str s
theorem dp_mv {K : PySem.W.Frag} {H : Hp} (m : Option Str) : Dp K H (mv m) (md m) := by
  cases m with
  | none => exact .non
  | some s => exact .str s
theorem dpAll_mv {K : PySem.W.Frag} {H : Hp} : ∀ ms : List (Option Str), DpAll K H (ms.map mv) (ms.map md)
  | [] => .nil
  | m :: r => .cons (dp_mv m) (dpAll_mv r)
theorem plain_md : ∀ ms : List (Option Str), PyData.plainAll (ms.map md) = true ∧ PyData.depthAll (ms.map md) = 0
  | [] => ⟨by simp [PyData.plainAll], by simp [PyData.depthAll]⟩
  | m :: r => by
    obtain ⟨h1, h2⟩ := plain_md r
    cases m with
    | none => exact ⟨by simp [md, PyData.plainAll, PyData.plain] at *; exact h1, by simp [md, PyData.depthAll, PyData.depth] at *; exact h2⟩
    | some s => exact ⟨by simp [md, PyData.plainAll, PyData.plain] at *; exact h1, by simp [md, PyData.depthAll, PyData.depth] at *; exact h2⟩
theorem eqv_md (m : Option Str) (n : Str) : PyData.eqv (md m) (.str n) = isN n m := by
  cases m with
  | none => simp [md, PyData.eqv, isN]
  | some s => by_cases h : s = n <;> simp [md, PyData.eqv, isN, h]
theorem cnt_md (ms : List (Option Str)) (n : Str) : ((ms.map md).countP fun z => PyData.eqv z (.str n)) = ms.countP (isN n) := by
  rw [List.countP_map]
  congr 1
  funext m
  exact eqv_md m n
/-- count of a name among marks -/
theorem k_cntM {K : PySem.W.Frag} {H : Hp} {Q : VK} {p : Addr} {ms : List (Option Str)} {n : Str} (h : SqL K H p (ms.map mv)) (q : Q (.int (ms.countP (isN n) : Int)) H) : rCntL K (.ref p) [.str n] H Q := by
  obtain ⟨h1, h2⟩ := plain_md ms
  refine k_cntL (.lst h (dpAll_mv ms)) (.str n) h1 rfl (by omega) ?_
  rw [cnt_md]
  exact q
/-- how many of those walked are kept -/
theorem countP_take {P : Option Str → Bool} {ms : List (Option Str)} {i : Nat} {m : Option Str} (h : ms[i]? = some m) : ((ms.take (i + 1)).filter P) = (ms.take i).filter P ++ (if P m = true then [m] else []) := by
  rw [Lw.take_snoc h, List.filter_append]
  by_cases c : P m = true <;> simp [c]
theorem sum_rev : ∀ qs : List Rat, Lw.sum qs.reverse = Lw.sum qs
  | [] => rfl
  | q :: r => by rw [List.reverse_cons, Lw.sum_snoc, sum_rev r, sum_cons, Rat.add_comm]
theorem holds_rev (c : C) (ms : List (Option Str)) : holds c ms.reverse ↔ holds c ms := by
  unfold holds
  rw [List.map_reverse, sum_rev, List.length_reverse]
/-- the claim of a kind -/
def kd (k : Int) (a b : Str) (s : Rat) : C := if k = 0 then .beats a b else if k = 1 then .over a s else if k = 2 then .under a s else .claim
def inN (ns : List Str) (m : Option Str) : Bool := decide (∃ n ∈ ns, m = some n)
theorem cnt_all {P R : Option Str → Bool} : ∀ {ms : List (Option Str)}, (∀ m ∈ ms, (P m = true ↔ R m = false)) → ms.countP P + ms.countP R = ms.length
  | [], _ => rfl
  | m :: r, h => by
    have ih := cnt_all (ms := r) fun x hx => h x (List.mem_cons_of_mem m hx)
    have hm := h m (List.mem_cons_self ..)
    rw [List.countP_cons, List.countP_cons, List.length_cons]
    cases e : P m with
    | true =>
      rw [hm.mp e]
      simp
      omega
    | false =>
      cases e2 : R m with
      | true => simp; omega
      | false => rw [hm.mpr e2] at e; cases e
end Cm
namespace Cm
open PySem PySem.Spec PyProof.Rows L2 Gx
abbrev sh (d : PyData) : Prop := Dt.Sh 0 d
theorem sh_nm {g : Str} (h : Pl.Nm g) : sh (md (some g)) := Dt.sh_str h.ok
end Cm
namespace Cm
open PySem PySem.Spec PyProof.Rows L2 Gx
/-- a number as a text -/
def T (i : Int) : Str := Str.ofString (toString i)
theorem T_len {i : Int} (h : i.natAbs.log2 < 1920) : (T i).length ≤ 1921 := PyProof.Rows.int_text_len_1921 h
/-- a fraction as a text -/
def sf (s : Rat) : Str := if s.den = 1 then T s.num else T s.num ++ Str.ofString "/" ++ T (s.den : Int)
theorem log_lt {i : Int} {n : Nat} (h : i.natAbs < 2 ^ n) (hn : n ≤ 1900) : i.natAbs.log2 < 1920 := Nat.lt_of_lt_of_le (PySem.Flt.log2_lt_of (k := 1920) (by decide) (Nat.lt_of_lt_of_le h (Nat.pow_le_pow_right (by decide) (by omega)))) (Nat.le_refl _)
theorem sf_len {s : Rat} {n : Nat} (h : Fr.Sz n s) (hn : n ≤ 1900) : (sf s).length ≤ 4000 := by
  have h1 := T_len (log_lt h.1 hn)
  have h2 := T_len (log_lt (i := (s.den : Int)) h.2 hn)
  unfold sf
  split
  · omega
  · rw [Str.length_append, Str.length_append]
    have : (Str.ofString "/").length = 1 := by decide +kernel
    omega
end Cm
namespace Co
open PySem PySem.Spec PyProof.Rows L2 Gx
/-- a contest -/
inductive C
  | bare (ns : List Str)
  | most (ns : List Str) (k : Nat)
  | part (ns : List Str) (s : Rat)
def names : C → List Str
  | .bare ns => ns
  | .most ns _ => ns
  | .part ns _ => ns
def At (K : PySem.W.Frag) (H : Hp) (a : Addr) : C → Prop
  | .bare ns => ∃ dx p, H a = some (.ins (He.ga K "Contest") dx [("names", .ref p)]) ∧ SqT K H p (ns.map V.str)
  | .most ns k => ∃ dx p, H a = some (.ins (He.ga K "Most") dx [("names", .ref p), ("seats", .int (k : Int))]) ∧ SqT K H p (ns.map V.str)
  | .part ns s => ∃ dx p q, H a = some (.ins (He.ga K "Portion") dx [("names", .ref p), ("share", .ref q)]) ∧ SqT K H p (ns.map V.str) ∧ SqT K H q (Fr.fq s)
theorem At.same {K : PySem.W.Frag} {H H' : Hp} (e : Same H H') {a : Addr} : ∀ {c : C}, At K H a c → At K H' a c
  | .bare _, ⟨dx, p, h, g⟩ => ⟨dx, p, e _ _ h, seqT_same e g⟩
  | .most _ _, ⟨dx, p, h, g⟩ => ⟨dx, p, e _ _ h, seqT_same e g⟩
  | .part _ _, ⟨dx, p, q, h, g, g2⟩ => ⟨dx, p, q, e _ _ h, seqT_same e g, seqT_same e g2⟩
theorem At.but {K : PySem.W.Frag} {H H' : Hp} {l : Addr} {ys : List V} (b : But l H H') (hl : H l = some (.lst ys)) {a : Addr} : ∀ {c : C}, At K H a c → At K H' a c
  | .bare _, ⟨dx, p, h, g⟩ => ⟨dx, p, b _ _ (ne_of h hl Cm.ins_lst) h, seqT_but b hl g⟩
  | .most _ _, ⟨dx, p, h, g⟩ => ⟨dx, p, b _ _ (ne_of h hl Cm.ins_lst) h, seqT_but b hl g⟩
  | .part _ _, ⟨dx, p, q, h, g, g2⟩ => ⟨dx, p, q, b _ _ (ne_of h hl Cm.ins_lst) h, seqT_but b hl g, seqT_but b hl g2⟩
/-- how many marks name a name -/
def ct (ms : List (Option Str)) (n : Str) : Int := (ms.countP (Cm.isN n) : Int)
def cts (ns : List Str) (ms : List (Option Str)) : List Int := ns.map (ct ms)
/-- an outcome as it is told -/
def Out (K : PySem.W.Frag) (H : Hp) (v : V) : Option (List Str) → Prop
  | none => v = .non
  | some l => ∃ p, v = .ref p ∧ SqT K H p (l.map V.str)
theorem Out.same {K : PySem.W.Frag} {H H' : Hp} (e : Same H H') {v : V} : ∀ {o : Option (List Str)}, Out K H v o → Out K H' v o
  | none, h => h
  | some _, ⟨p, h, g⟩ => ⟨p, h, seqT_same e g⟩
theorem Out.but {K : PySem.W.Frag} {H H' : Hp} {l : Addr} {ys : List V} (b : But l H H') (hl : H l = some (.lst ys)) {v : V} : ∀ {o : Option (List Str)}, Out K H v o → Out K H' v o
  | none, h => h
  | some _, ⟨p, h, g⟩ => ⟨p, h, seqT_but b hl g⟩
def oD : Option (List Str) → PyData
  | none => .none
  | some l => .tuple (l.map .str)
theorem Out.dp {K : PySem.W.Frag} {H : Hp} {v : V} : ∀ {o : Option (List Str)}, Out K H v o → Dp K H v (oD o)
  | none, h => by rw [show v = .non from h]; exact .non
  | some l, ⟨p, h, g⟩ => by rw [h]; exact .tup g (Dt.strz l)
/-- those with fewer others ahead of them than seats -/
def aheadOf (ns : List Str) (ms : List (Option Str)) (n : Str) : List Str := ns.filter fun o => decide (o ≠ n) && decide (ct ms n ≤ ct ms o)
def inside (ns : List Str) (k : Nat) (ms : List (Option Str)) : List Str := ns.filter fun n => decide ((aheadOf ns ms n).length < k)
def due (ns : List Str) (k : Nat) (ms : List (Option Str)) : Option (List Str) := if (inside ns k ms).length < k then none else some (inside ns k ms)
/-! how many are as great, in a rising list -/
theorem low_cnt {rs : List Int} (h : rs.Pairwise (· ≤ ·)) {i : Nat} {x v : Int} (hx : rs[i]? = some x) (hv : v ≤ x) : rs.length ≤ rs.countP (fun y => decide (v ≤ y)) + i := by
  obtain ⟨hi, e⟩ := List.getElem?_eq_some_iff.mp hx
  have e2 : rs.countP (fun y => decide (v ≤ y)) = (rs.take i).countP (fun y => decide (v ≤ y)) + (rs.drop i).countP (fun y => decide (v ≤ y)) := by rw [← List.countP_append, List.take_append_drop]
  have e3 : (rs.drop i).countP (fun y => decide (v ≤ y)) = (rs.drop i).length := List.countP_eq_length.mpr fun y hy => by
    obtain ⟨j, hj, ej⟩ := List.mem_iff_getElem.mp hy
    rw [List.getElem_drop] at ej
    have hj2 : i + j < rs.length := by rw [List.length_drop] at hj; omega
    have : x ≤ y := by
      rw [← e, ← ej]
      rcases Nat.eq_zero_or_pos j with z | z
      · subst z; exact Int.le_refl _
      · exact List.pairwise_iff_getElem.mp h i (i + j) hi hj2 (by omega)
    exact decide_eq_true (by omega)
  rw [e2, e3, List.length_drop]
  omega
theorem high_cnt {rs : List Int} (h : rs.Pairwise (· ≤ ·)) {i : Nat} {x v : Int} (hx : rs[i]? = some x) (hv : x < v) : rs.countP (fun y => decide (v ≤ y)) + i + 1 ≤ rs.length := by
  obtain ⟨hi, e⟩ := List.getElem?_eq_some_iff.mp hx
  have e2 : rs.countP (fun y => decide (v ≤ y)) = (rs.take (i + 1)).countP (fun y => decide (v ≤ y)) + (rs.drop (i + 1)).countP (fun y => decide (v ≤ y)) := by rw [← List.countP_append, List.take_append_drop]
  have e3 : (rs.take (i + 1)).countP (fun y => decide (v ≤ y)) = 0 := List.countP_eq_zero.mpr fun y hy => by
    obtain ⟨j, hj, ej⟩ := List.mem_iff_getElem.mp hy
    rw [List.getElem_take] at ej
    have hj2 : j < i + 1 := by rw [List.length_take] at hj; omega
    have : y ≤ x := by
      rw [← e, ← ej]
      rcases Nat.lt_or_ge j i with z | z
      · exact List.pairwise_iff_getElem.mp h j i (by omega) hi z
      · have : j = i := by omega
        subst this; exact Int.le_refl _
    simp
    omega
  have e4 := List.countP_le_length (p := fun y => decide (v ≤ y)) (l := rs.drop (i + 1))
  rw [List.length_drop] at e4
  rw [e2, e3]
  omega
theorem cnt_split {α : Type} {p q : α → Bool} : ∀ l : List α, l.countP p = l.countP (fun a => q a && p a) + l.countP (fun a => !q a && p a)
  | [] => rfl
  | a :: r => by
    rw [List.countP_cons, List.countP_cons, List.countP_cons, cnt_split r (q := q)]
    cases p a <;> cases q a <;> simp <;> omega
/-- with one's self, in a list of unlike ones -/
theorem ahead_len {ns : List Str} (nd : ns.Nodup) {ms : List (Option Str)} {n : Str} (hn : n ∈ ns) : (aheadOf ns ms n).length + 1 = (cts ns ms).countP fun y => decide (ct ms n ≤ y) := by
  unfold aheadOf cts
  rw [← List.countP_eq_length_filter, List.countP_map, cnt_split (q := fun o => decide (o ≠ n)) (p := (fun y => decide (ct ms n ≤ y)) ∘ ct ms) ns]
  have e1 : ns.countP (fun a => !decide (a ≠ n) && ((fun y => decide (ct ms n ≤ y)) ∘ ct ms) a) = ns.countP (fun a => a == n) := by
    congr 1
    funext a
    by_cases h : a = n
    · subst h; simp
    · simp [h]
  have e2 : ns.countP (fun a => a == n) = 1 := by
    have h1 : ns.count n = 1 := by rw [List.Nodup.count nd, if_pos hn]
    exact h1
  rw [e1, e2]
  rfl
/-- the outcome, by the rising counts -/
theorem due_none {ns : List Str} (nd : ns.Nodup) {k : Nat} {ms : List (Option Str)} {rs : List Int} {x : Int} (pm : rs.Perm (cts ns ms)) (pw : rs.Pairwise (· ≤ ·)) (k1 : 1 ≤ k) (kn : k < ns.length) (h1 : rs[ns.length - k]? = some x) (h0 : rs[ns.length - k - 1]? = some x) : due ns k ms = none := by
  have hl : rs.length = ns.length := by rw [pm.length_eq]; unfold cts; simp
  have up := high_cnt pw h1 (show x < x + 1 by omega)
  have sub : (inside ns k ms).length ≤ rs.countP (fun y => decide (x + 1 ≤ y)) := by
    have e : rs.countP (fun y => decide (x + 1 ≤ y)) = ns.countP fun n => decide (x + 1 ≤ ct ms n) := by
      rw [pm.countP_eq]
      unfold cts
      rw [List.countP_map]
      rfl
    rw [e]
    unfold inside
    rw [← List.countP_eq_length_filter]
    refine List.countP_mono_left fun n hn h => ?_
    have h := of_decide_eq_true h
    have al := ahead_len nd (ms := ms) hn
    refine decide_eq_true ?_
    rcases (show x < ct ms n ∨ ct ms n ≤ x by omega) with c | c
    · omega
    · have := low_cnt pw h0 c
      rw [pm.countP_eq] at this
      omega
  unfold due
  rw [if_pos (by omega)]
theorem due_some {ns : List Str} (nd : ns.Nodup) {k : Nat} {ms : List (Option Str)} {rs : List Int} {x y : Int} (pm : rs.Perm (cts ns ms)) (pw : rs.Pairwise (· ≤ ·)) (k1 : 1 ≤ k) (kn : k < ns.length) (h1 : rs[ns.length - k]? = some x) (h0 : rs[ns.length - k - 1]? = some y) (ne : y ≠ x) :
    due ns k ms = some (ns.filter fun n => decide (x ≤ ct ms n)) := by
  have hl : rs.length = ns.length := by rw [pm.length_eq]; unfold cts; simp
  have yx : y < x := by
    obtain ⟨i0, e0⟩ := List.getElem?_eq_some_iff.mp h0
    obtain ⟨i1, e1⟩ := List.getElem?_eq_some_iff.mp h1
    have := List.pairwise_iff_getElem.mp pw (ns.length - k - 1) (ns.length - k) i0 i1 (by omega)
    omega
  have lo := low_cnt pw h1 (Int.le_refl x)
  have hi := high_cnt pw h0 yx
  have e : rs.countP (fun z => decide (x ≤ z)) = ns.countP fun n => decide (x ≤ ct ms n) := by
    rw [pm.countP_eq]
    unfold cts
    rw [List.countP_map]
    rfl
  have ei : inside ns k ms = ns.filter fun n => decide (x ≤ ct ms n) := by
    unfold inside
    refine List.filter_congr fun n hn => ?_
    have al := ahead_len nd (ms := ms) hn
    rw [← pm.countP_eq] at al
    rw [decide_eq_decide]
    constructor
    · intro h
      rcases (show ct ms n < x ∨ x ≤ ct ms n by omega) with c | c
      · have c2 : ct ms n ≤ y ∨ y < ct ms n := by omega
        rcases c2 with c2 | c2
        · have := low_cnt pw h0 c2
          omega
        · -- between y and x: as many as from x on
          have e3 : rs.countP (fun z => decide (ct ms n ≤ z)) ≥ rs.countP (fun z => decide (x ≤ z)) + 1 := by
            have hm : ct ms n ∈ rs := pm.symm.mem_iff.mp (List.mem_map_of_mem hn)
            obtain ⟨j, hj, ej⟩ := List.mem_iff_getElem.mp hm
            have gj : rs[j]? = some (ct ms n) := by rw [List.getElem?_eq_getElem hj, ej]
            rcases Nat.lt_or_ge j (ns.length - k) with z | z
            · have := low_cnt pw gj (Int.le_refl _)
              have := high_cnt pw h0 yx
              omega
            · have : x ≤ ct ms n := by
                obtain ⟨i1, e1⟩ := List.getElem?_eq_some_iff.mp h1
                rcases Nat.eq_or_lt_of_le z with w | w
                · have : x = ct ms n := Option.some.inj (h1.symm.trans (by rw [w]; exact gj))
                  omega
                · have := List.pairwise_iff_getElem.mp pw (ns.length - k) j i1 hj w
                  omega
              omega
          omega
      · exact c
    · intro h
      have e4 : rs.countP (fun z => decide (ct ms n ≤ z)) ≤ rs.countP (fun z => decide (x ≤ z)) := List.countP_mono_left fun z _ hz => decide_eq_true (by have := of_decide_eq_true hz; omega)
      omega
  unfold due
  rw [ei, if_neg]
  rw [← List.countP_eq_length_filter]
  omega
/-- the count's own reading -/
theorem k_cnt {K : PySem.W.Frag} {H : Hp} {Q : VK} {p : Addr} {ms : List (Option Str)} {n : Str} (h : SqT K H p (ms.map Cm.mv)) (q : Q (.int (ct ms n)) H) : rCntT K (.ref p) (.str n) H Q := by
  obtain ⟨h1, h2⟩ := Cm.plain_md ms
  refine k_cntTx h (Cm.dpAll_mv ms) (.str n) h1 rfl (by omega) ?_
  rw [Cm.cnt_md]
  exact q
theorem k_cntL {K : PySem.W.Frag} {H : Hp} {Q : VK} {p : Addr} {ms : List (Option Str)} {n : Str} (h : SqL K H p (ms.map Cm.mv)) (q : Q (.int (ct ms n)) H) : rCntL K (.ref p) [.str n] H Q := Cm.k_cntM h q
theorem ct_le {ms : List (Option Str)} {n : Str} : 0 ≤ ct ms n ∧ ct ms n ≤ ms.length := by
  unfold ct
  have := List.countP_le_length (p := Cm.isN n) (l := ms)
  omega
theorem ct_rev (ms : List (Option Str)) (n : Str) : ct ms.reverse n = ct ms n := by
  unfold ct
  rw [List.countP_reverse]
theorem due_rev (ns : List Str) (k : Nat) (ms : List (Option Str)) : due ns k ms.reverse = due ns k ms := by
  have : ct ms.reverse = ct ms := funext (ct_rev ms)
  unfold due inside aheadOf
  rw [this]
theorem mk_names {ns : List Str} {H : Hp} {K : PySem.W.Frag} {p : Addr} (h : H p = some (.tup (ns.map V.str))) : SqT K H p (ns.map V.str) := SqT.of h
end Co
namespace Co
open PySem PySem.Spec PyProof.Rows L2 Gx
theorem sh_names {ns : List Str} (h : ∀ s ∈ ns, Pl.Nm s) : SeqAt.shaped (.tuple (ns.map .str)) = true := Dt.Sh.ok (k := 1) (Dt.sh_tup fun x hx => by
  obtain ⟨s, hs, rfl⟩ := List.mem_map.mp hx
  exact Dt.sh_str (h s hs).ok)
theorem due_sub {ns : List Str} {k : Nat} {ms : List (Option Str)} {o : List Str} (h : due ns k ms = some o) : ∀ s ∈ o, s ∈ ns := fun s hs => by
  unfold due at h
  split at h
  · cases h
  · rw [← Option.some.inj h] at hs
    exact (List.mem_filter.mp hs).1
/-! more than a share -/
def shareOut (ns : List Str) (s : Rat) (ms : List (Option Str)) : List Str := ns.filter fun n => decide (s.num * (cts ns ms).sum < ct ms n * (s.den : Int))
theorem sum_le {ms : List (Option Str)} : ∀ {ns : List Str}, 0 ≤ (cts ns ms).sum ∧ (cts ns ms).sum ≤ ((ns.length * ms.length : Nat) : Int)
  | [] => by simp [cts]
  | n :: r => by
    have ih := sum_le (ms := ms) (ns := r)
    have h := ct_le (ms := ms) (n := n)
    have e : (cts (n :: r) ms).sum = ct ms n + (cts r ms).sum := by simp [cts]
    rw [e, List.length_cons, Nat.succ_mul]
    omega
theorem cnt_or {P Q R : Option Str → Bool} : ∀ {ms : List (Option Str)}, (∀ m, P m = (Q m || R m)) → (∀ m, Q m = true → R m = false) → ms.countP P = ms.countP Q + ms.countP R
  | [], _, _ => rfl
  | m :: r, h, g => by
    have ih := cnt_or (ms := r) h g
    have gm := g m
    rw [List.countP_cons, List.countP_cons, List.countP_cons, ih, h m]
    cases e : Q m <;> cases e2 : R m <;> simp
    · omega
    · omega
    · rw [gm e] at e2; cases e2
theorem sum_cts {ms : List (Option Str)} : ∀ {ns : List Str}, ns.Nodup → (cts ns ms).sum = (ms.countP (Cm.inN ns) : Int)
  | [], _ => by
    have : ms.countP (Cm.inN []) = 0 := List.countP_eq_zero.mpr fun m _ => by simp [Cm.inN]
    rw [this]
    rfl
  | n :: r, nd => by
    have nd2 := List.nodup_cons.mp nd
    have ih := sum_cts (ms := ms) nd2.2
    have e : (cts (n :: r) ms).sum = ct ms n + (cts r ms).sum := by simp [cts]
    have k : ms.countP (Cm.inN (n :: r)) = ms.countP (Cm.isN n) + ms.countP (Cm.inN r) := cnt_or (fun m => by
      rw [Bool.eq_iff_iff]
      simp only [Cm.inN, Cm.isN, Bool.or_eq_true, decide_eq_true_eq, List.mem_cons]
      constructor
      · rintro ⟨k, e | h, z⟩
        · exact .inl (by rw [z, e])
        · exact .inr ⟨k, h, z⟩
      · rintro (z | ⟨k, h, z⟩)
        · exact ⟨n, .inl rfl, z⟩
        · exact ⟨k, .inr h, z⟩) (fun m h => by
      have h : m = some n := of_decide_eq_true h
      refine decide_eq_false ?_
      rintro ⟨k, hk, z⟩
      rw [h] at z
      exact nd2.1 (Option.some.inj z ▸ hk))
    rw [e, ih, k]
    unfold ct
    omega
theorem ct_more {ns : List Str} (hnm : ∀ s ∈ ns, Pl.Nm s) {xs ms : List (Option Str)} (hx : ∀ m ∈ xs, m = none ∨ m = some (Str.ofString "")) : cts ns (xs ++ ms) = cts ns ms := by
  unfold cts
  refine List.map_congr_left fun n hn => ?_
  unfold ct
  rw [List.countP_append]
  have : xs.countP (Cm.isN n) = 0 := List.countP_eq_zero.mpr fun m hm => by
    rcases hx m hm with e | e
    · rw [e]; simp [Cm.isN]
    · rw [e]
      have := Cm.ne_e (hnm n hn)
      simp [Cm.isN]
      exact fun z => this z.symm
  rw [this]
  omega
theorem shareOut_congr {ns : List Str} {s : Rat} {us ms : List (Option Str)} (h : cts ns us = cts ns ms) : shareOut ns s us = shareOut ns s ms := by
  unfold shareOut
  rw [h]
  refine List.filter_congr fun n hn => ?_
  have e : ct us n = ct ms n := by
    obtain ⟨i, hi, e⟩ := List.mem_iff_getElem.mp hn
    have h2 := congrArg (fun l => l[i]?) h
    simp only [cts, List.getElem?_map, List.getElem?_eq_getElem hi, Option.map_some, e] at h2
    exact Option.some.inj h2
  rw [e]
theorem cts_rev (ns : List Str) (ms : List (Option Str)) : cts ns ms.reverse = cts ns ms := by
  unfold cts
  exact List.map_congr_left fun n _ => ct_rev ms n
end Co
namespace Co
open PySem PySem.Spec PyProof.Rows L2 Gx
/-! claims of outcomes -/
def has (os : List Str) (n : Str) : Bool := Cm.inN os (some n)
theorem has_iff {os : List Str} {n : Str} : has os n = true ↔ n ∈ os := by
  unfold has Cm.inN
  rw [decide_eq_true_eq]
  constructor
  · rintro ⟨k, h, e⟩
    rw [Option.some.inj e]; exact h
  · intro h
    exact ⟨n, h, rfl⟩
theorem k_has {K : PySem.W.Frag} {H : Hp} {Q : VK} {p : Addr} {os : List Str} {n : Str} (h : SqL K H p (os.map V.str) ∨ SqT K H p (os.map V.str)) (q : Q (.bl (has os n)) H) : rInU K (.str n) (.ref p) H Q := k_in h rfl (Cm.flat_strs os) (Cm.in_mv (some n) os) q
theorem k_nothas {K : PySem.W.Frag} {H : Hp} {Q : VK} {p : Addr} {os : List Str} {n : Str} (h : SqL K H p (os.map V.str) ∨ SqT K H p (os.map V.str)) (q : Q (.bl (!has os n)) H) : rNiU K (.str n) (.ref p) H Q := k_ni h rfl (Cm.flat_strs os) (Cm.in_mv (some n) os) q
def fit (ns : List Str) (k : Nat) (os : List Str) : Prop := os.length = k ∧ os = ns.filter (has os)
theorem eqv_strs : ∀ xs ys : List Str, PyData.eqvAll (xs.map .str) (ys.map .str) = decide (xs = ys)
  | [], [] => by simp [PyData.eqvAll]
  | [], y :: ys => by simp [PyData.eqvAll]
  | x :: xs, [] => by simp [PyData.eqvAll]
  | x :: xs, y :: ys => by
    rw [List.map_cons, List.map_cons]
    simp only [PyData.eqvAll, eqv_strs xs ys]
    by_cases h : x = y <;> by_cases g : xs = ys <;> simp [PyData.eqv, h, g]
theorem eqv_tup (xs ys : List Str) : PyData.eqv (.tuple (xs.map .str)) (.tuple (ys.map .str)) = decide (xs = ys) := by
  rw [← eqv_strs]
  simp [PyData.eqv]
theorem eqv_lst (xs ys : List Str) : PyData.eqv (.list (xs.map .str)) (.list (ys.map .str)) = decide (xs = ys) := by
  rw [← eqv_strs]
  simp [PyData.eqv]
/-- the claims of an outcome -/
def mostA (ns os xs : List Str) : List Cm.C := xs.flatMap fun o => (ns.filter fun t => !has os t).map fun t => .beats o t
def mostC (ns os : List Str) : List Cm.C := mostA ns os os
def partC (ns : List Str) (s : Rat) (os : List Str) : List Cm.C := if os = [] then ns.map (.under · s) else os.map (.over · s)
/-- claims at some addresses -/
def Cls (K : PySem.W.Frag) (H : Hp) (vs : List V) (cs : List Cm.C) : Prop := PySem.Paired (fun v c => ∃ a, v = V.ref a ∧ Cm.At K H a c) vs cs
theorem Cls.same {K : PySem.W.Frag} {H H' : Hp} (e : Same H H') : ∀ {vs : List V} {cs : List Cm.C}, Cls K H vs cs → Cls K H' vs cs
  | _, _, .nil => .nil
  | _, _, .cons ⟨a, h, g⟩ r => .cons ⟨a, h, g.same e⟩ (Cls.same e r)
theorem Cls.but {K : PySem.W.Frag} {H H' : Hp} {l : Addr} {ys : List V} (b : But l H H') (hl : H l = some (.lst ys)) : ∀ {vs : List V} {cs : List Cm.C}, Cls K H vs cs → Cls K H' vs cs
  | _, _, .nil => .nil
  | _, _, .cons ⟨a, h, g⟩ r => .cons ⟨a, h, g.but b hl⟩ (Cls.but b hl r)
theorem Cls.snoc {K : PySem.W.Frag} {H : Hp} {a : Addr} {c : Cm.C} (h : Cm.At K H a c) : ∀ {vs : List V} {cs : List Cm.C}, Cls K H vs cs → Cls K H (vs ++ [.ref a]) (cs ++ [c])
  | _, _, .nil => .cons ⟨a, rfl, h⟩ .nil
  | _, _, .cons x r => .cons x (Cls.snoc h r)
theorem Cls.len {K : PySem.W.Frag} {H : Hp} {vs : List V} {cs : List Cm.C} (h : Cls K H vs cs) : vs.length = cs.length := PySem.Paired.length h
theorem Cls.get {K : PySem.W.Frag} {H : Hp} : ∀ {vs : List V} {cs : List Cm.C} {i : Nat} {v : V}, Cls K H vs cs → vs[i]? = some v → ∃ a c, v = .ref a ∧ cs[i]? = some c ∧ Cm.At K H a c
  | _, _, 0, v, .cons (b := c) ⟨a, h1, h2⟩ r, e => ⟨a, c, (Option.some.inj e).symm.trans h1, rfl, h2⟩
  | _, _, i + 1, v, .cons ⟨a, h1, h2⟩ r, e => Cls.get (i := i) r e
theorem most_len {ns os xs : List Str} : (mostA ns os xs).length ≤ xs.length * ns.length := by
  unfold mostA
  rw [List.length_flatMap]
  have h : ∀ l : List Str, (l.map fun o => ((ns.filter fun t => !has os t).map fun t => Cm.C.beats o t).length).sum ≤ l.length * ns.length := fun l => by
    induction l with
    | nil => simp
    | cons o r ih =>
      rw [List.map_cons, List.sum_cons, List.length_cons, Nat.succ_mul]
      have : ((ns.filter fun t => !has os t).map fun t => Cm.C.beats o t).length ≤ ns.length := by rw [List.length_map]; exact List.length_filter_le ..
      omega
  exact h xs
/-- some of the names, in their order -/
theorem sub_filter : ∀ {ns os : List Str}, os.Sublist ns → ns.Nodup → os = ns.filter (has os)
  | [], os, h, _ => by rw [List.sublist_nil.mp h]; rfl
  | n :: r, os, h, nd => by
    have nd2 := List.nodup_cons.mp nd
    cases h with
    | cons _ h2 =>
      have ih := sub_filter h2 nd2.2
      have : has os n = false := by
        cases e : has os n with
        | false => rfl
        | true => exact absurd (h2.subset (has_iff.mp e)) nd2.1
      rw [List.filter_cons, this]
      exact ih
    | cons_cons _ h2 =>
      rename_i t
      have ih := sub_filter h2 nd2.2
      have : has (n :: t) n = true := has_iff.mpr (List.mem_cons_self ..)
      rw [List.filter_cons, if_pos this]
      have e : r.filter (has (n :: t)) = r.filter (has t) := List.filter_congr fun x hx => by
        rw [Bool.eq_iff_iff, has_iff, has_iff, List.mem_cons]
        constructor
        · rintro (z | z)
          · exact absurd (z ▸ hx) nd2.1
          · exact z
        · exact .inr
      rw [e, ← ih]
end Co
namespace Co
open PySem PySem.Spec PyProof.Rows L2 Gx
/-! claims as texts -/
def word : Cm.C → Str
  | .claim => "none"
  | .beats _ _ => "beats"
  | .over _ _ => "over"
  | .under _ _ => "under"
def shown : Cm.C → Str
  | .claim => "nothing"
  | .beats o t => o ++ Str.ofString " beats " ++ t
  | .over n s => n ++ Str.ofString " over " ++ Cm.sf s
  | .under n s => n ++ Str.ofString " under " ++ Cm.sf s
def Short : Cm.C → Prop
  | .claim => True
  | .beats o t => o.length ≤ 1000 ∧ t.length ≤ 1000
  | .over n s => n.length ≤ 1000 ∧ Fr.Sz 20 s
  | .under n s => n.length ≤ 1000 ∧ Fr.Sz 20 s
end Co
namespace Co
open PySem PySem.Spec PyProof.Rows L2 Gx
/-! outcomes and claims, in plain words -/
theorem least {α : Type} (f : α → Int) : ∀ l : List α, l ≠ [] → ∃ m ∈ l, ∀ y ∈ l, f m ≤ f y
  | [], h => absurd rfl h
  | [a], _ => ⟨a, List.mem_cons_self .., fun y hy => by rw [List.mem_singleton.mp hy]; exact Int.le_refl _⟩
  | a :: b :: r, _ => by
    obtain ⟨m, hm, h⟩ := least f (b :: r) (by simp)
    by_cases c : f a ≤ f m
    · refine ⟨a, List.mem_cons_self .., fun y hy => ?_⟩
      rcases List.mem_cons.mp hy with e | e
      · rw [e]; exact Int.le_refl _
      · have := h y e; omega
    · refine ⟨m, List.mem_cons_of_mem _ hm, fun y hy => ?_⟩
      rcases List.mem_cons.mp hy with e | e
      · rw [e]; omega
      · exact h y e
theorem nodup_le {α : Type} [BEq α] [LawfulBEq α] : ∀ {a b : List α}, a.Nodup → (∀ x ∈ a, x ∈ b) → a.length ≤ b.length
  | [], _, _, _ => Nat.zero_le _
  | x :: r, b, nd, h => by
    have nd2 := List.nodup_cons.mp nd
    have hx := h x (List.mem_cons_self ..)
    have ih := nodup_le (a := r) (b := b.erase x) nd2.2 fun y hy => by
      have ne : y ≠ x := fun e => nd2.1 (e ▸ hy)
      exact (List.mem_erase_of_ne ne).mpr (h y (List.mem_cons_of_mem _ hy))
    rw [List.length_erase_of_mem hx] at ih
    have : 0 < b.length := List.length_pos_of_mem hx
    simp only [List.length_cons]
    omega
theorem mem_ahead {ns : List Str} {ms : List (Option Str)} {n o : Str} : o ∈ aheadOf ns ms n ↔ o ∈ ns ∧ o ≠ n ∧ ct ms n ≤ ct ms o := by
  unfold aheadOf
  rw [List.mem_filter]
  simp
theorem mem_inside {ns : List Str} {k : Nat} {ms : List (Option Str)} {n : Str} : n ∈ inside ns k ms ↔ n ∈ ns ∧ (aheadOf ns ms n).length < k := by
  unfold inside
  rw [List.mem_filter]
  simp
theorem nodup_filter {ns : List Str} (nd : ns.Nodup) (p : Str → Bool) : (ns.filter p).Nodup := nd.filter p
theorem inside_len {ns : List Str} (nd : ns.Nodup) {k : Nat} (k1 : 1 ≤ k) (ms : List (Option Str)) : (inside ns k ms).length ≤ k := by
  by_cases e : inside ns k ms = []
  · rw [e]; exact Nat.zero_le _
  obtain ⟨m, hm, hl⟩ := least (ct ms) _ e
  have h1 := mem_inside.mp hm
  have nd1 : (inside ns k ms).Nodup := nd.filter _
  have h2 := nodup_le (a := (inside ns k ms).erase m) (b := aheadOf ns ms m) (nd1.erase m) fun y hy => by
    have hy2 := List.mem_of_mem_erase hy
    have ne : y ≠ m := fun e => by
      rw [e] at hy
      exact (List.Nodup.not_mem_erase nd1) hy
    exact mem_ahead.mpr ⟨(mem_inside.mp hy2).1, ne, hl y hy2⟩
  rw [List.length_erase_of_mem hm] at h2
  omega
theorem due_fit {ns : List Str} (nd : ns.Nodup) {k : Nat} (k1 : 1 ≤ k) {ms : List (Option Str)} {o : List Str} (h : due ns k ms = some o) : fit ns k o := by
  unfold due at h
  split at h
  · cases h
  · rw [← Option.some.inj h]
    have := inside_len nd k1 ms
    exact ⟨by omega, sub_filter List.filter_sublist nd⟩
/-- the claims of an outcome that fits: all hold just where it is the outcome -/
theorem all_due {ns : List Str} (nd : ns.Nodup) {k : Nat} (k1 : 1 ≤ k) {ms : List (Option Str)} {os : List Str} (ft : fit ns k os) : (∀ o ∈ os, ∀ t ∈ ns, t ∉ os → ct ms t < ct ms o) ↔ due ns k ms = some os := by
  have hin : ∀ n, n ∈ os ↔ n ∈ ns ∧ has os n = true := fun n => by
    constructor
    · intro h
      rw [ft.2] at h
      exact List.mem_filter.mp h
    · intro h
      exact has_iff.mp h.2
  have ndo : os.Nodup := by rw [ft.2]; exact nd.filter _
  constructor
  · intro h
    have e : inside ns k ms = os := by
      have e2 : inside ns k ms = ns.filter (has os) := by
        unfold inside
        refine List.filter_congr fun n hn => ?_
        rw [Bool.eq_iff_iff, decide_eq_true_eq, has_iff]
        constructor
        · intro c
          rcases Classical.em (n ∈ os) with z | z
          · exact z
          · have h2 := nodup_le (a := os) (b := aheadOf ns ms n) ndo fun y hy => mem_ahead.mpr ⟨((hin y).mp hy).1, fun e => z (e ▸ hy), by have := h y hy n hn z; omega⟩
            rw [ft.1] at h2
            omega
        · intro z
          have ndA : (aheadOf ns ms n).Nodup := nd.filter _
          have h2 := nodup_le (a := aheadOf ns ms n) (b := os.erase n) ndA fun y hy => by
            obtain ⟨y1, y2, y3⟩ := mem_ahead.mp hy
            refine (List.mem_erase_of_ne y2).mpr ?_
            rcases Classical.em (y ∈ os) with w | w
            · exact w
            · have := h n z y y1 w; omega
          rw [List.length_erase_of_mem z, ft.1] at h2
          omega
      rw [e2]
      exact ft.2.symm
    unfold due
    rw [e, if_neg (by have := ft.1; omega)]
  · intro h o ho t ht hto
    have e : inside ns k ms = os := by
      unfold due at h
      split at h
      · cases h
      · exact Option.some.inj h
    rcases Int.lt_or_le (ct ms t) (ct ms o) with c | c
    · exact c
    · exfalso
      obtain ⟨m, hm, hl⟩ := least (ct ms) os (fun z => by rw [z] at ho; cases ho)
      have hmi : m ∈ inside ns k ms := by rw [e]; exact hm
      obtain ⟨m1, m2⟩ := mem_inside.mp hmi
      have h2 := nodup_le (a := t :: os.erase m) (b := aheadOf ns ms m) (List.nodup_cons.mpr ⟨fun z => hto (List.mem_of_mem_erase z), ndo.erase m⟩) fun y hy => by
        rcases List.mem_cons.mp hy with z | z
        · subst z
          have := hl o ho
          exact mem_ahead.mpr ⟨ht, fun e => hto (e ▸ hm), by omega⟩
        · have hy2 := List.mem_of_mem_erase z
          refine mem_ahead.mpr ⟨((hin y).mp hy2).1, fun e => ?_, hl y hy2⟩
          rw [e] at z
          exact (List.Nodup.not_mem_erase ndo) z
      rw [List.length_cons, List.length_erase_of_mem hm, ft.1] at h2
      omega
/-! none lacking -/
def Bare (ns : List Str) (ms : List (Option Str)) : Prop := ∀ m ∈ ms, Cm.Mk ns false m
theorem bare_there {ns : List Str} (hnm : ∀ s ∈ ns, Pl.Nm s) {ms : List (Option Str)} (h : Bare ns ms) : ms.countP Cm.there = ms.length := List.countP_eq_length.mpr fun m hm => by
  rcases h m hm with ⟨n, hn, e⟩ | e | e | ⟨z, _⟩
  · subst e
    unfold Cm.there
    rw [decide_eq_false (fun e => Cm.ne_q (hnm n hn) (Option.some.inj e))]
    rfl
  · subst e; decide +kernel
  · subst e; decide +kernel
  · cases z
theorem bare_named {ns : List Str} (hnm : ∀ s ∈ ns, Pl.Nm s) {ms : List (Option Str)} (h : Bare ns ms) : ms.countP (Cm.inN ns) + ms.countP Cm.bare = ms.length := Cm.cnt_all fun m hm => by
  rcases h m hm with ⟨n, hn, e⟩ | e | e | ⟨z, _⟩
  · subst e
    have e1 : Cm.inN ns (some n) = true := decide_eq_true ⟨n, hn, rfl⟩
    have e2 : Cm.bare (some n) = false := by unfold Cm.bare; rw [decide_eq_false (fun e => Cm.ne_e (hnm n hn) (Option.some.inj e))]; rfl
    rw [e1, e2]
    exact Iff.intro (fun _ => rfl) (fun _ => rfl)
  · subst e
    have e1 : Cm.inN ns (some (Str.ofString "")) = false := decide_eq_false (fun ⟨n, hn, e⟩ => Cm.ne_e (hnm n hn) (Option.some.inj e).symm)
    rw [e1]
    exact Iff.intro (fun z => nomatch z) (fun z => absurd z (by decide +kernel))
  · subst e
    have e1 : Cm.inN ns none = false := decide_eq_false (fun ⟨n, hn, e⟩ => nomatch e)
    rw [e1]
    exact Iff.intro (fun z => nomatch z) (fun z => absurd z (by decide +kernel))
  · cases z
theorem beats_iff {ns : List Str} (hnm : ∀ s ∈ ns, Pl.Nm s) {ms : List (Option Str)} (h : Bare ns ms) {o t : Str} (ho : o ∈ ns) (ht : t ∈ ns) (ne : o ≠ t) : Cm.holds (.beats o t) ms ↔ ct ms t < ct ms o := by
  rw [Cm.holds_beats (Cm.ne_q (hnm o ho)) (Cm.ne_q (hnm t ht)) ne, bare_there hnm h]
  unfold ct
  omega
/-- all claims hold -/
def All (cs : List Cm.C) (ms : List (Option Str)) : Prop := ∀ c ∈ cs, Cm.holds c ms
instance (cs : List Cm.C) (ms : List (Option Str)) : Decidable (All cs ms) := inferInstanceAs (Decidable (∀ c ∈ cs, Cm.holds c ms))
theorem most_all {ns : List Str} (nd : ns.Nodup) (hnm : ∀ s ∈ ns, Pl.Nm s) {k : Nat} (k1 : 1 ≤ k) {ms : List (Option Str)} (h : Bare ns ms) {os : List Str} (ft : fit ns k os) : All (mostC ns os) ms ↔ due ns k ms = some os := by
  have sub : ∀ o ∈ os, o ∈ ns := fun o ho => by rw [ft.2] at ho; exact (List.mem_filter.mp ho).1
  rw [← all_due nd k1 ft]
  constructor
  · intro a o ho t ht hto
    have ne : o ≠ t := fun e => hto (e ▸ ho)
    refine (beats_iff hnm h (sub o ho) ht ne).mp (a _ ?_)
    unfold mostC mostA
    refine List.mem_flatMap.mpr ⟨o, ho, List.mem_map.mpr ⟨t, List.mem_filter.mpr ⟨ht, ?_⟩, rfl⟩⟩
    cases e : has os t with
    | false => rfl
    | true => exact absurd (has_iff.mp e) hto
  · intro a c hc
    unfold mostC mostA at hc
    obtain ⟨o, ho, hc⟩ := List.mem_flatMap.mp hc
    obtain ⟨t, ht, rfl⟩ := List.mem_map.mp hc
    obtain ⟨ht, hn⟩ := List.mem_filter.mp ht
    have hto : t ∉ os := fun z => by rw [has_iff.mpr z] at hn; cases hn
    exact (beats_iff hnm h (sub o ho) ht (fun e => hto (e ▸ ho))).mpr (a o ho t ht hto)
/-! shares -/
theorem two_le {ns : List Str} (nd : ns.Nodup) {ms : List (Option Str)} {a b : Str} (ha : a ∈ ns) (hb : b ∈ ns) (ne : a ≠ b) : ct ms a + ct ms b ≤ (cts ns ms).sum := by
  induction ns with
  | nil => cases ha
  | cons n r ih =>
    have nd2 := List.nodup_cons.mp nd
    have e : (cts (n :: r) ms).sum = ct ms n + (cts r ms).sum := by simp [cts]
    have one : ∀ {l : List Str} {x : Str}, x ∈ l → ct ms x ≤ (cts l ms).sum := fun {l x} hx => by
      induction l with
      | nil => cases hx
      | cons y l ih2 =>
        have e : (cts (y :: l) ms).sum = ct ms y + (cts l ms).sum := by simp [cts]
        have p := ct_le (ms := ms) (n := y)
        have q := (sum_le (ms := ms) (ns := l)).1
        rcases List.mem_cons.mp hx with z | z
        · subst z; omega
        · have := ih2 z; omega
    have p := ct_le (ms := ms) (n := n)
    rcases List.mem_cons.mp ha with z | z
    · subst z
      rcases List.mem_cons.mp hb with w | w
      · exact absurd w.symm ne
      · have := one w; omega
    · rcases List.mem_cons.mp hb with w | w
      · subst w; have := one z; omega
      · have := ih nd2.2 z w; omega
theorem share_one {ns : List Str} (nd : ns.Nodup) {s : Rat} (h2 : (s.den : Int) ≤ 2 * s.num) {ms : List (Option Str)} {a b : Str} (ha : a ∈ shareOut ns s ms) (hb : b ∈ shareOut ns s ms) : a = b := by
  rcases Classical.em (a = b) with e | ne
  · exact e
  · exfalso
    unfold shareOut at ha hb
    obtain ⟨a1, a2⟩ := List.mem_filter.mp ha
    obtain ⟨b1, b2⟩ := List.mem_filter.mp hb
    have a2 := of_decide_eq_true a2
    have b2 := of_decide_eq_true b2
    have hs := two_le nd (ms := ms) a1 b1 ne
    have d1 : (0 : Int) < s.den := by have := s.den_nz; omega
    have e1 : (ct ms a + ct ms b) * (s.den : Int) ≤ (cts ns ms).sum * (s.den : Int) := Int.mul_le_mul_of_nonneg_right hs (by omega)
    have q := (sum_le (ms := ms) (ns := ns)).1
    have e2 : (cts ns ms).sum * (s.den : Int) ≤ (cts ns ms).sum * (2 * s.num) := Int.mul_le_mul_of_nonneg_left h2 q
    rw [Int.add_mul] at e1
    have e3 : (cts ns ms).sum * (2 * s.num) = s.num * (cts ns ms).sum + s.num * (cts ns ms).sum := by
      rw [Int.mul_comm _ (2 * s.num), Int.mul_assoc, Int.two_mul]
    omega
theorem share_fit {ns : List Str} (nd : ns.Nodup) {s : Rat} (h2 : (s.den : Int) ≤ 2 * s.num) (ms : List (Option Str)) : shareOut ns s ms = [] ∨ ∃ o ∈ ns, shareOut ns s ms = [o] := by
  cases e : shareOut ns s ms with
  | nil => exact .inl rfl
  | cons a r =>
    have ha : a ∈ shareOut ns s ms := by rw [e]; exact List.mem_cons_self ..
    refine .inr ⟨a, (List.mem_filter.mp ha).1, ?_⟩
    cases r with
    | nil => rfl
    | cons b r =>
      have hb : b ∈ shareOut ns s ms := by rw [e]; simp
      have ab := share_one nd h2 ha hb
      have ndS : (shareOut ns s ms).Nodup := nd.filter _
      rw [e, ab] at ndS
      exact absurd (List.mem_cons_self ..) (List.nodup_cons.mp ndS).1
theorem over_iff {ns : List Str} (nd : ns.Nodup) (hnm : ∀ s ∈ ns, Pl.Nm s) {ms : List (Option Str)} (h : Bare ns ms) {s : Rat} (s0 : 0 < s) {n : Str} (hn : n ∈ ns) : Cm.holds (.over n s) ms ↔ n ∈ shareOut ns s ms := by
  rw [Cm.holds_over (Cm.ne_q (hnm n hn)) (Cm.ne_e (hnm n hn)) s0]
  unfold shareOut
  rw [List.mem_filter, decide_eq_true_eq, sum_cts nd]
  have e := bare_named hnm h
  have e2 : (ms.length : Int) = (ms.countP (Cm.inN ns) : Int) + (ms.countP Cm.bare : Int) := by omega
  rw [e2, Int.add_mul, Int.mul_comm s.num]
  show _ ↔ n ∈ ns ∧ _ < (ms.countP (Cm.isN n) : Int) * (s.den : Int)
  constructor
  · intro z; exact ⟨hn, by omega⟩
  · intro z; have := z.2; omega
theorem under_not {ns : List Str} (nd : ns.Nodup) (hnm : ∀ s ∈ ns, Pl.Nm s) {ms : List (Option Str)} (h : Bare ns ms) {s : Rat} (s1 : s < 1) {n : Str} (hn : n ∈ ns) (g : Cm.holds (.under n s) ms) : n ∉ shareOut ns s ms := fun z => by
  rw [Cm.holds_under (Cm.ne_q (hnm n hn)) (Cm.ne_e (hnm n hn)) s1, bare_there hnm h] at g
  have z2 := of_decide_eq_true (List.mem_filter.mp z).2
  rw [sum_cts nd] at z2
  have e := bare_named hnm h
  have e2 : (ms.length : Int) = (ms.countP (Cm.inN ns) : Int) + (ms.countP Cm.bare : Int) := by omega
  have z3 : s.num * (ms.countP (Cm.inN ns) : Int) < (ms.countP (Cm.isN n) : Int) * (s.den : Int) := z2
  rw [e2] at g
  generalize (ms.countP (Cm.inN ns) : Int) = N at g z3
  generalize (ms.countP Cm.bare : Int) = B at g
  generalize (ms.countP (Cm.isN n) : Int) = C at g z3
  generalize (s.den : Int) = d at g z3
  generalize s.num = p at g z3
  have a1 : (N + B) * (d - p) = N * d - N * p + B * (d - p) := by rw [Int.add_mul, Int.mul_sub]
  have a2 : (N + B - B - C) * d = N * d - C * d := by rw [show N + B - B - C = N - C by omega, Int.sub_mul]
  rw [a1, a2] at g
  rw [Int.mul_comm p N] at z3
  omega
theorem part_all {ns : List Str} (nd : ns.Nodup) (hnm : ∀ s ∈ ns, Pl.Nm s) {ms : List (Option Str)} (h : Bare ns ms) {s : Rat} (s0 : 0 < s) (s1 : s < 1) (h2 : (s.den : Int) ≤ 2 * s.num) {os : List Str} (ft : os = [] ∨ ∃ o ∈ ns, os = [o]) (a : All (partC ns s os) ms) : shareOut ns s ms = os := by
  rcases ft with e | ⟨o, ho, e⟩
  · subst e
    have a : ∀ c ∈ ns.map (Cm.C.under · s), Cm.holds c ms := by
      intro c hc
      exact a c (by unfold partC; rw [if_pos rfl]; exact hc)
    rcases share_fit nd h2 ms with z | ⟨n, hn, z⟩
    · exact z
    · exact absurd (by rw [z]; exact List.mem_cons_self ..) (under_not nd hnm h s1 hn (a _ (List.mem_map_of_mem hn)))
  · subst e
    have hm := (over_iff nd hnm h s0 ho).mp (a _ (by unfold partC; rw [if_neg (by simp)]; exact List.mem_cons_self ..))
    rcases share_fit nd h2 ms with z | ⟨n, hn, z⟩
    · rw [z] at hm; cases hm
    · rw [z] at hm ⊢
      rw [List.mem_singleton.mp hm]
theorem den_le {p w : Int} (h1 : 1 ≤ p) (h2 : p < w) (h3 : w ≤ 2 * p) : ((Rat.divInt p w).den : Int) ≤ 2 * (Rat.divInt p w).num := by
  have e : (Rat.divInt p w).num * w = p * ((Rat.divInt p w).den : Int) := by
    have : Rat.divInt p w = Rat.divInt (Rat.divInt p w).num ((Rat.divInt p w).den : Int) := (Rat.num_divInt_den _).symm
    have z := (Rat.divInt_eq_divInt_iff (by omega) (by have := (Rat.divInt p w).den_nz; omega)).mp this
    rw [z]
  generalize (Rat.divInt p w).num = n at *
  have d0 : (0 : Int) ≤ ((Rat.divInt p w).den : Int) := by omega
  generalize ((Rat.divInt p w).den : Int) = d at *
  have a1 : w * d ≤ 2 * p * d := Int.mul_le_mul_of_nonneg_right h3 d0
  have a2 : 2 * p * d = w * (2 * n) := by rw [Int.mul_assoc, ← e, Int.mul_comm n w, ← Int.mul_assoc, Int.mul_comm 2 w, Int.mul_assoc]
  rw [a2] at a1
  exact Int.le_of_mul_le_mul_left a1 (by omega)
theorem said_bare {cs : List Cm.C} {n : Nat} (hok : ∀ c ∈ cs, Cm.Ok n c) {ms ms' : List (Option Str)} (p : PySem.Paired Cm.Said ms ms') (h : All cs ms) : All cs ms' := fun c hc => Cm.holds_said c (hok c hc) p (h c hc)
end Co
namespace Co
open PySem PySem.Spec PyProof.Rows L2 Gx
/-! both sorts of contests -/
def Good (ns : List Str) (c : C) : Prop := (∃ k, c = .most ns k ∧ 1 ≤ k ∧ k < ns.length) ∨ (∃ s, c = .part ns s ∧ 0 < s ∧ s < 1 ∧ (s.den : Int) ≤ 2 * s.num ∧ Fr.Sz 20 s)
def claimsC : C → List Str → List Cm.C
  | .bare _, _ => []
  | .most ns _, os => mostC ns os
  | .part ns s, os => partC ns s os
def outC : C → List (Option Str) → Option (List Str)
  | .bare _, _ => none
  | .most ns k, ms => due ns k ms
  | .part ns s, ms => some (shareOut ns s ms)
def fitC : C → List Str → Prop
  | .bare _, _ => False
  | .most ns k, os => fit ns k os
  | .part ns _, os => os = [] ∨ ∃ o ∈ ns, os = [o]
def isMost : C → Bool
  | .most _ _ => true
  | _ => false
theorem fit_names {ns : List Str} {c : C} (g : Good ns c) {os : List Str} (h : fitC c os) : (∀ o ∈ os, o ∈ ns) ∧ os.length ≤ ns.length := by
  rcases g with ⟨k, rfl, k1, k2⟩ | ⟨s, rfl, _⟩
  · have h : fit ns k os := h
    refine ⟨fun o ho => ?_, by have := h.1; omega⟩
    rw [h.2] at ho
    exact (List.mem_filter.mp ho).1
  · rcases h with e | ⟨o, ho, e⟩
    · subst e; exact ⟨fun _ z => (nomatch z), Nat.zero_le _⟩
    · subst e
      exact ⟨fun x hx => by rw [List.mem_singleton.mp hx]; exact ho, List.length_pos_of_mem ho⟩
theorem out_fit {ns : List Str} (nd : ns.Nodup) {c : C} (g : Good ns c) {ms : List (Option Str)} {o : List Str} (h : outC c ms = some o) : fitC c o := by
  rcases g with ⟨k, rfl, k1, k2⟩ | ⟨s, rfl, _, _, h2, _⟩
  · exact due_fit nd k1 h
  · have e : shareOut ns s ms = o := Option.some.inj h
    have := share_fit nd h2 ms
    rw [e] at this
    exact this
theorem ok_claims {ns : List Str} {c : C} (g : Good ns c) {os : List Str} : ∀ cl ∈ claimsC c os, Cm.Ok 20 cl := fun cl hc => by
  rcases g with ⟨k, rfl, k1, k2⟩ | ⟨s, rfl, s0, s1, h2, sz⟩
  · obtain ⟨o, _, hc⟩ := List.mem_flatMap.mp hc
    obtain ⟨t, _, rfl⟩ := List.mem_map.mp hc
    trivial
  · have hc : cl ∈ partC ns s os := hc
    unfold partC at hc
    split at hc
    · obtain ⟨n, _, rfl⟩ := List.mem_map.mp hc
      exact ⟨s0, s1, sz⟩
    · obtain ⟨n, _, rfl⟩ := List.mem_map.mp hc
      exact ⟨s0, s1, sz⟩
theorem whole {ns : List Str} (nd : ns.Nodup) (hnm : ∀ s ∈ ns, Pl.Nm s) {c : C} (g : Good ns c) {ms : List (Option Str)} (h : Bare ns ms) {os : List Str} (ft : fitC c os) (a : All (claimsC c os) ms) : outC c ms = some os := by
  rcases g with ⟨k, rfl, k1, k2⟩ | ⟨s, rfl, s0, s1, h2, sz⟩
  · exact (most_all nd hnm k1 h ft).mp a
  · exact congrArg some (part_all nd hnm h s0 s1 h2 ft a)
theorem whole_most {ns : List Str} (nd : ns.Nodup) (hnm : ∀ s ∈ ns, Pl.Nm s) {c : C} (g : Good ns c) (m : isMost c = true) {ms : List (Option Str)} (h : Bare ns ms) {os : List Str} (ft : fitC c os) : decide (All (claimsC c os) ms) = decide (outC c ms = some os) := by
  rcases g with ⟨k, rfl, k1, k2⟩ | ⟨s, rfl, _⟩
  · exact decide_eq_decide.mpr (most_all nd hnm k1 h ft)
  · cases m
end Co
namespace Tx
open PySem PySem.Spec PyProof.Rows L2 Gx SX
/-- a number's signs -/
def tx (i : Int) : List Nat := if i < 0 then 45 :: TL.numL i.natAbs else TL.numL i.natAbs
theorem T_nat (n : Nat) : Cm.T (n : Int) = S (TL.numL n) := num_S n
theorem T_tx (i : Int) : Cm.T i = S (tx i) := by
  rcases Int.lt_or_le i 0 with c | c
  · obtain ⟨n, rfl⟩ : ∃ n : Nat, i = Int.negSucc n := ⟨i.natAbs - 1, by omega⟩
    unfold tx
    rw [if_pos c]
    have e : Cm.T (Int.negSucc n) = Str.ofString "-" ++ Cm.T ((n + 1 : Nat) : Int) := by
      unfold Cm.T
      refine TL.ext_tl ?_
      rw [TL.tl_append, TL.tl_ofString, TL.tl_ofString, TL.tl_ofString, ← List.map_append]
      congr 1
      have h1 : toString (Int.negSucc n) = "-" ++ toString (n + 1) := rfl
      have h2 : toString (((n + 1 : Nat) : Int)) = toString (n + 1) := rfl
      rw [h1, h2, String.toList_append]
    rw [e, T_nat]
    show S [45] ++ S _ = _
    rw [S_cat]
    rfl
  · obtain ⟨n, rfl⟩ := Int.eq_ofNat_of_zero_le c
    unfold tx
    rw [if_neg (by omega), T_nat]
    rfl
/-- a fraction's signs -/
def sfL (s : Rat) : List Nat := tx s.num ++ (if s.den = 1 then [] else 47 :: TL.numL s.den)
theorem sf_S (s : Rat) : Cm.sf s = S (sfL s) := by
  unfold Cm.sf sfL
  split
  · rw [T_tx, List.append_nil]
  · rw [T_tx, T_nat]
    show S _ ++ S [47] ++ S _ = _
    rw [S_cat, S_cat, List.append_assoc]
    rfl
/-- a text that writes a fraction of few figures -/
def W (a : List Nat) (s : Rat) : Prop := a = sfL s ∧ (TL.numL s.num.natAbs).length ≤ 60 ∧ (TL.numL s.den).length ≤ 60
theorem tx_free (i : Int) : (47 : Nat) ∉ tx i := by
  unfold tx
  split
  · intro h
    rcases List.mem_cons.mp h with e | e
    · cases e
    · exact TL.numL_free (by decide) e
  · exact TL.numL_free (by decide)
theorem spl_sf (s : Rat) : TL.spl [47] 0 [] (sfL s) = if s.den = 1 then [tx s.num] else [tx s.num, TL.numL s.den] := by
  unfold sfL
  split
  · rw [List.append_nil]
    exact TL.spl_join (s := 47) (S := []) (parts := [tx s.num]) (by simp) (fun p hp => by rw [List.mem_singleton.mp hp]; exact tx_free _)
  · exact TL.spl_join (s := 47) (S := []) (parts := [tx s.num, TL.numL s.den]) (by simp) (fun p hp => by
      rcases List.mem_cons.mp hp with e | e
      · rw [e]; exact tx_free _
      · rw [List.mem_singleton.mp e]; exact TL.numL_free (by decide))
theorem spl_ne (S : List Nat) : ∀ (l : List Nat) (k : Nat) (acc : List Nat), TL.spl S k acc l ≠ []
  | [], k, acc => by rw [TL.spl_nil]; simp
  | c :: r, 0, acc => by
    by_cases h : TL.pre S (c :: r) = true
    · rw [TL.spl_hit h]; simp
    · rw [TL.spl_miss (by simpa using h)]; exact spl_ne S r 0 _
  | c :: r, k + 1, acc => by
    rw [TL.spl_pass]
    have : ((c :: r).drop (k + 1)).length ≤ r.length := by rw [List.drop_succ_cons, List.length_drop]; omega
    have e : (c :: r).drop (k + 1) = r.drop k := List.drop_succ_cons
    rw [e, ← TL.spl_pass]
    exact spl_ne S r k acc
theorem tx_head (i : Int) : (tx i).head? = some 45 ↔ i < 0 := by
  unfold tx
  split
  · rename_i h
    exact ⟨fun _ => h, fun _ => rfl⟩
  · rename_i h
    constructor
    · intro z
      have hd := TL.numL_digits i.natAbs
      cases e : TL.numL i.natAbs with
      | nil => exact absurd e (TL.numL_ne _)
      | cons c r =>
        rw [e] at z hd
        have := hd c (List.mem_cons_self ..)
        rw [Option.some.inj z] at this
        omega
    · intro z; exact absurd z h
theorem sf_head (s : Rat) : (sfL s).head? = some 45 ↔ s.num < 0 := by
  rw [← tx_head]
  unfold sfL
  cases e : tx s.num with
  | nil =>
    unfold tx at e
    split at e
    · cases e
    · exact absurd e (TL.numL_ne _)
  | cons c r => simp
theorem tx_abs (i : Int) : (if (tx i).head? = some 45 then (tx i).drop 1 else tx i) = TL.numL i.natAbs := by
  by_cases h : i < 0
  · rw [if_pos ((tx_head i).mpr h)]
    unfold tx
    rw [if_pos h]
    rfl
  · rw [if_neg (fun z => h ((tx_head i).mp z))]
    unfold tx
    rw [if_neg h]
/-- figures alone, not too many -/
def Figs (a : List Nat) : Prop := 1 ≤ a.length ∧ a.length ≤ 60 ∧ ∀ c ∈ a, 48 ≤ c ∧ c ≤ 57
theorem figs_num {n : Nat} (h : (TL.numL n).length ≤ 60) : Figs (TL.numL n) := ⟨List.length_pos_iff.mpr (TL.numL_ne n), h, TL.numL_digits n⟩
theorem fig_mem (c : Nat) : c ∈ ([48, 49, 50, 51, 52, 53, 54, 55, 56, 57] : List Nat) ↔ 48 ≤ c ∧ c ≤ 57 := by
  simp
  omega
theorem figures_S : Str.ofString "0123456789" = S [48, 49, 50, 51, 52, 53, 54, 55, 56, 57] := by decide +kernel
def val (a : List Nat) : Nat := NumText.digitsVal a
theorem val_num (n : Nat) : val (TL.numL n) = n := TL.numL_val n
theorem val_lt : ∀ {a : List Nat}, (∀ c ∈ a, 48 ≤ c ∧ c ≤ 57) → val a < 10 ^ a.length := fun {a} h => by
  have key : ∀ (l : List Nat) (b : Nat), (∀ c ∈ l, 48 ≤ c ∧ c ≤ 57) → l.foldl (fun acc c => acc * 10 + (c - 48)) b < (b + 1) * 10 ^ l.length := fun l => by
    induction l with
    | nil => intro b _; simp
    | cons c r ih =>
      intro b h
      have hc := h c (List.mem_cons_self ..)
      have := ih (b * 10 + (c - 48)) fun x hx => h x (List.mem_cons_of_mem _ hx)
      rw [List.foldl_cons, List.length_cons, Nat.pow_succ]
      refine Nat.lt_of_lt_of_le this ?_
      rw [Nat.mul_comm (10 ^ r.length) 10, ← Nat.mul_assoc]
      exact Nat.mul_le_mul_right _ (by omega)
  have := key a 0 h
  simpa [val, NumText.digitsVal] using this
theorem int_figs {a : List Nat} (h : Figs a) : PySem.intText? (S a) = some ((val a : Nat) : Int) := int_S (by
  rw [List.all_eq_true]
  intro c hc
  have := h.2.2 c hc
  simp [this]) (fun e => by have := h.1; rw [e] at this; simp at this) (by have := h.2.1; omega)
end Tx
namespace Tx
open PySem PySem.Spec PyProof.Rows L2 Gx SX
theorem sz_of {s : Rat} (h1 : (TL.numL s.num.natAbs).length ≤ 60) (h2 : (TL.numL s.den).length ≤ 60) : Fr.Sz 250 s := by
  have a := val_lt (a := TL.numL s.num.natAbs) (TL.numL_digits _)
  have b := val_lt (a := TL.numL s.den) (TL.numL_digits _)
  rw [val_num] at a b
  have c : ∀ k : Nat, k ≤ 60 → 10 ^ k < 2 ^ 250 := fun k hk => Nat.lt_of_le_of_lt (Nat.pow_le_pow_right (by decide) hk) (by decide +kernel)
  exact ⟨Nat.lt_trans a (c _ h1), Nat.lt_trans b (c _ h2)⟩
theorem of_gcd {n d : Int} (hd : 0 < d) (hg : Int.gcd n d = 1) : (Rat.divInt n d).num = n ∧ ((Rat.divInt n d).den : Int) = d := by

  have h1 := Fr.low_num (a := n) (b := d) (d := 1) (by omega) (by rw [if_neg (by omega), hg]; rfl)
  have h2 := Fr.low_den (a := n) (b := d) (d := 1) (by omega) (by rw [if_neg (by omega), hg]; rfl)
  rw [Int.fdiv_one] at h1 h2
  exact ⟨h1.symm, h2.symm⟩
theorem figs_len {a : List Nat} (h : Figs a) {n : Nat} (e : n = val a) : (TL.numL n).length ≤ 60 := by
  refine TL.numL_len (by decide) ?_
  rw [e]
  exact Nat.lt_of_lt_of_le (val_lt h.2.2) (Nat.pow_le_pow_right (by decide) h.2.1)
theorem one_len : (TL.numL 1).length ≤ 60 := by rw [TL.numL_lt (by decide)]; simp
theorem spl_len (S : List Nat) : ∀ (l : List Nat) (k : Nat) (acc : List Nat) {z : List Nat}, z ∈ TL.spl S k acc l → z.length ≤ acc.length + l.length
  | [], k, acc, z, h => by
    rw [TL.spl_nil] at h
    rw [List.mem_singleton.mp h]
    simp
  | c :: r, 0, acc, z, h => by
    by_cases hp : TL.pre S (c :: r) = true
    · rw [TL.spl_hit hp] at h
      rcases List.mem_cons.mp h with e | e
      · rw [e]; simp
      · have := spl_len S r _ _ e
        simp at this ⊢
        omega
    · rw [TL.spl_miss (by simpa using hp)] at h
      have := spl_len S r _ _ h
      simp at this ⊢
      omega
  | c :: r, k + 1, acc, z, h => by
    have e : (c :: r).drop (k + 1) = r.drop k := List.drop_succ_cons
    rw [TL.spl_pass, e, ← TL.spl_pass] at h
    have := spl_len S r _ _ h
    simp
    omega
end Tx
namespace Tx
open PySem PySem.Spec PyProof.Rows L2 Gx SX
def fig (n : Nat) : List Nat := if n = 0 then [] else TL.numL n
theorem fig_step {m : Nat} (h : 0 < m) : fig m = fig (m / 10) ++ [48 + m % 10] := by
  unfold fig
  rw [if_neg (by omega)]
  by_cases c : m < 10
  · rw [if_pos (by omega), TL.numL_lt c, Nat.mod_eq_of_lt c]
    rfl
  · rw [if_neg (by omega), TL.numL_step (by omega)]
theorem fig_at {i : Int} (h0 : 0 ≤ i) (h1 : i < 10) : atI (Str.ofString "0123456789").cps.toList i = some (48 + i.toNat) := by
  obtain ⟨k, rfl⟩ := Int.eq_ofNat_of_zero_le h0
  have h : ∀ k : Fin 10, atI (Str.ofString "0123456789").cps.toList ((k.1 : Nat) : Int) = some (48 + ((k.1 : Nat) : Int).toNat) := by decide +kernel
  exact h ⟨k, by omega⟩
theorem len_of {n k : Nat} (h : n < 10 ^ k) (hk : 0 < k) : (TL.numL n).length ≤ k := TL.numL_len hk h
end Tx
namespace Tx
open PySem PySem.Spec PyProof.Rows L2 Gx SX
theorem tx_inj {i j : Int} (h : tx i = tx j) : i = j := by
  have h1 := tx_abs i
  rw [h, tx_abs j] at h1
  have h2 := TL.numL_inj h1
  have h3 : i < 0 ↔ j < 0 := by rw [← tx_head, ← tx_head, h]
  omega
theorem sf_inj {s t : Rat} (h : sfL s = sfL t) : t = s := by
  have h1 := spl_sf s
  rw [h, spl_sf t] at h1
  by_cases c : s.den = 1 <;> by_cases d : t.den = 1
  · rw [if_pos c, if_pos d] at h1
    exact Rat.ext (tx_inj (by simpa using h1)) (by omega)
  · rw [if_pos c, if_neg d] at h1; simp at h1
  · rw [if_neg c, if_pos d] at h1; simp at h1
  · rw [if_neg c, if_neg d] at h1
    simp at h1
    exact Rat.ext (tx_inj h1.1) (TL.numL_inj h1.2)
end Tx
namespace Tx
open PySem PySem.Spec PyProof.Rows L2 Gx SX
/-! figures without noughts ahead -/
def Part (a : List Nat) : Prop := Figs a ∧ (a.head? = some 48 → a = [48])
theorem val_snoc (l : List Nat) (c : Nat) : val (l ++ [c]) = val l * 10 + (c - 48) := by simp [val, NumText.digitsVal]
theorem part_num : ∀ (k : Nat) {a : List Nat}, a.length ≤ k → Part a → a = TL.numL (val a)
  | 0, a, h, p => by have := p.1.1; omega
  | k + 1, a, h, ⟨⟨h1, h2, h3⟩, h4⟩ => by
    obtain ⟨l, c, rfl⟩ : ∃ l c, a = l ++ [c] := ⟨a.dropLast, a.getLast (by intro z; rw [z] at h1; simp at h1), (List.dropLast_concat_getLast _).symm⟩
    have hc := h3 c (by simp)
    rw [val_snoc]
    cases l with
    | nil =>
      show [c] = TL.numL (0 * 10 + (c - 48))
      rw [TL.numL_lt (by omega)]
      congr 1
      omega
    | cons d r =>
      have hd : d ≠ 48 := fun e => by
        have := h4 (by simp [e])
        simp at this
      have hp : Part (d :: r) := ⟨⟨by simp, by simp at h2 ⊢; omega, fun x hx => h3 x (List.mem_append_left _ hx)⟩, fun e => absurd (Option.some.inj e) hd⟩
      have ih := part_num k (a := d :: r) (by simp at h ⊢; omega) hp
      have v1 : val (d :: r) ≠ 0 := fun e => by
        rw [e, TL.numL_lt (by decide)] at ih
        exact hd (List.cons.inj ih).1
      rw [TL.numL_step (by omega)]
      rw [show (val (d :: r) * 10 + (c - 48)) / 10 = val (d :: r) by omega, show (val (d :: r) * 10 + (c - 48)) % 10 = c - 48 by omega, ← ih, show 48 + (c - 48) = c by omega]
theorem num_part {n : Nat} (h : (TL.numL n).length ≤ 60) : Part (TL.numL n) := ⟨figs_num h, fun e => by
  by_cases c : n < 10
  · rw [TL.numL_lt c] at e ⊢
    have : 48 + n = 48 := by simpa using e
    rw [this]
  · exfalso
    -- the first figure of a longer one
    have key : ∀ (k n : Nat), n ≤ k → 0 < n → (TL.numL n).head? ≠ some 48 := fun k => by
      induction k with
      | zero => intro n h1 h2; omega
      | succ k ih =>
        intro n h1 h2
        by_cases c : n < 10
        · rw [TL.numL_lt c]; simp; omega
        · rw [TL.numL_step (by omega)]
          have := ih (n / 10) (by omega) (by omega)
          cases e : TL.numL (n / 10) with
          | nil => exact absurd e (TL.numL_ne _)
          | cons x y => rw [e] at this; simpa using this
    exact key n n (Nat.le_refl _) (by omega) e⟩
/-! the text cut at its strokes -/
theorem spl_back : ∀ (l acc : List Nat), TL.joinL [47] (TL.spl [47] 0 acc l) = acc ++ l ∧ (TL.spl [47] 0 acc l).length = l.countP (· == 47) + 1
  | [], acc => by rw [TL.spl_nil]; simp [TL.joinL]
  | c :: r, acc => by
    by_cases h : c = 47
    · subst h
      rw [TL.spl_hit (by simp [TL.pre])]
      obtain ⟨h1, h2⟩ := spl_back r []
      have e : TL.spl [47] ([47].length - 1) [] r = TL.spl [47] 0 [] r := rfl
      rw [e]
      refine ⟨?_, by simp [h2]⟩
      cases q : TL.spl [47] 0 [] r with
      | nil => exact absurd q (spl_ne _ _ _ _)
      | cons x y =>
        rw [q] at h1
        show acc ++ ([47] ++ TL.joinL [47] (x :: y)) = _
        rw [h1]
        simp
    · rw [TL.spl_miss (TL.pre_of_head [] r h)]
      obtain ⟨h1, h2⟩ := spl_back r (acc ++ [c])
      refine ⟨by rw [h1]; simp, ?_⟩
      rw [h2]
      simp [h]
def strip (f : List Nat) : List Nat := if f.head? = some 45 then f.drop 1 else f
theorem strip_tx {f : List Nat} (hp : Part (strip f)) (hz : ¬ (f.head? = some 45 ∧ val (strip f) = 0)) : ∃ n : Int, f = tx n ∧ n.natAbs = val (strip f) ∧ n = (if f.head? = some 45 then 0 - (val (strip f) : Int) else (val (strip f) : Int)) := by
  have e := part_num _ (Nat.le_refl _) hp
  refine ⟨_, ?_, ?_, rfl⟩
  · by_cases c : f.head? = some 45
    · rw [if_pos c]
      have v : val (strip f) ≠ 0 := fun z => hz ⟨c, z⟩
      unfold tx
      rw [if_pos (by omega), show (0 - (val (strip f) : Int)).natAbs = val (strip f) by omega, ← e]
      unfold strip
      rw [if_pos c]
      cases f with
      | nil => cases c
      | cons x y => rw [Option.some.inj c]; rfl
    · rw [if_neg c]
      unfold tx
      rw [if_neg (by omega), show ((val (strip f) : Int)).natAbs = val (strip f) by omega, ← e]
      unfold strip
      rw [if_neg c]
  · split <;> omega
theorem part_len {a : List Nat} (h : Part a) {n : Nat} (e : n = val a) : (TL.numL n).length ≤ 60 := figs_len h.1 e
theorem w_whole {a : List Nat} {n : Int} (e : a = tx n) (h : (TL.numL n.natAbs).length ≤ 60) : W a (Rat.divInt n 1) := by
  have z := of_gcd (n := n) (d := 1) (by decide) (by rw [Int.gcd_one])
  have d1 : (Rat.divInt n 1).den = 1 := by omega
  refine ⟨?_, by rw [z.1]; exact h, by rw [d1]; exact one_len⟩
  unfold sfL
  rw [if_pos d1, z.1, List.append_nil]
  exact e
theorem w_parts {a g : List Nat} {n : Int} {d : Nat} (e : a = tx n ++ 47 :: g) (eg : g = TL.numL d) (h : (TL.numL n.natAbs).length ≤ 60) (hg : (TL.numL d).length ≤ 60) (d2 : 2 ≤ d) (hc : Int.gcd n d = 1) : W a (Rat.divInt n d) := by
  have z := of_gcd (n := n) (d := d) (by omega) hc
  have d1 : (Rat.divInt n d).den = d := by omega
  refine ⟨?_, by rw [z.1]; exact h, by rw [d1]; exact hg⟩
  unfold sfL
  rw [if_neg (by omega), z.1, d1, e, eg]
open Classical in
/-- what is told of figures -/
noncomputable def pv (a : List Nat) : V := if Part a then .int ((val a : Nat) : Int) else .non
theorem pv_yes {a : List Nat} (h : Part a) : pv a = .int ((val a : Nat) : Int) := by unfold pv; rw [if_pos h]
theorem pv_no {a : List Nat} (h : ¬ Part a) : pv a = .non := by unfold pv; rw [if_neg h]
theorem take1 {f : List Nat} : S (f.take 1) = S [45] ↔ f.head? = some 45 := by
  constructor
  · intro h
    have := S_inj h
    cases f with
    | nil => cases this
    | cons c r => simpa using this
  · intro h
    cases f with
    | nil => cases h
    | cons c r => rw [Option.some.inj h]; rfl
theorem strip_tx_num (i : Int) : strip (tx i) = TL.numL i.natAbs := tx_abs i
theorem two : Part [50] ∧ val [50] = 2 := by
  have e : TL.numL 2 = [50] := TL.numL_lt (by decide)
  rw [← e]
  exact ⟨num_part (by rw [e]; simp), val_num 2⟩
theorem sf_free {s : Rat} : 47 ∈ sfL s ↔ s.den ≠ 1 := by
  unfold sfL
  split
  · rename_i h
    rw [List.append_nil]
    exact ⟨fun z => absurd z (tx_free _), fun z => absurd h z⟩
  · rename_i h
    exact ⟨fun _ => h, fun _ => by simp⟩
/-- a text's two parts, where it writes a fraction -/
theorem w_cut {a f g : List Nat} {s : Rat} (hw : W a s) (h : (47 ∉ a ∧ f = a ∧ g = [50]) ∨ (47 ∈ a ∧ a = f ++ 47 :: g ∧ TL.spl [47] 0 [] a = [f, g])) : f = tx s.num ∧ ((s.den = 1 ∧ 47 ∉ a ∧ g = [50]) ∨ (s.den ≠ 1 ∧ 47 ∈ a ∧ g = TL.numL s.den)) := by
  have e := hw.1
  rcases h with ⟨h1, h2, h3⟩ | ⟨h1, h2, h3⟩
  · have d : s.den = 1 := Classical.byContradiction fun z => h1 (by rw [e]; exact sf_free.mpr z)
    refine ⟨?_, .inl ⟨d, h1, h3⟩⟩
    rw [h2, e]
    unfold sfL
    rw [if_pos d, List.append_nil]
  · have d : s.den ≠ 1 := sf_free.mp (by rw [← e]; exact h1)
    have := spl_sf s
    rw [← e, h3, if_neg d] at this
    simp at this
    exact ⟨this.1, .inr ⟨d, h1, this.2⟩⟩
end Tx
namespace Tx
open PySem PySem.Spec PyProof.Rows L2 Gx SX
theorem cut_le (z : Str) (lo hi : Option Int) : (cutS z lo hi).length ≤ z.length := by
  show ((z.cps.toList.drop (HT.sIx z.length 0 lo)).take (HT.sIx z.length z.length hi - HT.sIx z.length 0 lo)).toArray.size ≤ z.cps.size
  rw [List.size_toArray, List.length_take, List.length_drop, Array.length_toList]
  omega
end Tx
/-! len(set(l)), l a list of texts -/
namespace Ls
open PySem PySem.Spec PyProof.Rows L2 Gx
/-- how many unlike ones stand among the first i -/
def dn (xs : List Str) : Nat → Nat
  | 0 => 0
  | i + 1 => if (xs.take i).any (· == xs.getD i Str.empty) = true then dn xs i else dn xs i + 1
theorem dn_le (xs : List Str) : ∀ i, dn xs i ≤ i
  | 0 => Nat.le_refl 0
  | i + 1 => by
    have := dn_le xs i
    unfold dn
    split <;> omega
theorem dn_iff (xs : List Str) : ∀ i, i ≤ xs.length → (dn xs i = i ↔ (xs.take i).Nodup)
  | 0, _ => by simp [dn]
  | i + 1, h => by
    have ih := dn_iff xs i (by omega)
    have hl := dn_le xs i
    have hx : xs[i]? = some (xs.getD i Str.empty) := by
      rw [List.getD_eq_getElem?_getD, List.getElem?_eq_getElem (by omega)]; rfl
    rw [Lw.take_snoc hx, List.nodup_append]
    unfold dn
    split
    · rename_i c
      constructor
      · intro e; omega
      · rintro ⟨_, _, n⟩
        obtain ⟨y, hy, e⟩ := List.any_eq_true.mp c
        exact absurd (eq_of_beq e) (n y hy _ (List.mem_singleton.mpr rfl))
    · rename_i c
      constructor
      · intro e
        refine ⟨ih.mp (by omega), by simp, fun y hy z hz e2 => c ?_⟩
        rw [List.mem_singleton.mp hz] at e2
        exact List.any_eq_true.mpr ⟨y, hy, by rw [e2]; exact beq_self_eq_true _⟩
      · rintro ⟨h1, _, _⟩
        rw [ih.mpr h1]
section
variable {P : Program} {w : World} {A : Around} {E : Value → Shared → Prop} {s : Shared}
theorem setOf_keep {h h' : Heap} {a : Addr} {S : Str → Bool} {n : Nat} (R : h.SetOf (PySem.strKind P w) a S n) (k : ∀ o, h.get? a = some o → h'.get? a = some o) : h'.SetOf (PySem.strKind P w) a S n := by
  obtain ⟨o, es, ep, t, ho, r⟩ := R
  exact ⟨o, es, ep, t, k o ho, r⟩
theorem add_texts {I : Addr} {fp wr : List Addr} {G : Array GenState → Array GenState → Prop} {n : Nat} {Pv : Nat → Value → Prop} {St : Nat → Shared → Prop} {R : Result → Shared → Prop}
    (W : WalksS P w A.in1 I fp wr G n Pv St) (S : Addr) (hSf : S ∉ fp) (xs : List Str) (hn : n = xs.length) (hb : n + 1 < scanBound) (hval : ∀ i v, Pv i v → ∃ t, v = .str (xs.getD i Str.empty) t) :
    ∀ (k i : Nat) (s : Shared), n - i = k → i ≤ n → St i s → s.heap.SetOf (PySem.strKind P w) S (fun x => (xs.take i).any (· == x)) (dn xs i) →
      (∀ s', Moved (S :: wr) G s s' → s'.heap.SetOf (PySem.strKind P w) S (fun x => (xs.take n).any (· == x)) (dn xs n) → R (.ok (.ret .none)) s') →
      codeAny (model P w) A (.builtin "set.update.loop" ⟨[.ref S, .ref I], []⟩) R s := by
  have hSw : S ∉ wr := fun h => hSf (W.sub _ h)
  have up : ∀ b ∈ wr, b ∈ S :: wr := fun b hb => List.mem_cons_of_mem _ hb
  intro k
  induction k with
  | zero =>
    intro i s hk hi hst hS hR
    obtain rfl : i = n := by omega
    refine codeAny_builtin PyProof.Rows.F.entry_set_update_loop ?_
    rw [Around.under_plainId PyProof.Rows.F.plain_set_update_loop _]
    show wpAny _ A.in1 (pyNext (.ref I) >>= _) _ _ s
    refine wpAny_bind (W.done s _ _ hst fun s' hm => ?_)
    exact wpAny_pure (hR s' (hm.mono up) (setOf_keep (P := P) hS fun o e => hm.heap S o hSw e))
  | succ k ih =>
    intro i s hk hi hst hS hR
    have hlt : i < n := by omega
    refine codeAny_builtin PyProof.Rows.F.entry_set_update_loop ?_
    rw [Around.under_plainId PyProof.Rows.F.plain_set_update_loop _]
    show wpAny _ A.in1 (pyNext (.ref I) >>= _) _ _ s
    refine wpAny_bind (W.item i s _ _ hlt hst fun v s' hP hst' hm => ?_)
    obtain ⟨t, rfl⟩ := hval i v hP
    have hS' := setOf_keep (P := P) (h' := s'.heap) hS fun o e => hm.heap S o hSw e
    show wpAny _ A.in1 (holding [Value.str (xs.getD i Str.empty) t] (setAdd S (.str (xs.getD i Str.empty) t)) >>= _) _ _ s'
    refine wpAny_bind (wpAny_holding ?_)
    unfold setAdd
    refine wpAny_holding (wpAny_bind ((PySem.strKind P w).pyHash (k := xs.getD i Str.empty) (strKind_is _ _ _ _) ?_))
    have hdn := dn_le xs i
    refine wpAny_setAddHashed_of (knd := PySem.strKind P w) (s := { s' with toks := s'.toks + 1 }) (strKind_is _ _ _ _) rfl hS' (by omega) fun h' hsb hS2 => ?_
    have hx : xs[i]? = some (xs.getD i Str.empty) := by
      rw [List.getD_eq_getElem?_getD, List.getElem?_eq_getElem (by omega)]; rfl
    have hS3 : h'.SetOf (PySem.strKind P w) S (fun x => (xs.take (i + 1)).any (· == x)) (dn xs (i + 1)) := by
      refine SetOf_congr hS2 (fun x => ?_) rfl
      rw [Lw.take_snoc hx, List.any_append]
      congr 1
      show decide _ = ((_ == _) || false)
      rw [Bool.or_false]
      by_cases e : x = xs.getD i Str.empty
      · rw [decide_eq_true e, e]; exact (beq_self_eq_true _).symm
      · rw [decide_eq_false e]; exact (beq_false_of_ne fun z => e z.symm).symm
    refine wpAny_pure ⟨plainId_quiet PyProof.Rows.F.plain_set_update_loop _, ih (i + 1) _ (by omega) hlt (W.frame _ s' _ _ hst' (Nat.le_succ _) fun b hb o e => ?_) hS3 fun s'' hm2 hS4 => ?_⟩
    · exact (hsb.2 b (fun h => hSf (h ▸ hb))).trans e
    · exact hR s'' (Moved.trans W.gtrans ((hm.mono up).then_heap (Nat.le_succ _) fun b o hb e => (hsb.2 b (fun h => hb (by rw [h]; exact List.mem_cons_self ..))).trans e) hm2) hS4
theorem texts_at : ∀ {us : List Value} {xs : List Str}, PyProof.Rows.StrsAre us xs → ∀ (i : Nat) (v : Value), us[i]? = some v → ∃ t, v = .str (xs.getD i Str.empty) t
  | _, _, .nil, i, v, h => by simp at h
  | _, _, .cons n t r, 0, v, h => ⟨t, (Option.some.inj h).symm⟩
  | _, _, .cons n t r, i + 1, v, h => texts_at r i v h
set_option maxHeartbeats 3200000 in
/-- set(l), l a list of texts -/
theorem set_of_texts {l : Addr} {items : Array Value} {xs : List Str} {Q : Value → Shared → Prop} (hh : A.handled = none) (hl : s.heap.IsList l items) (hi : PyProof.Rows.StrsAre items.toList xs) (hb : xs.length + 1 < scanBound)
    (h : ∀ (h' : Heap) (tk : Nat), h'.SetOf (PySem.strKind P w) s.heap.objs.size (fun x => (xs.take xs.length).any (· == x)) (dn xs xs.length) → (∀ b o, s.heap.get? b = some o → h'.get? b = some o) → Q (.ref s.heap.objs.size) { s with heap := h', toks := tk }) :
    wpAny (model P w) A (call (.type "set") [.ref l]) Q E s := by
  have hsz : xs.length = items.size := by rw [← StrsAre.len_eq hi, Array.length_toList]
  obtain ⟨c, tl, hmro⟩ := PySem.F.called_set.mro
  have hmade := PySem.F.called_set.made
  have hsub := PySem.F.called_set.sub
  refine wpAny_call (codeAny_of_tree ?_)
  show wpAny _ _ (callAny (.type "set") _) _ _ _
  refine wpAny_pure ⟨Code.quiet_builtin _ (by decide +kernel), codeAny_builtin PySem.F.entry_type_call ?_⟩
  rw [Around.under_plain (weight_type_call_type "set" [.ref l] []) rfl]
  have h1 := PySem.F.called_set.notType
  have h2 := PySem.F.called_set.canCreate
  have hct := PySem.F.typeCall_set_1 (.ref l)
  repeat (any_goals (first | assumption | wp_step))
  refine codeAny_mono (code_set_new_1 (.ref l) (E := E) (Q₁ := fun obj s₁ => ∃ led : Bool, obj = .ref s.heap.objs.size ∧ s₁ = { s with heap := s.heap.push { cls := .type "set", dict := none, data := .set #[] 0 (.fresh 0 0 led) } }) fun led => ⟨led, rfl, rfl⟩) fun r s₁ hr => ?_
  cases r with
  | error e => exact hr
  | ok fl =>
    cases fl with
    | ret obj =>
      obtain ⟨led, rfl, rfl⟩ := hr
      have hS : (s.heap.push { cls := .type "set", dict := none, data := .set #[] 0 (.fresh 0 0 led) }).get? s.heap.objs.size = some { cls := .type "set", dict := none, data := .set #[] 0 (.fresh 0 0 led) } := Heap.get?_push_size _ rfl
      have hT : Shared.TypeIs { s with heap := s.heap.push { cls := .type "set", dict := none, data := .set #[] 0 (.fresh 0 0 led) } } (.ref s.heap.objs.size) "set" := ⟨_, hS, rfl⟩
      have hli := PySem.F.called_set.init.lookup
      have hbi := PySem.F.called_set.init.bind (.ref s.heap.objs.size)
      repeat (any_goals (first | assumption | wp_step))
      refine codeAny_mono (codeAny_call_builtin (R := wants (fun r s₂ => r = .none ∧ ∃ h' tk, s₂ = { s with heap := h', toks := tk } ∧
          h'.SetOf (PySem.strKind P w) s.heap.objs.size (fun x => (xs.take xs.length).any (· == x)) (dn xs xs.length) ∧ (∀ b o, s.heap.get? b = some o → h'.get? b = some o)) E) PySem.F.called_set.init.plain PySem.F.entry_set_init (check_set_init_1 hT ?_)) fun r₂ s₂ hr₂ => ?_
      · obtain ⟨⟨ocls, odict, odata, oslots⟩, hol, hcl, nl, hdl⟩ := hl
        simp only at hcl hdl
        subst hcl; subst hdl
        have hol' : (s.heap.push { cls := .type "set", dict := none, data := .set #[] 0 (.fresh 0 0 led) }).get? l = some { cls := .type "list", dict := odict, data := .seq items nl, slots := oslots } := Heap.get?_push_of_some _ hol
        have hsls := PySem.F.sub_list_set
        have hslf := PySem.F.sub_list_frozenset
        have hne : (Value.type "list" == Value.type "dict") = false := by decide
        have hl1 : (s.heap.push { cls := .type "set", dict := none, data := .set #[] 0 (.fresh 0 0 led) }).IsList l items := ⟨_, hol', rfl, nl, rfl⟩
        unfold Builtin.«set.__init__» noKeywords Builtin.Frozenset.updateFrom
        generalize hPI : pyIter = PI
        wp_walk
        subst hPI
        refine wpAny_pyIter_list hl1 ?_
        refine wpAny_bind (wpAny_runValue ?_)
        have hlS : l < s.heap.objs.size := Heap.lt_size hol
        have hneI : l ≠ (s.heap.push { cls := .type "set", dict := none, data := .set #[] 0 (.fresh 0 0 led) }).objs.size := by
          rw [Heap.size_push]; exact Nat.ne_of_lt (Nat.lt_succ_of_lt hlS)
        have hSf : s.heap.objs.size ∉ [(s.heap.push { cls := .type "set", dict := none, data := .set #[] 0 (.fresh 0 0 led) }).objs.size, l] := by
          rw [Heap.size_push]
          intro z
          rcases List.mem_cons.mp z with z | z
          · exact absurd z (Nat.ne_of_lt (Nat.lt_succ_self _))
          · exact absurd (List.mem_singleton.mp z).symm (Nat.ne_of_lt hlS)
        refine add_texts ((Walks.list (by simp [hh]) _ l hneI items).toS) s.heap.objs.size hSf xs hsz.symm (by omega)
          (fun i v hv => texts_at hi i v (by rw [Array.getElem?_toList]; exact hv)) (items.size - 0) 0 _ (by omega) (Nat.zero_le _)
          ⟨⟨_, Heap.get?_push_size _ rfl, rfl, rfl⟩, (hl1.push _)⟩ ?hS0 ?hR
        case hS0 =>
          have hg := Heap.get?_push_of_some { cls := .type "list_iterator", data := .fields #[.ref l, .int 0 0] } hS
          exact SetOf_congr ((setObjOf_fresh (knd := PySem.strKind P w) led).setOf hg (by unfold scanBound; omega)) (fun _ => rfl) rfl
        case hR =>
          intro s' hm hS'
          obtain ⟨h', g', d', tk', os'⟩ := s'
          obtain rfl : g' = s.gens := hm.gens
          obtain rfl : d' = s.drawn := hm.drawn
          obtain rfl : os' = s.os := hm.os
          show wpAny _ _ _ _ _ _
          refine wpAny_pure ?_
          show wpAny _ _ (ret Value.none) _ _ _
          rw [← hsz] at hS'
          refine wpAny_pure ⟨rfl, h', tk', rfl, hS', fun b o e => ?_⟩
          have hb0 : b < s.heap.objs.size := Heap.lt_size e
          exact hm.heap b o (by
            intro z
            rcases List.mem_cons.mp z with z | z
            · exact absurd z (Nat.ne_of_lt hb0)
            · have := List.mem_singleton.mp z
              rw [Heap.size_push] at this
              exact absurd this (Nat.ne_of_lt (Nat.lt_succ_of_lt hb0))) (Heap.get?_push_of_some _ (Heap.get?_push_of_some _ e))
      · cases r₂ with
        | error e => exact hr₂
        | ok fl₂ =>
          cases fl₂ with
          | ret r =>
            obtain ⟨rfl, h', tk, rfl, hS', hk'⟩ := hr₂
            repeat (any_goals (first | assumption | wp_step))
            exact h _ _ hS' hk'
          | _ => exact hr₂.elim
    | _ => exact hr.elim
end
theorem strs_vals : ∀ {ss : List Str} {us : List Value}, Vals (ss.map V.str) us → PyProof.Rows.StrsAre us ss
  | [], _, .nil => .nil
  | n :: ns, _, .cons r t => by
    obtain ⟨k, rfl⟩ := r
    exact .cons n k (strs_vals t)
def rLenSetS (K : PySem.W.Frag) (x : V) (H1 : Hp) (Q : VK) : Prop := ∃ (l : Addr) (ss : List Str), x = .ref l ∧ SqL K H1 l (ss.map V.str) ∧ ss.length ≤ 1000 ∧ Q (.int (dn ss ss.length : Nat)) H1
def tLenSetS (K : PySem.W.Frag) (ta : TE) : TE := fun σ H Q => ta σ H fun x H1 => rLenSetS K x H1 Q
theorem pe_lenSetS {X : Cx} {K : PySem.W.Frag} {a : Expr} {ta : TE} {p p2 q pos : Pos} (hK : X.K = K) (hg : Gl X "len") (hm : X.mg "len" = none) (hg2 : Gl X "set") (hm2 : X.mg "set" = none) (ha : PE X a ta) (hc : X.calm = true := by rfl)
    (na : starEach [a] X.env = (false, eval a X.env) :: starEach [] X.env := by rfl) : PE X (.Call (.Name "len" p) [.Call (.Name "set" p2) [a] [] q] [] pos) (tLenSetS K ta) := by
  subst hK
  refine ⟨fun pins s σ H Q I h => ?_⟩
  refine Call_ (ld_blt I hg hm boot_len ?_)
  refine PyProof.Rows.callWith_builtin1 (PyProof.Rows.args_cons ?_ rfl) rfl rfl
  refine Call_ (ld_blt I hg2 hm2 boot_set ?_)
  refine PyProof.Rows.callWith_type1 (PyProof.Rows.args_cons (thn (ha.run pins s σ H _ I h) fun v s1 ⟨x, H1, I1, r1, q1⟩ => PyProof.Rows.args_nil ?_) na) na rfl
  obtain ⟨l, ss, rfl, hq, hl, q1⟩ := q1
  cases r1
  obtain ⟨its, r, pl, _⟩ := I1.list hq
  refine set_of_texts (I1.ok.hd hc) pl.isList (xs := ss) (by simpa using strs_vals r) (by unfold scanBound; omega) fun h' tk hS hk => ?_
  refine PyProof.Rows.args_nil ?_
  have hdn := dn_le ss ss.length
  obtain ⟨o, es, ep, t, ho, hex, hd, _, _, hb, hf, hn⟩ := hS
  have I2 : Inv X pins σ H1 { s1 with heap := h', toks := tk } := I1.kept hk
  exact call_len_set ho hex hd hf (by omega) ⟨.int (dn ss ss.length : Nat), H1, I2.tok _, ⟨_, by rw [hn]⟩, q1⟩
theorem k_lenSetS {K : PySem.W.Frag} {ta : TE} {σ : L2.St} {H : Hp} {Q : VK} (q : ta σ H fun x H1 => rLenSetS K x H1 Q) : tLenSetS K ta σ H Q := q
theorem k_lenSetSx {K : PySem.W.Frag} {H : Hp} {Q : VK} {l : Addr} {ss : List Str} (h : SqL K H l (ss.map V.str)) (c : ss.length ≤ 1000) (q : Q (.int (dn ss ss.length : Nat)) H) : rLenSetS K (.ref l) H Q := ⟨l, ss, rfl, h, c, q⟩
end Ls
/-! texts of contests -/
namespace Kt
open PySem PySem.Spec PyProof.Rows L2 Gx SX
/-- a name: one to eight letters -/
def Nl (a : List Nat) : Prop := 1 ≤ a.length ∧ a.length ≤ 8 ∧ ∀ c ∈ a, 97 ≤ c ∧ c ≤ 122
/-- a count: figures, no nought ahead -/
def Cnt (a : List Nat) : Prop := a ≠ [] ∧ (∀ c ∈ a, 48 ≤ c ∧ c ≤ 57) ∧ (a = [48] ∨ a.head? ≠ some 48)
instance (a : List Nat) : Decidable (Nl a) := by unfold Nl; infer_instance
instance (a : List Nat) : Decidable (Cnt a) := by unfold Cnt; infer_instance
def Nms (ns : List (List Nat)) : Prop := 2 ≤ ns.length ∧ ns.length ≤ 6 ∧ (∀ n ∈ ns, Nl n) ∧ ns.Nodup
instance (ns : List (List Nat)) : Decidable (Nms ns) := by unfold Nms; infer_instance
def abc : List Nat := [97, 98, 99, 100, 101, 102, 103, 104, 105, 106, 107, 108, 109, 110, 111, 112, 113, 114, 115, 116, 117, 118, 119, 120, 121, 122]
theorem abc_S : Str.ofString "abcdefghijklmnopqrstuvwxyz" = S abc := by decide +kernel
theorem abc_mem (c : Nat) : c ∈ abc ↔ 97 ≤ c ∧ c ≤ 122 := by
  unfold abc
  simp
  omega
/-- what a text writes: a contest -/
inductive Kd | most (k : Nat) | over (s : Rat)
def Wr (a : List Nat) (d : Kd) (ns : List (List Nat)) : Prop := ∃ w0 w1, TL.spl [32] 0 [] a = w0 :: w1 :: [111, 102] :: ns ∧ Nms ns ∧ match d with
  | .most k => w0 = [109, 111, 115, 116] ∧ Cnt w1 ∧ Tx.val w1 = k ∧ 1 ≤ k ∧ k < ns.length
  | .over s => w0 = [111, 118, 101, 114] ∧ Tx.W w1 s ∧ (1/2 : Rat) ≤ s ∧ s < 1 ∧ s.den ≤ 999999
/-- a contest that was read -/
def ConAt (K : PySem.W.Frag) (H : Hp) (x : Addr) (d : Kd) (ns : List (List Nat)) : Prop := ∃ dx p, SqT K H p (ns.map fun z => V.str (S z)) ∧ match d with
  | .most k => H x = some (.ins (He.ga K "Most") dx [("names", .ref p), ("seats", .int (k : Int))])
  | .over s => ∃ q, H x = some (.ins (He.ga K "Portion") dx [("names", .ref p), ("share", .ref q)]) ∧ SqT K H q (Fr.fq s)
/-- as it is shown -/
def shL : Kd → List (List Nat) → List Nat
  | .most k, ns => [109, 111, 115, 116, 32] ++ TL.numL k ++ [32, 111, 102, 32] ++ TL.joinL [32] ns
  | .over s, ns => [111, 118, 101, 114, 32] ++ Tx.sfL s ++ [32, 111, 102, 32] ++ TL.joinL [32] ns
theorem cnt_int {a : List Nat} (h : Cnt a) (l : a.length ≤ 4300) : PySem.intText? (S a) = some ((Tx.val a : Nat) : Int) := int_S (by
  rw [List.all_eq_true]
  intro c hc
  have := h.2.1 c hc
  simp [this]) h.1 l
theorem len_S (ns : List (List Nat)) : (ns.map S).length = ns.length := List.length_map ..
theorem nodup_S {ns : List (List Nat)} : (ns.map S).Nodup ↔ ns.Nodup := by
  constructor
  · intro h
    exact (List.pairwise_map.mp h).imp fun {a b} n e => n (by rw [e])
  · intro h
    exact List.pairwise_map.mpr (h.imp fun {a b} n e => n (S_inj e))
end Kt
namespace Kt
open PySem PySem.Spec PyProof.Rows L2 Gx SX
/-- the contest that a text writes -/
def con (d : Kd) (ns : List (List Nat)) : Co.C := match d with
  | .most k => .most (ns.map S) k
  | .over s => .part (ns.map S) s
theorem map_S (ns : List (List Nat)) : (ns.map S).map V.str = ns.map fun z => V.str (S z) := by rw [List.map_map]; rfl
theorem con_at {K : PySem.W.Frag} {H : Hp} {x : Addr} {d : Kd} {ns : List (List Nat)} (h : ConAt K H x d ns) : Co.At K H x (con d ns) := by
  cases d with
  | most k =>
    obtain ⟨dx, p, hp, hi⟩ := h
    exact ⟨dx, p, hi, by rw [map_S]; exact hp⟩
  | over s =>
    obtain ⟨dx, p, hp, q, hi, hq⟩ := h
    exact ⟨dx, p, q, hi, by rw [map_S]; exact hp, hq⟩
theorem ConAt.same {K : PySem.W.Frag} {H H' : Hp} (e : Same H H') {x : Addr} {d : Kd} {ns : List (List Nat)} (h : ConAt K H x d ns) : ConAt K H' x d ns := by
  cases d with
  | most k =>
    obtain ⟨dx, p, hp, hi⟩ := h
    exact ⟨dx, p, seqT_same e hp, e _ _ hi⟩
  | over s =>
    obtain ⟨dx, p, hp, q, hi, hq⟩ := h
    exact ⟨dx, p, seqT_same e hp, q, e _ _ hi, seqT_same e hq⟩
theorem wr_uniq {a : List Nat} {d d' : Kd} {ns ns' : List (List Nat)} (h : Wr a d ns) (g : Wr a d' ns') : d' = d ∧ ns' = ns := by
  obtain ⟨w0, w1, e, _, h⟩ := h
  obtain ⟨v0, v1, e', _, g⟩ := g
  rw [e] at e'
  obtain ⟨e0, e'⟩ := List.cons.inj e'
  obtain ⟨e1, e'⟩ := List.cons.inj e'
  obtain ⟨_, e2⟩ := List.cons.inj e'
  subst e0
  subst e1
  refine ⟨?_, e2.symm⟩
  cases d with
  | most k =>
    cases d' with
    | most k' => rw [← h.2.2.1, ← g.2.2.1]
    | over s => exact absurd (h.1.symm.trans g.1) (by decide)
  | over s =>
    cases d' with
    | most k' => exact absurd (h.1.symm.trans g.1) (by decide)
    | over s' => rw [Tx.sf_inj (h.2.1.1.symm.trans g.2.1.1)]
/-- what a contest may be -/
def Fine (d : Kd) (ns : List (List Nat)) : Prop := Nms ns ∧ match d with
  | .most k => 1 ≤ k ∧ k < ns.length
  | .over s => (1/2 : Rat) ≤ s ∧ s < 1 ∧ s.den ≤ 999999
theorem nm_S {a : List Nat} (h : Nl a) : Pl.Nm (S a) := Pl.nm_of (fun c hc => h.2.2 c hc) h.1 h.2.1
theorem nl_of {a : List Nat} (h : Pl.Nm (S a)) : Nl a := ⟨by simpa [S] using h.1, by simpa [S] using h.2.1, fun c hc => h.2.2 c (by simpa [S] using hc)⟩
theorem nl_free {a : List Nat} (h : Nl a) : (32 : Nat) ∉ a := fun z => by have := h.2.2 32 z; omega
theorem sf_free32 (s : Rat) : (32 : Nat) ∉ Tx.sfL s := by
  have hd : ∀ n : Nat, (32 : Nat) ∉ TL.numL n := fun n => TL.numL_free (by decide)
  intro h
  unfold Tx.sfL Tx.tx at h
  rcases List.mem_append.mp h with h | h
  · split at h
    · rcases List.mem_cons.mp h with e | e
      · omega
      · exact hd _ e
    · exact hd _ h
  · split at h
    · cases h
    · rcases List.mem_cons.mp h with e | e
      · omega
      · exact hd _ e
theorem half_pos {s : Rat} (h : (1/2 : Rat) ≤ s) : 0 < s := Std.lt_of_lt_of_le (show (0 : Rat) < 1/2 by decide +kernel) h
theorem w_of {s : Rat} (h0 : (1/2 : Rat) ≤ s) (h1 : s < 1) (h : s.den ≤ 999999) : Tx.W (Tx.sfL s) s := by
  have a := Cm.num_pos (half_pos h0)
  have b := Cm.num_lt h1
  exact ⟨rfl, Nat.le_trans (Tx.len_of (k := 6) (by omega) (by decide)) (by decide), Nat.le_trans (Tx.len_of (k := 6) (by omega) (by decide)) (by decide)⟩
def w0 : Kd → List Nat
  | .most _ => [109, 111, 115, 116]
  | .over _ => [111, 118, 101, 114]
def w1 : Kd → List Nat
  | .most k => TL.numL k
  | .over s => Tx.sfL s
theorem shL_join {d : Kd} {ns : List (List Nat)} (hn : ns ≠ []) : shL d ns = TL.joinL [32] (w0 d :: w1 d :: [111, 102] :: ns) := by
  cases ns with
  | nil => exact absurd rfl hn
  | cons n r =>
    cases d with
    | most k =>
      show _ = [109, 111, 115, 116] ++ ([32] ++ (TL.numL k ++ ([32] ++ ([111, 102] ++ ([32] ++ TL.joinL [32] (n :: r))))))
      simp [shL]
    | over s =>
      show _ = [111, 118, 101, 114] ++ ([32] ++ (Tx.sfL s ++ ([32] ++ ([111, 102] ++ ([32] ++ TL.joinL [32] (n :: r))))))
      simp [shL]
theorem wr_shL {d : Kd} {ns : List (List Nat)} (h : Fine d ns) : Wr (shL d ns) d ns := by
  obtain ⟨hn, hd⟩ := h
  have ne : ns ≠ [] := fun e => by have := hn.1; rw [e] at this; simp at this
  refine ⟨w0 d, w1 d, ?_, hn, ?_⟩
  · rw [shL_join ne]
    refine TL.spl_join (s := 32) (S := []) (List.cons_ne_nil _ _) fun p hp => ?_
    rcases List.mem_cons.mp hp with e | hp
    · rw [e]; cases d <;> simp [w0]
    rcases List.mem_cons.mp hp with e | hp
    · rw [e]
      cases d with
      | most k => exact TL.numL_free (by decide)
      | over s => exact sf_free32 s
    rcases List.mem_cons.mp hp with e | hp
    · rw [e]; decide
    · exact nl_free (hn.2.2.1 p hp)
  · cases d with
    | most k =>
      obtain ⟨k1, k2⟩ := hd
      have l6 := hn.2.1
      have ln : (TL.numL k).length ≤ 60 := Nat.le_trans (Tx.len_of (k := 6) (by omega) (by decide)) (by decide)
      have pt := Tx.num_part ln
      refine ⟨rfl, ⟨TL.numL_ne k, TL.numL_digits k, ?_⟩, Tx.val_num k, k1, k2⟩
      by_cases e : (TL.numL k).head? = some 48
      · exact .inl (pt.2 e)
      · exact .inr e
    | over s => exact ⟨rfl, w_of hd.1 hd.2.1 hd.2.2, hd⟩
theorem shL_len {d : Kd} {ns : List (List Nat)} (h : Fine d ns) : (shL d ns).length ≤ 600 := by
  obtain ⟨hn, hd⟩ := h
  have jl : ∀ (l : List (List Nat)), (∀ z ∈ l, z.length ≤ 8) → (TL.joinL [32] l).length ≤ 9 * l.length := by
    intro l
    induction l with
    | nil => intro _; exact Nat.zero_le _
    | cons z r ih =>
      intro h
      have h1 := h z (List.mem_cons_self ..)
      have h2 := ih fun y hy => h y (List.mem_cons_of_mem _ hy)
      cases r with
      | nil => show z.length ≤ _; simp; omega
      | cons y r =>
        show (z ++ ([32] ++ TL.joinL [32] (y :: r))).length ≤ _
        simp only [List.length_append, List.length_cons, List.length_nil] at h2 ⊢
        omega
  have j := jl ns fun z hz => (hn.2.2.1 z hz).2.1
  have l6 := hn.2.1
  cases d with
  | most k =>
    have ln : (TL.numL k).length ≤ 6 := Tx.len_of (k := 6) (by have := hd.2; omega) (by decide)
    simp [shL]
    omega
  | over s =>
    have w := w_of hd.1 hd.2.1 hd.2.2
    have e : (Tx.sfL s).length ≤ 130 := by
      have := w.2.1
      have := w.2.2
      unfold Tx.sfL Tx.tx
      split <;> split <;> simp <;> omega
    simp [shL]
    omega
theorem good_con {d : Kd} {ns : List (List Nat)} (h : Fine d ns) : Co.Good (ns.map S) (con d ns) := by
  cases d with
  | most k => exact .inl ⟨k, rfl, h.2.1, by rw [List.length_map]; exact h.2.2⟩
  | over s =>
    obtain ⟨_, h0, h1, hd⟩ := h
    have a := Cm.num_pos (half_pos h0)
    have b := Cm.num_lt h1
    refine .inr ⟨s, rfl, half_pos h0, h1, ?_, ⟨by show _ < 1048576; omega, by show _ < 1048576; omega⟩⟩
    have := (Rat.le_iff (1/2) s).mp h0
    rw [Cm.half_num, Cm.half_den] at this
    omega
theorem joinL_len : ∀ (l : List (List Nat)), (∀ z ∈ l, z.length ≤ 8) → (TL.joinL [32] l).length ≤ 9 * l.length := by
  intro l
  induction l with
  | nil => intro _; exact Nat.zero_le _
  | cons z r ih =>
    intro h
    have h1 := h z (List.mem_cons_self ..)
    have h2 := ih fun y hy => h y (List.mem_cons_of_mem _ hy)
    cases r with
    | nil => show z.length ≤ _; simp; omega
    | cons y r =>
      show (z ++ ([32] ++ TL.joinL [32] (y :: r))).length ≤ _
      simp only [List.length_append, List.length_cons, List.length_nil] at h2 ⊢
      omega
theorem sum_len : ∀ (l : List (List Nat)), (∀ z ∈ l, z.length ≤ 8) → ((l.map S).map (·.length)).sum ≤ 8 * l.length := by
  intro l
  induction l with
  | nil => intro _; exact Nat.zero_le _
  | cons z r ih =>
    intro h
    have h1 := h z (List.mem_cons_self ..)
    have h2 := ih fun y hy => h y (List.mem_cons_of_mem _ hy)
    rw [List.map_cons, List.map_cons, List.sum_cons, S_len, List.length_cons]
    omega
theorem take_fit {zs : List (List Nat)} {k : Nat} (nd : (zs.map S).Nodup) (h : k ≤ zs.length) : Co.fit (zs.map S) k ((zs.map S).take k) := ⟨by rw [List.length_take, List.length_map]; omega, Co.sub_filter (List.take_sublist _ _) nd⟩
end Kt
/-! texts of contests, read word by word -/
namespace Kt
open PySem PySem.Spec PyProof.Rows L2 Gx SX
theorem cnt_num : ∀ (k : Nat) {a : List Nat}, a.length ≤ k → Cnt a → a = TL.numL (Tx.val a)
  | 0, a, h, p => absurd (List.length_eq_zero_iff.mp (by omega)) p.1
  | k + 1, a, h, ⟨h1, h3, h4⟩ => by
    obtain ⟨l, c, rfl⟩ : ∃ l c, a = l ++ [c] := ⟨a.dropLast, a.getLast h1, (List.dropLast_concat_getLast _).symm⟩
    have hc := h3 c (by simp)
    rw [Tx.val_snoc]
    cases l with
    | nil =>
      show [c] = TL.numL (0 * 10 + (c - 48))
      rw [TL.numL_lt (by omega)]
      congr 1
      omega
    | cons d r =>
      have hd : d ≠ 48 := fun e => by
        rcases h4 with h4 | h4
        · simp at h4
        · exact h4 (by simp [e])
      have hp : Cnt (d :: r) := ⟨by simp, fun x hx => h3 x (List.mem_append_left _ hx), .inr fun e => hd (Option.some.inj e)⟩
      have ih := cnt_num k (a := d :: r) (by simp at h ⊢; omega) hp
      have v1 : Tx.val (d :: r) ≠ 0 := fun e => by
        rw [e, TL.numL_lt (by decide)] at ih
        exact hd (List.cons.inj ih).1
      rw [TL.numL_step (by omega)]
      rw [show (Tx.val (d :: r) * 10 + (c - 48)) / 10 = Tx.val (d :: r) by omega, show (Tx.val (d :: r) * 10 + (c - 48)) % 10 = c - 48 by omega, ← ih, show 48 + (c - 48) = c by omega]
theorem cnt_numL {n : Nat} (h : n < 10 ^ 60) : Cnt (TL.numL n) := by
  have pt := Tx.num_part (Tx.len_of (k := 60) h (by decide))
  refine ⟨TL.numL_ne n, TL.numL_digits n, ?_⟩
  by_cases e : (TL.numL n).head? = some 48
  · exact .inl (pt.2 e)
  · exact .inr e
/-- a share of a contest -/
def Shr (a : List Nat) : Prop := ∃ s, Tx.W a s ∧ (1/2 : Rat) ≤ s ∧ s < 1 ∧ s.den ≤ 999999
theorem shr_iff {a : List Nat} : Shr a ↔ ∃ f g, TL.spl [47] 0 [] a = [f, g] ∧ Cnt f ∧ Cnt g ∧ 0 < Tx.val f ∧ Tx.val f < Tx.val g ∧ Tx.val g ≤ 999999 ∧ Tx.val g ≤ 2 * Tx.val f ∧ Nat.gcd (Tx.val f) (Tx.val g) = 1 := by
  constructor
  · rintro ⟨s, w, h0, h1, hd⟩
    have np := Cm.num_pos (half_pos h0)
    have nl := Cm.num_lt h1
    have d1 : s.den ≠ 1 := fun e => by omega
    have e := Tx.spl_sf s
    rw [← w.1, if_neg d1] at e
    have et : Tx.tx s.num = TL.numL s.num.natAbs := by
      unfold Tx.tx
      rw [if_neg (by omega)]
    have hh := (Rat.le_iff (1/2) s).mp h0
    rw [Cm.half_num, Cm.half_den] at hh
    refine ⟨_, _, e, ?_, cnt_numL (by omega), ?_⟩
    · rw [et]
      exact cnt_numL (by omega)
    · rw [et, Tx.val_num, Tx.val_num]
      exact ⟨by omega, by omega, hd, by omega, s.reduced⟩
  · rintro ⟨f, g, e, cf, cg, v0, v1, v2, v3, hg⟩
    have ef := cnt_num _ (Nat.le_refl _) cf
    have eg := cnt_num _ (Nat.le_refl _) cg
    have ea : a = f ++ 47 :: g := by
      have := (Tx.spl_back a []).1
      rw [e] at this
      exact this.symm
    have lf : (TL.numL (Tx.val f)).length ≤ 60 := Nat.le_trans (Tx.len_of (k := 6) (by omega) (by decide)) (by decide)
    have lg : (TL.numL (Tx.val g)).length ≤ 60 := Nat.le_trans (Tx.len_of (k := 6) (by omega) (by decide)) (by decide)
    have gc : Int.gcd (Tx.val f : Int) (Tx.val g : Int) = 1 := hg
    have z := Tx.of_gcd (n := (Tx.val f : Int)) (d := (Tx.val g : Int)) (by omega) gc
    have et : Tx.tx (Tx.val f : Int) = f := by
      unfold Tx.tx
      rw [if_neg (by omega)]
      exact ef.symm
    refine ⟨_, Tx.w_parts (n := (Tx.val f : Int)) (d := Tx.val g) (by rw [et]; exact ea) eg lf lg (by omega) gc, ?_, ?_, by omega⟩
    · rw [Rat.le_iff, Cm.half_num, Cm.half_den, z.1]
      omega
    · rw [Rat.lt_iff, z.1]
      show (Tx.val f : Int) * 1 < 1 * _
      omega
theorem spl_backc (s : Nat) : ∀ (l acc : List Nat), TL.joinL [s] (TL.spl [s] 0 acc l) = acc ++ l
  | [], acc => by rw [TL.spl_nil]; simp [TL.joinL]
  | c :: r, acc => by
    by_cases h : c = s
    · subst h
      rw [TL.spl_hit (by simp [TL.pre])]
      have h1 := spl_backc c r []
      have e : TL.spl [c] ([c].length - 1) [] r = TL.spl [c] 0 [] r := rfl
      rw [e]
      cases q : TL.spl [c] 0 [] r with
      | nil => exact absurd q (Tx.spl_ne _ _ _ _)
      | cons x y =>
        rw [q] at h1
        show acc ++ ([c] ++ TL.joinL [c] (x :: y)) = _
        rw [h1]
        simp
    · rw [TL.spl_miss (TL.pre_of_head [] r h)]
      rw [spl_backc s r (acc ++ [c])]
      simp
theorem spl_free (s : Nat) : ∀ (l acc : List Nat), s ∉ acc → ∀ p ∈ TL.spl [s] 0 acc l, s ∉ p
  | [], acc, h, p, hp => by
    rw [TL.spl_nil] at hp
    rw [List.mem_singleton.mp hp]
    simpa using h
  | c :: r, acc, h, p, hp => by
    by_cases e : c = s
    · subst e
      rw [TL.spl_hit (by simp [TL.pre])] at hp
      have e : TL.spl [c] ([c].length - 1) [] r = TL.spl [c] 0 [] r := rfl
      rw [e] at hp
      rcases List.mem_cons.mp hp with q | q
      · rw [q]; simpa using h
      · exact spl_free c r [] (by simp) p q
    · rw [TL.spl_miss (TL.pre_of_head [] r e)] at hp
      exact spl_free s r _ (by simp [h]; exact fun z => e z.symm) p hp
/-- a contest's text, as it is written -/
theorem wr_back {a : List Nat} {d : Kd} {ns : List (List Nat)} (h : Wr a d ns) : shL d ns = a := by
  obtain ⟨x0, x1, e, nms, h⟩ := h
  have ne : ns ≠ [] := fun z => by have := nms.1; rw [z] at this; simp at this
  have b := spl_backc 32 a []
  rw [e, List.nil_append] at b
  rw [shL_join ne, ← b]
  cases d with
  | most k =>
    obtain ⟨h0, h1, h2, _⟩ := h
    rw [h0, show w1 (.most k) = x1 by rw [cnt_num _ (Nat.le_refl _) h1, h2]; rfl]
    rfl
  | over s =>
    obtain ⟨h0, h1, _⟩ := h
    rw [h0, show w1 (.over s) = x1 from h1.1.symm]
    rfl
/-- what a contest's text is, by its words -/
theorem wr_iff {a : List Nat} : (∃ d ns, Wr a d ns) ↔ ∃ x0 x1 ns, TL.spl [32] 0 [] a = x0 :: x1 :: [111, 102] :: ns ∧ Nms ns ∧ ((x0 = [109, 111, 115, 116] ∧ Cnt x1 ∧ 1 ≤ Tx.val x1 ∧ Tx.val x1 < ns.length) ∨ (x0 = [111, 118, 101, 114] ∧ Shr x1)) := by
  constructor
  · rintro ⟨d, ns, x0, x1, e, n, h⟩
    refine ⟨x0, x1, ns, e, n, ?_⟩
    cases d with
    | most k => obtain ⟨h1, h2, h3, h4, h5⟩ := h; exact .inl ⟨h1, h2, by rw [h3]; exact h4, by rw [h3]; exact h5⟩
    | over s => exact .inr ⟨h.1, s, h.2⟩
  · rintro ⟨x0, x1, ns, e, n, h | h⟩
    · exact ⟨.most (Tx.val x1), ns, x0, x1, e, n, h.1, h.2.1, rfl, h.2.2.1, h.2.2.2⟩
    · obtain ⟨h0, s, h⟩ := h
      exact ⟨.over s, ns, x0, x1, e, n, h0, h⟩
/-! how long words are together -/
def tot (ws : List (List Nat)) : Nat := (ws.map (·.length + 1)).sum
theorem tot_cons (w : List Nat) (ws : List (List Nat)) : tot (w :: ws) = w.length + 1 + tot ws := rfl
theorem tot_append (u v : List (List Nat)) : tot (u ++ v) = tot u + tot v := by simp [tot]
theorem join_tot (s : Nat) : ∀ ws : List (List Nat), (TL.joinL [s] ws).length ≤ tot ws
  | [] => Nat.zero_le _
  | [w] => by show w.length ≤ _; rw [tot_cons]; omega
  | w :: v :: r => by
    have := join_tot s (v :: r)
    show (w ++ ([s] ++ TL.joinL [s] (v :: r))).length ≤ _
    rw [tot_cons, List.length_append, List.length_append]
    simp only [List.length_cons, List.length_nil]
    omega
theorem tot_spl (s : Nat) : ∀ (l acc : List Nat), tot (TL.spl [s] 0 acc l) = acc.length + l.length + 1
  | [], acc => by rw [TL.spl_nil]; simp [tot]
  | c :: r, acc => by
    by_cases e : c = s
    · subst e
      rw [TL.spl_hit (by simp [TL.pre])]
      have e : TL.spl [c] ([c].length - 1) [] r = TL.spl [c] 0 [] r := rfl
      rw [e, tot_cons, tot_spl c r []]
      simp
      omega
    · rw [TL.spl_miss (TL.pre_of_head [] r e), tot_spl s r]
      simp
      omega
theorem tot_erase : ∀ (ws : List (List Nat)) (j : Nat), tot (ws.eraseIdx j) ≤ tot ws
  | [], _ => Nat.le_refl _
  | w :: r, 0 => by rw [List.eraseIdx_cons_zero, tot_cons]; omega
  | w :: r, j + 1 => by rw [List.eraseIdx_cons_succ, tot_cons, tot_cons]; have := tot_erase r j; omega
theorem tot_ins (ws : List (List Nat)) (j : Nat) (y : List Nat) : tot (ws.take j ++ [y] ++ ws.drop j) = tot ws + y.length + 1 := by
  have := congrArg tot (List.take_append_drop j ws)
  rw [tot_append] at this
  rw [tot_append, tot_append]
  show _ + (y.length + 1 + 0) + _ = _
  omega
theorem tot_set : ∀ (ws : List (List Nat)) (j : Nat) (y : List Nat), tot (ws.set j y) ≤ tot ws + y.length + 1
  | [], _, _ => by simp [tot]
  | w :: r, 0, y => by rw [List.set_cons_zero, tot_cons, tot_cons]; omega
  | w :: r, j + 1, y => by rw [List.set_cons_succ, tot_cons, tot_cons]; have := tot_set r j y; omega
theorem mem_tot : ∀ {ws : List (List Nat)} {y : List Nat}, y ∈ ws → y.length + 1 ≤ tot ws
  | w :: r, y, h => by
    rw [tot_cons]
    rcases List.mem_cons.mp h with e | e
    · rw [e]; omega
    · have := mem_tot e; omega
theorem len_tot : ∀ ws : List (List Nat), ws.length ≤ tot ws
  | [] => Nat.le_refl _
  | w :: r => by rw [tot_cons, List.length_cons]; have := len_tot r; omega
theorem sum_tot : ∀ ws : List (List Nat), ((ws.map S).map (·.length)).sum ≤ tot ws
  | [] => Nat.le_refl _
  | w :: r => by
    rw [tot_cons, List.map_cons, List.map_cons, List.sum_cons, S_len]
    have := sum_tot r
    omega
end Kt
namespace Lw
open PySem PySem.Spec PyProof.Rows L2 Gx
abbrev sp_NoText___init__ (K : PySem.W.Frag) : Sp := spXI (He.ga K "NoText") "row"
def sp_is_whole (K : PySem.W.Frag) : Sp := fun vs H Q _ => ∃ (x : V) (t : Value) (b1 b2 : Bool), vs = [x] ∧ TyX K H x t ∧ PySem.W.kitOne K t (.type "int") = some b1 ∧ PySem.W.kitOne K t (.type "bool") = some b2 ∧ Q (.bl (b1 && !b2)) H
theorem isw_int {K : PySem.W.Frag} {H : Hp} {Q : VK} {E : XK} {i : Int} (q : Q (.bl true) H) : sp_is_whole K [.int i] H Q E := ⟨_, .type "int", true, false, rfl, .base (.int i), kit_ty (by decide +kernel), kit_ty (by decide +kernel), q⟩
theorem isw_w {K : PySem.W.Frag} {H : Hp} {Q : VK} {E : XK} {x : V} {b : Bool} (h : Whole K H x b) (q : Q (.bl b) H) : sp_is_whole K [x] H Q E := by
  obtain ⟨t, b1, b2, ht, h1, h2, rfl⟩ := h
  exact ⟨x, t, b1, b2, rfl, ht, h1, h2, q⟩
def sp_in_common (K : PySem.W.Frag) : Sp := fun vs H Q _ => ∃ (a b : Int), vs = [.int a, .int b] ∧ Q (.int (Int.gcd a b : Int)) H
def sp_below (K : PySem.W.Frag) : Sp := fun vs H Q _ => ∃ (p q : Addr) (x y : Rat) (m n : Nat), vs = [.ref p, .ref q] ∧ SqT K H p (Fr.fq x) ∧ SqT K H q (Fr.fq y) ∧ Fr.Sz m x ∧ Fr.Sz n y ∧ m + n ≤ 134217728 ∧ Q (.bl (decide (x < y))) H
def sp_is_fraction (K : PySem.W.Frag) : Sp := fun vs H Q _ => ∃ (x : V) (b : Bool), vs = [x] ∧ IsF K H x b ∧ Q (.bl b) H
def sp_shown_fraction (K : PySem.W.Frag) : Sp := fun vs H Q _ => ∃ (p : Addr) (s : Rat) (n : Nat), vs = [.ref p] ∧ SqT K H p (Fr.fq s) ∧ Fr.Sz n s ∧ n ≤ 1900 ∧ Q (.str (Cm.sf s)) H
def sp_number_by (K : PySem.W.Frag) : Sp := fun vs H Q E => ∃ (a : List Nat), vs = [.str (SX.S a)] ∧ a.length ≤ 100000 ∧ (Tx.Figs a → ∀ H', Same H H' → Q (.int ((Tx.val a : Nat) : Int)) H') ∧
  (¬ Tx.Figs a → ∀ d H', Same H H' → H' d = some (.xd [("row", .non)]) → E (.ref (He.ga K "NoText")) (some d) H')
def sp_read_fraction (K : PySem.W.Frag) : Sp := fun vs H Q E => ∃ (v : V), vs = [v] ∧
  ((∃ a, v = .str (SX.S a) ∧ a.length ≤ 100000 ∧ (∀ s, Tx.W a s → ∀ p H', Same H H' → SqT K H' p (Fr.fq s) → Q (.ref p) H') ∧ ((¬ ∃ s, Tx.W a s) → ∀ d H', Same H H' → H' d = some (.xd [("row", .non)]) → E (.ref (He.ga K "NoText")) (some d) H')) ∨
  (∃ t, TyX K H v t ∧ PySem.W.kitOne K t (.type "str") = some false ∧ ∀ d H', Same H H' → H' d = some (.xd [("row", .non)]) → E (.ref (He.ga K "NoText")) (some d) H'))
def sp_Contest___init__ (K : PySem.W.Frag) : Sp := fun vs H Q _ => ∃ (a C dx : Addr) (u : V), vs = [.ref a, u] ∧ H a = some (.ins C dx []) ∧ Cls K C ∧ NoAttr K C "names" ∧ ∀ H', But a H H' → H' a = some (.ins C dx [("names", u)]) → Q .non H'
def sp_Contest_named (K : PySem.W.Frag) : Sp := fun vs H Q _ => ∃ (a C dx : Addr) (fs : List (Str × V)) (v : V), vs = [.ref a] ∧ H a = some (.ins C dx fs) ∧ Cls K C ∧ NoAttr K C "names" ∧ fs.lookup ("names" : Str) = some v ∧ Q v H
def sp_Most___init__ (K : PySem.W.Frag) : Sp := fun vs H Q _ => ∃ (a dx : Addr) (u0 u1 : V), vs = [.ref a, u0, u1] ∧ H a = some (.ins (He.ga K "Most") dx []) ∧ ∀ H', But a H H' → H' a = some (.ins (He.ga K "Most") dx [("names", u0), ("seats", u1)]) → Q .non H'
def sp_Portion___init__ (K : PySem.W.Frag) : Sp := fun vs H Q _ => ∃ (a dx : Addr) (u0 u1 : V), vs = [.ref a, u0, u1] ∧ H a = some (.ins (He.ga K "Portion") dx []) ∧ ∀ H', But a H H' → H' a = some (.ins (He.ga K "Portion") dx [("names", u0), ("share", u1)]) → Q .non H'
def sp_is_name (K : PySem.W.Frag) : Sp := fun vs H Q _ => ∃ (a : List Nat), vs = [.str (SX.S a)] ∧ a.length ≤ 100000 ∧ ∀ H', Same H H' → Q (.bl (decide (Kt.Nl a))) H'
def sp_is_count (K : PySem.W.Frag) : Sp := fun vs H Q _ => ∃ (a : List Nat), vs = [.str (SX.S a)] ∧ a.length ≤ 100000 ∧ ∀ H', Same H H' → Q (.bl (decide (Kt.Cnt a))) H'
def sp_are_names (K : PySem.W.Frag) : Sp := fun vs H Q _ => ∃ (l : Addr) (ns : List (List Nat)), vs = [.ref l] ∧ SqL K H l (ns.map fun z => V.str (SX.S z)) ∧ (∀ z ∈ ns, z.length ≤ 100000) ∧ ∀ H', Same H H' → Q (.bl (decide (Kt.Nms ns))) H'
def sp_shown_contest (K : PySem.W.Frag) : Sp := fun vs H Q _ => ∃ (x : Addr) (d : Kt.Kd) (ns : List (List Nat)), vs = [.ref x] ∧ Kt.ConAt K H x d ns ∧ ns.length ≤ 60 ∧ (∀ z ∈ ns, z.length ≤ 600) ∧ (match d with | .most k => k ≤ 100000 | .over s => Fr.Sz 1900 s) ∧ Q (.str (SX.S (Kt.shL d ns))) H
def sp_read_most (K : PySem.W.Frag) : Sp := fun vs H Q E => ∃ (a : List Nat) (p : Addr) (ns : List (List Nat)), vs = [.str (SX.S a), .ref p] ∧ a.length ≤ 600 ∧ SqT K H p (ns.map fun z => V.str (SX.S z)) ∧
  (Kt.Cnt a ∧ 1 ≤ Tx.val a ∧ Tx.val a < ns.length → ∀ x H', Same H H' → Kt.ConAt K H' x (.most (Tx.val a)) ns → Q (.ref x) H') ∧
  (¬ (Kt.Cnt a ∧ 1 ≤ Tx.val a ∧ Tx.val a < ns.length) → ∀ d H', Same H H' → H' d = some (.xd [("row", .non)]) → E (.ref (He.ga K "NoText")) (some d) H')
def sp_read_portion (K : PySem.W.Frag) : Sp := fun vs H Q E => ∃ (a : List Nat) (p : Addr) (ns : List (List Nat)), vs = [.str (SX.S a), .ref p] ∧ a.length ≤ 600 ∧ SqT K H p (ns.map fun z => V.str (SX.S z)) ∧
  (∀ s, Tx.W a s → (1/2 : Rat) ≤ s → s < 1 → s.den ≤ 999999 → ∀ x H', Same H H' → Kt.ConAt K H' x (.over s) ns → Q (.ref x) H') ∧
  ((¬ ∃ s, Tx.W a s ∧ (1/2 : Rat) ≤ s ∧ s < 1 ∧ s.den ≤ 999999) → ∀ d H', Same H H' → H' d = some (.xd [("row", .non)]) → E (.ref (He.ga K "NoText")) (some d) H')
def sp_read_contest (K : PySem.W.Frag) : Sp := fun vs H Q E => ∃ (v : V), vs = [v] ∧
  ((∃ a, v = .str (SX.S a) ∧ a.length ≤ 600 ∧ (∀ d ns, Kt.Wr a d ns → ∀ x H', Same H H' → Kt.ConAt K H' x d ns → Q (.ref x) H') ∧ ((¬ ∃ d ns, Kt.Wr a d ns) → ∀ d H', Same H H' → H' d = some (.xd [("row", .non)]) → E (.ref (He.ga K "NoText")) (some d) H')) ∨
  (∃ t, TyX K H v t ∧ PySem.W.kitOne K t (.type "str") = some false ∧ ∀ d H', Same H H' → H' d = some (.xd [("row", .non)]) → E (.ref (He.ga K "NoText")) (some d) H'))
def sp__law_source (K : PySem.W.Frag) : Sp := fun vs H Q _ => ∃ (a : Addr) (ns : List Int), vs = [.ref a] ∧ SqL K H a (ns.map V.int) ∧ ns.length ≤ 63 ∧
  ∀ (l : Addr) (cs : List Int) H', Same H H' → H l = none → H' l = some (.lst (cs.map V.int)) → Sr.Src cs → Q (.ref l) H'
def sp__law_draw (K : PySem.W.Frag) : Sp := fun vs H Q _ => ∃ (l : Addr) (cs : List Int) (m : Int), vs = [.ref l, .int m] ∧ H l = some (.lst (cs.map V.int)) ∧ Sr.Src cs ∧ 1 ≤ m ∧ m < 2 ^ 64 ∧
  ∀ (r : Int) (cs' : List Int) H', But l H H' → H' l = some (.lst (cs'.map V.int)) → Sr.Src cs' → 0 ≤ r → r < m → Q (.int r) H'
def sp__law_unlike (K : PySem.W.Frag) : Sp := fun vs H Q _ => ∃ (l : Addr) (cs : List Int) (m : Nat), vs = [.ref l, .int (m : Int)] ∧ H l = some (.lst (cs.map V.int)) ∧ Sr.Src cs ∧ 2 ≤ m ∧ m ≤ 9 ∧
  ∀ (q : Addr) (ns : List Str) (cs' : List Int) H', But l H H' → H' l = some (.lst (cs'.map V.int)) → Sr.Src cs' → H q = none → H' q = some (.lst (ns.map V.str)) → ns.length = m → ns.Nodup → (∀ s ∈ ns, Pl.Nm s) → Q (.ref q) H'
def sp__law_lowest (K : PySem.W.Frag) : Sp := fun vs H Q _ => ∃ (a b : Int), vs = [.int a, .int b] ∧ 0 < b ∧ Okd a b ∧ ∀ p H', Same H H' → H p = none → SqT K H' p (Fr.fq (Rat.divInt a b)) → Q (.ref p) H'
def sp__law_half (K : PySem.W.Frag) : Sp := fun vs H Q _ => ∃ (l : Addr) (cs : List Int), vs = [.ref l] ∧ H l = some (.lst (cs.map V.int)) ∧ Sr.Src cs ∧
  ∀ (q : Addr) (s : Rat) (part whole : Int) (cs' : List Int) H', But l H H' → H' l = some (.lst (cs'.map V.int)) → Sr.Src cs' → H q = none → SqT K H' q (Fr.fq s) → s = Rat.divInt part whole → 1 ≤ part → part < whole → whole ≤ 999999 → whole ≤ 2 * part → Q (.ref q) H'
def sp__law_is_name (K : PySem.W.Frag) : Sp := fun vs H Q _ => ∃ (a : List Nat), vs = [.str (SX.S a)] ∧ a.length ≤ 100000 ∧ ∀ H', Same H H' → Q (.bl (decide (Kt.Nl a))) H'
def sp__law_is_count (K : PySem.W.Frag) : Sp := fun vs H Q _ => ∃ (a : List Nat), vs = [.str (SX.S a)] ∧ a.length ≤ 100000 ∧ ∀ H', Same H H' → Q (.bl (decide (Kt.Cnt a))) H'
def sp__law_is_share (K : PySem.W.Frag) : Sp := fun vs H Q _ => ∃ (a : List Nat), vs = [.str (SX.S a)] ∧ a.length ≤ 600 ∧ ∀ b H', Same H H' → (b = true ↔ Kt.Shr a) → Q (.bl b) H'
def sp__law_is_contest (K : PySem.W.Frag) : Sp := fun vs H Q _ => ∃ (a : List Nat), vs = [.str (SX.S a)] ∧ a.length ≤ 600 ∧ ∀ b H', Same H H' → (b = true ↔ ∃ d ns, Kt.Wr a d ns) → Q (.bl b) H'
def sp__law_piece (K : PySem.W.Frag) : Sp := fun vs H Q _ => ∃ (l : Addr) (cs : List Int), vs = [.ref l] ∧ H l = some (.lst (cs.map V.int)) ∧ Sr.Src cs ∧
  ∀ (a : List Nat) (cs' : List Int) H', But l H H' → H' l = some (.lst (cs'.map V.int)) → Sr.Src cs' → a.length ≤ 20 → Q (.str (SX.S a)) H'
def BI (H : Hp) (l p : Addr) (a : List Nat) (ws0 : List (List Nat)) (j : Nat) (sp w : Int) (sg : Nat) (k : Int) : L2.St → Hp → Prop := fun σ H' => ∃ (ws : List (List Nat)) (cs : List Int) (t : Option V), σ = [some (.ref l), some (.str (SX.S a)), some (.ref p), some (.int (j : Int)), some (.int sp), some (.str (SX.S [sg])), some (.int w), t] ∧ H' p = some (.lst (ws.map fun z => V.str (SX.S z))) ∧ (k ≤ w → ws = ws0) ∧ Kt.tot ws ≤ 300 ∧ But l H H' ∧ H' l = some (.lst (cs.map V.int)) ∧ Sr.Src cs
theorem map_er {α β : Type} (f : α → β) : ∀ (l : List α) (i : Nat), (l.map f).eraseIdx i = (l.eraseIdx i).map f
  | [], _ => rfl
  | _ :: _, 0 => rfl
  | _ :: r, i + 1 => by simp only [List.map_cons, List.eraseIdx_cons_succ, map_er f r i]
theorem but_new {H H1 H2 : Hp} {l p : Addr} (np : H p = none) (b : But l H H1) (c : But p H1 H2) : But l H H2 := fun x o n h => c _ _ (fun z => by subst z; rw [np] at h; cases h) (b _ _ n h)
def sp__law_bent (K : PySem.W.Frag) : Sp := fun vs H Q _ => ∃ (l : Addr) (cs : List Int) (a : List Nat), vs = [.ref l, .str (SX.S a)] ∧ H l = some (.lst (cs.map V.int)) ∧ Sr.Src cs ∧ 1 ≤ a.length ∧ a.length ≤ 100 ∧
  ∀ (b : List Nat) (cs' : List Int) H', But l H H' → H' l = some (.lst (cs'.map V.int)) → Sr.Src cs' → b.length ≤ 600 → Q (.str (SX.S b)) H'
/-- what is told of a thing that is read: its contest, or a word -/
def sp__law_told (K : PySem.W.Frag) : Sp := fun vs H Q E => ∃ (v : V), vs = [v] ∧
  ((∃ a, v = .str (SX.S a) ∧ a.length ≤ 600 ∧ ((∃ d ns, Kt.Wr a d ns) → ∀ H', Same H H' → Q (.str (SX.S a)) H') ∧ ((¬ ∃ d ns, Kt.Wr a d ns) → ∀ H', Same H H' → Q (.str (Str.ofString "refused")) H')) ∨
  (∃ t, TyX K H v t ∧ PySem.W.kitOne K t (.type "str") = some false ∧ ∀ H', Same H H' → Q (.str (Str.ofString "refused")) H'))
def sp_law (K : PySem.W.Frag) : Sp := fun vs H Q _ => ∃ (a : Addr) (ns : List Int), vs = [.ref a] ∧ SqL K H a (ns.map V.int) ∧ ns.length ≤ 63 ∧ ∀ H', Q (.bl true) H'
end Lw
namespace Lw
open PySem PySem.Spec PyProof.Rows L2 Gx
section
variable {P : Program} {w : World} {K : PySem.W.Frag} {mg : Str → Option Value} {base : Heap} {f : Addr} {fd : FuncData}
theorem ok_NoText___init__ (F : FnP K "__init__" "NoText.__init__" s_NoText___init__ f fd) (T : Txt K mg) : FnOk P w K mg base (L2.CX P w) 1 f fd ["self", "row"] (sp_NoText___init__ K) := by
  refine F.ok sc_NoText___init__ (fun vs H Q E h => ?_) (fun cdv A outer s H vs Q E hr h => ?_)
  · obtain ⟨a, v, rfl, _⟩ := h; rfl
  · refine ⟨_, (pss_cons (ps_expr (pe_svinit T.s_SureError rfl T.g_SureError (pa_cons (pv 0) (pa_cons pe_str pa_nil)))) (pss_one (ps_ost (pv 0) (pv 1)))), ?_⟩
    obtain ⟨a, v, rfl, h1, k⟩ := h
    walk_at "go"
    refine k_veIx T.o_NoText h1 ?_ (by simp)
    walk_at "go"
    refine k_ostx T.o_NoText T.f_NoText_row h1 (fun d hd hda => ?_)
    exact k d hd hda
end
end Lw
namespace Lw
open PySem PySem.Spec PyProof.Rows L2 Gx
section
variable {P : Program} {w : World} {K : PySem.W.Frag} {mg : Str → Option Value} {base : Heap} {f : Addr} {fd : FuncData}
theorem ok_is_whole (F : FnP K "is_whole" "is_whole" s_is_whole f fd) (T : Txt K mg) : FnOk P w K mg base (L2.CX P w) 1 f fd ["thing"] (sp_is_whole K) := by
  refine F.ok sc_is_whole (fun vs H Q E h => ?_) (fun cdv A outer s H vs Q E hr h => ?_)
  · obtain ⟨x, t, b1, b2, rfl, _⟩ := h; rfl
  · refine ⟨_, (pss_one (ps_ret (pe_and (pe_callB (callK (K := K) (r := rIsi) rfl call_isi) (by rfl) T.n_isinstance (by decide +kernel) (pa_cons (pv 0) (pa_cons (pe_bltn (v := .ty "int") (by rfl) T.n_int (by decide +kernel) rfl) pa_nil))) (pe_one (pe_not (pe_callB (callK (K := K) (r := rIsi) rfl call_isi) (by rfl) T.n_isinstance (by decide +kernel) (pa_cons (pv 0) (pa_cons (pe_bltn (v := .ty "bool") (by rfl) T.n_bool (by decide +kernel) rfl) pa_nil)))))))), ?_⟩
    obtain ⟨x, t, b1, b2, rfl, ht, h1, h2, k⟩ := h
    walk_at "go"
    refine k_isi (.ty "int") ht h1 ?_
    walk_at "go"
    cases b1 with
    | false => walk_at "go"; exact k
    | true =>
      walk_at "go"
      refine k_isi (.ty "bool") ht h2 ?_
      walk_at "go"
      exact k
end
end Lw
namespace Lw
open PySem PySem.Spec PyProof.Rows L2 Gx
section
variable {P : Program} {w : World} {K : PySem.W.Frag} {mg : Str → Option Value} {base : Heap} {f : Addr} {fd : FuncData}
theorem ok_in_common (F : FnP K "in_common" "in_common" s_in_common f fd) (T : Txt K mg) : FnOk P w K mg base (L2.CX P w) 1 f fd ["a", "b"] (sp_in_common K) := by
  refine F.ok sc_in_common (fun vs H Q E h => ?_) (fun cdv A outer s H vs Q E hr h => ?_)
  · obtain ⟨a, b, rfl, _⟩ := h; rfl
  · refine ⟨_, (pss_cons (ps_set (i := 0) sc_in_common.nd rfl (Or.inl rfl) (pe_callB call_absU (by rfl) T.n_abs (by decide +kernel) (pa_cons (pv 0) pa_nil))) (pss_cons (ps_set (i := 1) sc_in_common.nd rfl (Or.inl rfl) (pe_callB call_absU (by rfl) T.n_abs (by decide +kernel) (pa_cons (pv 1) pa_nil))) (pss_cons (ps_while (passes_of rfl) (pt_cmpR op_gt (pv 1) pe_int (nomark _)) (pss_one (ps_par (i := 0) (j := 1) (by rfl) sc_in_common.nd rfl rfl (by decide) rfl rfl (pa_cons (pv 1) (pa_cons (pe_op op_modN (pv 0) (pv 1)) pa_nil)) (by rfl)))) (pss_one (ps_ret (pv 0)))))), ?_⟩
    obtain ⟨a, b, rfl, kk⟩ := h
    walk_at "go"
    refine k_while (fun m σ H' => H' = H ∧ ∃ x : Nat, σ = [some (.int (x : Int)), some (.int (m : Int))] ∧ Nat.gcd x m = Int.gcd a b) b.natAbs ⟨rfl, a.natAbs, rfl, rfl⟩ ?_
    rintro m σ H' ⟨rfl, x, rfl, e⟩
    walk_at "go"
    refine k_if (fun c => ?_) (fun c => ?_)
    · refine k_wN ?_
      walk_at "go"
      refine ⟨x % m, Nat.mod_lt _ (by omega), rfl, m, rfl, ?_⟩
      rw [← e, Nat.gcd_comm m, ← Nat.gcd_rec, Nat.gcd_comm]
    · obtain rfl : m = 0 := by omega
      walk_at "go"
      rw [Nat.gcd_zero_right] at e
      rw [e]
      exact kk
end
end Lw
namespace Lw
open PySem PySem.Spec PyProof.Rows L2 Gx
section
variable {P : Program} {w : World} {K : PySem.W.Frag} {mg : Str → Option Value} {base : Heap} {f : Addr} {fd : FuncData}
theorem ok_below (F : FnP K "below" "below" s_below f fd) (T : Txt K mg) : FnOk P w K mg base (L2.CX P w) 1 f fd ["x", "y"] (sp_below K) := by
  refine F.ok sc_below (fun vs H Q E h => ?_) (fun cdv A outer s H vs Q E hr h => ?_)
  · obtain ⟨p, q, x, y, m, n, rfl, _⟩ := h; rfl
  · refine ⟨_, (pss_one (ps_ret (pe_cmpR op_lt (pe_op (op_mulK (K := K) rfl) (pe_ix (ix_K (K := K) rfl) (pv 0) pe_int (fun _ _ => rfl)) (pe_ix (ix_K (K := K) rfl) (pv 1) pe_int (fun _ _ => rfl))) (pe_op (op_mulK (K := K) rfl) (pe_ix (ix_K (K := K) rfl) (pv 1) pe_int (fun _ _ => rfl)) (pe_ix (ix_K (K := K) rfl) (pv 0) pe_int (fun _ _ => rfl))) (nomark _)))), ?_⟩
    obtain ⟨p, q, x, y, m, n, rfl, hp, hq, sx, sy, hmn, kk⟩ := h
    walk_at "go"
    refine k_ixT hp (v := .int x.num) rfl ?_
    walk_at "go"
    refine k_ixT hq (v := .int (y.den : Int)) rfl ?_
    walk_at "go"
    refine k_mulB sx.1 sy.den (by omega) ?_
    walk_at "go"
    refine k_ixT hq (v := .int y.num) rfl ?_
    walk_at "go"
    refine k_ixT hp (v := .int (x.den : Int)) rfl ?_
    walk_at "go"
    refine k_mulB sy.1 sx.den (by omega) ?_
    walk_at "go"
    have e : decide (x.num * (y.den : Int) < y.num * (x.den : Int)) = decide (x < y) := by
      by_cases c : x < y
      · rw [decide_eq_true c, decide_eq_true ((Rat.lt_iff x y).mp c)]
      · rw [decide_eq_false c, decide_eq_false (fun z => c ((Rat.lt_iff x y).mpr z))]
    rw [e]
    exact kk
end
end Lw
namespace Lw
open PySem PySem.Spec PyProof.Rows L2 Gx
section
variable {P : Program} {w : World} {K : PySem.W.Frag} {mg : Str → Option Value} {base : Heap} {f : Addr} {fd : FuncData}
theorem ok_is_fraction (F : FnP K "is_fraction" "is_fraction" s_is_fraction f fd) (T : Txt K mg) (c_in_common : Cl P w K mg base 1 "in_common" ["a", "b"] (sp_in_common K)) (c_is_whole : Cl P w K mg base 1 "is_whole" ["thing"] (sp_is_whole K)) : FnOk P w K mg base (L2.CX P w) 2 f fd ["thing"] (sp_is_fraction K) := by
  refine F.ok sc_is_fraction (fun vs H Q E h => ?_) (fun cdv A outer s H vs Q E hr h => ?_)
  · obtain ⟨x, b, rfl, _⟩ := h; rfl
  · refine ⟨_, (pss_cons (ps_if (PW.pt (pw_or (pt_not (pt_val (pe_callB (callK (K := K) (r := rIsi) rfl call_isi) (by rfl) T.n_isinstance (by decide +kernel) (pa_cons (pv 0) (pa_cons (pe_bltn (v := .ty "tuple") (by rfl) T.n_tuple (by decide +kernel) rfl) pa_nil))))) (pw_or (pt_cmpR (op_neK (K := K) rfl hr) (pe_callB (callK (K := K) (r := rLenU) rfl call_lenU) (by rfl) T.n_len (by decide +kernel) (pa_cons (pv 0) pa_nil)) pe_int (nomark _)) (pw_or (pt_not (pt_val (pcall c_is_whole hr (by first | decide | omega) (takes_of rfl rfl rfl rfl) (pa_cons (pe_ix (ix_K (K := K) rfl) (pv 0) pe_int (fun _ _ => rfl)) pa_nil)))) (pw_or1 (pt_not (pt_val (pcall c_is_whole hr (by first | decide | omega) (takes_of rfl rfl rfl rfl) (pa_cons (pe_ix (ix_K (K := K) rfl) (pv 0) pe_int (fun _ _ => rfl)) pa_nil))))))))) (pss_one (ps_ret pe_bl)) pss_nil) (pss_one (ps_ret (pe_and (pe_cmpR op_gt (pe_ix (ix_K (K := K) rfl) (pv 0) pe_int (fun _ _ => rfl)) pe_int (nomark _)) (pe_one (pe_cmpR (op_eqK (K := K) rfl hr) (pcall c_in_common hr (by first | decide | omega) (takes_of rfl rfl rfl rfl) (pa_cons (pe_ix (ix_K (K := K) rfl) (pv 0) pe_int (fun _ _ => rfl)) (pa_cons (pe_ix (ix_K (K := K) rfl) (pv 0) pe_int (fun _ _ => rfl)) pa_nil))) pe_int (nomark _))))))), ?_⟩
    obtain ⟨x, b, rfl, hx, k⟩ := h
    walk_at "go"
    cases hx with
    | kind ht hk =>
      refine k_isi (.ty "tuple") ht hk ?_
      walk_at "go"
      exact k
    | @len p xs h hl =>
      refine k_isi (.ty "tuple") (ty_tup h) (kit_ty (r := true) (by decide +kernel)) ?_
      walk_at "go"
      refine k_lenT ?_ h
      walk_at "go"
      refine k_ifn (fun c => ?_) (fun c => absurd (by omega) hl)
      walk_at "go"
      exact k
    | @parts p u v bu bv h hu hv hb =>
      refine k_isi (.ty "tuple") (ty_tup h) (kit_ty (r := true) (by decide +kernel)) ?_
      walk_at "go"
      refine k_lenT ?_ h
      walk_at "go"
      refine k_ifn (fun c => absurd rfl c) (fun c => ?_)
      walk_at "go"
      obtain ⟨tu, u1, u2, hu, hu1, hu2, rfl⟩ := hu
      obtain ⟨tv, v1, v2, hv, hv1, hv2, rfl⟩ := hv
      refine k_ixT h (v := u) rfl ?_
      walk_at "go"
      refine ⟨u, tu, u1, u2, rfl, hu, hu1, hu2, ?_⟩
      walk_at "go"
      refine k_ifnb (fun cu => ?_) (fun cu => ?_)
      · walk_at "go"
        exact k
      · walk_at "go"
        refine k_ixT h (v := v) rfl ?_
        walk_at "go"
        refine ⟨v, tv, v1, v2, rfl, hv, hv1, hv2, ?_⟩
        rw [cu, Bool.true_and] at hb
        rw [hb]
        walk_at "go"
        exact k
    | @whole p c d h =>
      refine k_isi (.ty "tuple") (ty_tup h) (kit_ty (r := true) (by decide +kernel)) ?_
      walk_at "go"
      refine k_lenT ?_ h
      walk_at "go"
      refine k_ifn (fun c9 => absurd rfl c9) (fun c9 => ?_)
      walk_at "go"
      refine k_ixT h (v := .int c) rfl ?_
      walk_at "go"
      refine isw_int ?_
      walk_at "go"
      refine k_ixT h (v := .int d) rfl ?_
      walk_at "go"
      refine isw_int ?_
      walk_at "go"
      refine k_ixT h (v := .int d) rfl ?_
      walk_at "go"
      refine k_if (fun c1 => ?_) (fun c1 => ?_)
      · walk_at "go"
        refine k_ixT h (v := .int c) rfl ?_
        walk_at "go"
        refine k_ixT h (v := .int d) rfl ?_
        walk_at "go"
        refine ⟨c, d, rfl, ?_⟩
        walk_at "go"
        rw [decide_eq_true (show 0 < d by omega), Bool.true_and] at k
        have e : decide ((Int.gcd c d : Int) = 1) = decide (Int.gcd c d = 1) := by
          by_cases z : Int.gcd c d = 1
          · rw [decide_eq_true z, decide_eq_true (by omega)]
          · rw [decide_eq_false z, decide_eq_false (by omega)]
        rw [e]
        exact k
      · walk_at "go"
        rw [decide_eq_false (show ¬ 0 < d by omega), Bool.false_and] at k
        exact k
end
end Lw
namespace Lw
open PySem PySem.Spec PyProof.Rows L2 Gx
section
variable {P : Program} {w : World} {K : PySem.W.Frag} {mg : Str → Option Value} {base : Heap} {f : Addr} {fd : FuncData}
theorem ok_shown_fraction (F : FnP K "shown_fraction" "shown_fraction" s_shown_fraction f fd) (T : Txt K mg) : FnOk P w K mg base (L2.CX P w) 1 f fd ["x"] (sp_shown_fraction K) := by
  refine F.ok sc_shown_fraction (fun vs H Q E h => ?_) (fun cdv A outer s H vs Q E hr h => ?_)
  · obtain ⟨p, s, n, rfl, _⟩ := h; rfl
  · refine ⟨_, (pss_cons (ps_if (pt_cmpR (op_eqK (K := K) rfl hr) (pe_ix (ix_K (K := K) rfl) (pv 0) pe_int (fun _ _ => rfl)) pe_int (nomark _)) (pss_one (ps_ret (pe_callTy call_strU (by rfl) T.n_str (by decide +kernel) (pa_cons (pe_ix (ix_K (K := K) rfl) (pv 0) pe_int (fun _ _ => rfl)) pa_nil)))) pss_nil) (pss_one (ps_ret (pe_op (op_addK (K := K) rfl) (pe_op (op_addK (K := K) rfl) (pe_callTy call_strU (by rfl) T.n_str (by decide +kernel) (pa_cons (pe_ix (ix_K (K := K) rfl) (pv 0) pe_int (fun _ _ => rfl)) pa_nil)) pe_str) (pe_callTy call_strU (by rfl) T.n_str (by decide +kernel) (pa_cons (pe_ix (ix_K (K := K) rfl) (pv 0) pe_int (fun _ _ => rfl)) pa_nil)))))), ?_⟩
    obtain ⟨p, s, n, rfl, hp, sz, hn, kk⟩ := h
    have l1 := Cm.log_lt sz.1 hn
    have l2 := Cm.log_lt (i := (s.den : Int)) sz.2 hn
    have t1 := Cm.T_len l1
    have t2 := Cm.T_len l2
    have ls : (Str.ofString "/").length = 1 := by decide +kernel
    walk_at "go"
    refine k_ixT hp (v := .int (s.den : Int)) rfl ?_
    walk_at "go"
    refine k_if (fun c => ?_) (fun c => ?_)
    · walk_at "go"
      refine k_ixT hp (v := .int s.num) rfl ?_
      walk_at "go"
      refine k_strI ?_ l1
      rw [show Cm.sf s = Cm.T s.num from if_pos (by omega)] at kk
      exact kk
    · walk_at "go"
      refine k_ixT hp (v := .int s.num) rfl ?_
      walk_at "go"
      refine k_strI ?_ l1
      walk_at "go"
      refine k_addS ?_ (by rw [sizeLine_eq, ls]; show (Cm.T s.num).length + 1 ≤ _; omega)
      walk_at "go"
      refine k_ixT hp (v := .int (s.den : Int)) rfl ?_
      walk_at "go"
      refine k_strI ?_ l2
      refine k_addS ?_ (by rw [sizeLine_eq, Str.length_append, ls]; show (Cm.T s.num).length + 1 + (Cm.T (s.den : Int)).length ≤ _; omega)
      rw [show Cm.sf s = Cm.T s.num ++ Str.ofString "/" ++ Cm.T (s.den : Int) from if_neg (by omega)] at kk
      exact kk
end
end Lw
namespace Lw
open PySem PySem.Spec PyProof.Rows L2 Gx
section
variable {P : Program} {w : World} {K : PySem.W.Frag} {mg : Str → Option Value} {base : Heap} {f : Addr} {fd : FuncData}
theorem ok_number_by (F : FnP K "number_by" "number_by" s_number_by f fd) (T : Txt K mg) (c_NoText___init__ : XCl P w K mg base 1 "NoText" ["self", "row"] (sp_NoText___init__ K)) : FnOk P w K mg base (L2.CX P w) 3 f fd ["word"] (sp_number_by K) := by
  refine F.ok sc_number_by (fun vs H Q E h => ?_) (fun cdv A outer s H vs Q E hr h => ?_)
  · obtain ⟨a, rfl, _⟩ := h; rfl
  · refine ⟨_, (pss_cons (ps_if (PW.pt (pw_or (pt_not (pt_chain op_le op_le pe_int (pe_callB (callK (K := K) (r := rLenU) rfl call_lenU) (by rfl) T.n_len (by decide +kernel) (pa_cons (pv 0) pa_nil)) (C8.pe_gc (by rfl) T.c_MOST_FIGURES))) (pw_or1 (pt_not (pt_val (pe_callB (callK (K := K) (r := rAll) rfl (cr_all rfl)) (by rfl) T.n_all (by decide +kernel) (pa_cons (pe_lc (own := [("sign", 1)]) (g := gName 1) (by rfl) sc_number_by.nd (pi_str (pv 0)) (blkOk_by (own := [("sign", 1)]) (N := ["word", "sign"]) (sc := defScope s_number_by) (by decide +kernel)) (fun _ _ _ _ _ => pg_name (i := 1) sc_number_by.nd rfl (Or.inl rfl)) (fun _ _ _ _ _ => pts_nil) (fun _ _ _ _ _ => (pe_cmpR (op_inUK (K := K) rfl hr) (pv 1) (C8.pe_gc (by rfl) T.c_FIGURES_figures) (by with_unfolding_all rfl)))) pa_nil))))))) (pss_one (ps_raise rfl (takes_of rfl rfl rfl rfl) (pmkOK (K := K) rfl c_NoText___init__ hr (by first | decide | omega) (pa_cons pe_non pa_nil)))) pss_nil) (pss_one (ps_ret (pe_callTy call_intU (by rfl) T.n_int (by decide +kernel) (pa_cons (pv 0) pa_nil))))), ?_⟩
    obtain ⟨a, rfl, hl, k1, k0⟩ := h
    walk_at "go"
    refine k_lenS ?_ (by rw [SX.S_len, sizeLine_eq]; omega)
    rw [SX.S_len]
    have bad : ∀ (c : ¬ Tx.Figs a) (H' : Hp), Same H H' → rMkO (He.ga K "NoText") (spXI (He.ga K "NoText") "row") [.non] H' fun cls d H2 => E cls d H2 := fun c H' s' => k_mkx (fun d H2 nd s2 hd => k0 c d H2 (s'.trans s2) hd)
    walk_at "go"
    refine k_if (fun c1 => ?_) (fun c1 => ?_)
    rotate_left
    · walk_at "go"
      exact bad (fun z => c1 (by have := z.1; omega)) H (Same.refl H)
    walk_at "go"
    refine k_ifn (fun c2 => ?_) (fun c2 => ?_)
    · walk_at "go"
      exact bad (fun z => c2 (by have := z.2.1; omega)) H (Same.refl H)
    walk_at "go"
    refine k_lcS (fun D i ys H' => ys = (a.take i).map (fun c => V.bl (decide (c ∈ ([48, 49, 50, 51, 52, 53, 54, 55, 56, 57] : List Nat)))) ∧ Same H H') (fun D H' nD sD hD => ⟨rfl, sD⟩) ?_ ?_
    · rintro D i c ys H' nD hc ⟨rfl, s⟩ hD
      refine k_lcB rfl ?_
      walk_at "go"
      rw [Tx.figures_S]
      refine k_inC ?_
      refine ⟨_, hD, (by rw [sizeLine_eq]; simp; omega), _, ⟨?_, But.same nD s But.upd⟩, upd_same⟩
      rw [take_snoc hc, List.map_append]
      rfl
    rintro D ys H1 nD ⟨rfl, s1⟩ hD
    rw [List.take_of_length_le (Nat.le_refl _)] at hD
    walk_at "go"
    refine k_all (bs := a.map fun c => decide (c ∈ ([48, 49, 50, 51, 52, 53, 54, 55, 56, 57] : List Nat))) (SqL.of (by rw [hD, List.map_map]; rfl)) ?_
    have eb : (a.map fun c => decide (c ∈ ([48, 49, 50, 51, 52, 53, 54, 55, 56, 57] : List Nat))).all id = decide (∀ c ∈ a, 48 ≤ c ∧ c ≤ 57) := by
      rw [Bool.eq_iff_iff, List.all_eq_true, decide_eq_true_eq]
      constructor
      · intro h c hc
        have := h _ (List.mem_map_of_mem hc)
        exact (Tx.fig_mem c).mp (of_decide_eq_true this)
      · intro h x hx
        obtain ⟨c, hc, rfl⟩ := List.mem_map.mp hx
        exact decide_eq_true ((Tx.fig_mem c).mpr (h c hc))
    rw [eb]
    walk_at "go"
    refine k_ifn (fun c3 => ?_) (fun c3 => ?_)
    · walk_at "go"
      exact bad (fun z => c3 z.2.2) H1 s1
    have figs : Tx.Figs a := ⟨by omega, by omega, c3⟩
    walk_at "go"
    refine k_intS (Tx.int_figs figs) (by rw [SX.S_len]; omega) ?_
    walk_at "go"
    exact k1 figs H1 s1
end
end Lw
namespace Lw
open PySem PySem.Spec PyProof.Rows L2 Gx
section
variable {P : Program} {w : World} {K : PySem.W.Frag} {mg : Str → Option Value} {base : Heap} {f : Addr} {fd : FuncData}
theorem ok_read_fraction (F : FnP K "read_fraction" "read_fraction" s_read_fraction f fd) (T : Txt K mg) (c_shown_fraction : Cl P w K mg base 1 "shown_fraction" ["x"] (sp_shown_fraction K)) (c_is_fraction : Cl P w K mg base 2 "is_fraction" ["thing"] (sp_is_fraction K)) (c_NoText___init__ : XCl P w K mg base 1 "NoText" ["self", "row"] (sp_NoText___init__ K)) (c_number_by : Cl P w K mg base 3 "number_by" ["word"] (sp_number_by K)) : FnOk P w K mg base (L2.CX P w) 4 f fd ["text"] (sp_read_fraction K) := by
  refine F.ok sc_read_fraction (fun vs H Q E h => ?_) (fun cdv A outer s H vs Q E hr h => ?_)
  · obtain ⟨v, rfl, _⟩ := h; rfl
  · refine ⟨_, (pss_cons (ps_if (pt_not (pt_val (pe_callB (callK (K := K) (r := rIsi) rfl call_isi) (by rfl) T.n_isinstance (by decide +kernel) (pa_cons (pv 0) (pa_cons (pe_bltn (v := .ty "str") (by rfl) T.n_str (by decide +kernel) rfl) pa_nil))))) (pss_one (ps_raise rfl (takes_of rfl rfl rfl rfl) (pmkOK (K := K) rfl c_NoText___init__ hr (by first | decide | omega) (pa_cons pe_non pa_nil)))) pss_nil) (pss_cons (ps_set (i := 1) sc_read_fraction.nd rfl (Or.inl rfl) (pe_m1 PySem.F.slot_str_split PySem.F.type_str_split mt_splitU (pv 0) pe_str)) (pss_cons (ps_if (pt_cmpR op_gt (pe_callB (callK (K := K) (r := rLenU) rfl call_lenU) (by rfl) T.n_len (by decide +kernel) (pa_cons (pv 1) pa_nil)) pe_int (nomark _)) (pss_one (ps_raise rfl (takes_of rfl rfl rfl rfl) (pmkOK (K := K) rfl c_NoText___init__ hr (by first | decide | omega) (pa_cons pe_non pa_nil)))) pss_nil) (pss_cons (ps_set (i := 2) sc_read_fraction.nd rfl (Or.inl rfl) (pe_ix (ix_K (K := K) rfl) (pv 1) pe_int (fun _ _ => rfl))) (C8.pss_cut (ps_if (pt_val (pe_m1 PySem.F.slot_str_startswith PySem.F.type_str_startswith mt_startsU (pv 2) pe_str)) (pss_one (ps_set (i := 2) sc_read_fraction.nd rfl (Or.inl rfl) (pe_slice (sl_K (K := K) rfl) (pv 2) (po_some pe_int) po_none))) pss_nil) (pss_cons (ps_set (i := 3) sc_read_fraction.nd rfl (Or.inl rfl) (pe_tup (pa_cons (pcall c_number_by hr (by first | decide | omega) (takes_of rfl rfl rfl rfl) (pa_cons (pv 2) pa_nil)) (pa_cons pe_int pa_nil)))) (C8.pss_cut (ps_if (pt_cmpR (op_eqK (K := K) rfl hr) (pe_callB (callK (K := K) (r := rLenU) rfl call_lenU) (by rfl) T.n_len (by decide +kernel) (pa_cons (pv 1) pa_nil)) pe_int (nomark _)) (pss_one (ps_set (i := 3) sc_read_fraction.nd rfl (Or.inl rfl) (pe_tup (pa_cons (pe_ix (ix_K (K := K) rfl) (pv 3) pe_int (fun _ _ => rfl)) (pa_cons (pcall c_number_by hr (by first | decide | omega) (takes_of rfl rfl rfl rfl) (pa_cons (pe_ix (ix_K (K := K) rfl) (pv 1) pe_int (fun _ _ => rfl)) pa_nil)) pa_nil))))) pss_nil) (C8.pss_cut (ps_if (pt_val (pe_m1 PySem.F.slot_str_startswith PySem.F.type_str_startswith mt_startsU (pv 0) pe_str)) (pss_one (ps_set (i := 3) sc_read_fraction.nd rfl (Or.inl rfl) (pe_tup (pa_cons (pe_op op_sub pe_int (pe_ix (ix_K (K := K) rfl) (pv 3) pe_int (fun _ _ => rfl))) (pa_cons (pe_ix (ix_K (K := K) rfl) (pv 3) pe_int (fun _ _ => rfl)) pa_nil))))) pss_nil) (pss_cons (ps_if (PW.pt (pw_or (pt_not (pt_val (pcall c_is_fraction hr (by first | decide | omega) (takes_of rfl rfl rfl rfl) (pa_cons (pv 3) pa_nil)))) (pw_or1 (pt_cmpR (op_neK (K := K) rfl hr) (pcall c_shown_fraction hr (by first | decide | omega) (takes_of rfl rfl rfl rfl) (pa_cons (pv 3) pa_nil)) (pv 0) (nomark _))))) (pss_one (ps_raise rfl (takes_of rfl rfl rfl rfl) (pmkOK (K := K) rfl c_NoText___init__ hr (by first | decide | omega) (pa_cons pe_non pa_nil)))) pss_nil) (pss_one (ps_ret (pv 3)))))))))))), ?_⟩
    obtain ⟨v, rfl, h⟩ := h
    walk_at "go"
    rcases h with ⟨a, rfl, al, kw, ke⟩ | ⟨t, ht, hk, ke⟩
    rotate_left
    · refine k_isi (.ty "str") ht hk ?_
      walk_at "go"
      exact k_mkx (fun d H2 nd s2 hd => ke d H2 s2 hd)
    refine k_isi (.ty "str") (.base (.str _)) (kit_ty (r := true) (by decide +kernel)) ?_
    walk_at "go"
    rw [show Str.ofString "/" = SX.S [47] by decide +kernel, show Str.ofString "-" = SX.S [45] by decide +kernel]
    refine k_split (by decide) (by rw [sizeLine_eq]; omega) (fun p H1 np s1 hp => ?_)
    have mk : ∀ (H' : Hp), (∀ d H2, Same H' H2 → H2 d = some (.xd [("row", .non)]) → E (.ref (He.ga K "NoText")) (some d) H2) → rMkO (He.ga K "NoText") (spXI (He.ga K "NoText") "row") [.non] H' fun cls d H2 => E cls d H2 := fun H' q => k_mkx (fun d H2 nd s2 hd => q d H2 s2 hd)
    by_cases ew : ∃ s, Tx.W a s
    · obtain ⟨s, hw⟩ := ew
      have kw := kw s hw
      obtain ⟨ea, l1, l2⟩ := hw
      have szs := Tx.sz_of l1 l2
      have eab := Tx.tx_abs s.num
      have f1 := Tx.figs_num l1
      have f2 := Tx.figs_num l2
      have tl : (Tx.tx s.num).length ≤ 100000 := by
        unfold Tx.tx
        split
        · simp; omega
        · omega
      have shd : (Cm.sf s) = SX.S a := by rw [Tx.sf_S, ea]
      have hd1 : a.head? = some 45 ↔ s.num < 0 := by rw [ea]; exact Tx.sf_head s
      obtain ⟨tail, etail⟩ : ∃ tail : List Str, (if s.den = 1 then [Tx.tx s.num] else [Tx.tx s.num, TL.numL s.den]).map (fun z => V.str (SX.S z)) = V.str (SX.S (Tx.tx s.num)) :: tail.map V.str ∧ tail = (if s.den = 1 then [] else [SX.S (TL.numL s.den)]) := by
        refine ⟨_, ?_, rfl⟩
        split <;> rfl
      obtain ⟨etail, et⟩ := etail
      have hp : H1 p = some (.lst (V.str (SX.S (Tx.tx s.num)) :: tail.map V.str)) := by rw [← etail, ← Tx.spl_sf, ← ea]; exact hp
      have tlen : tail.length = if s.den = 1 then 0 else 1 := by rw [et]; split <;> rfl
      walk_at "go"
      refine k_lenL ?_ (SqL.of hp)
      walk_at "go"
      refine k_if (fun c => ?_) (fun _ => ?_)
      · rw [List.length_cons, List.length_map, tlen] at c
        split at c <;> omega
      walk_at "go"
      refine k_ixL (SqL.of hp) (v := .str (SX.S (Tx.tx s.num))) (atI_nat (j := 0) rfl) ?_
      walk_at "go"
      refine k_cut (fun σ H' => H' = H1 ∧ ∃ f, f = TL.numL s.num.natAbs ∧ σ = [some (.str (SX.S a)), some (.ref p), some (.str (SX.S f)), none]) ?_ ?_
      · walk_at "go"
        refine k_starts ?_
        walk_at "go"
        refine k_if (fun c => ?_) (fun c => ?_)
        · walk_at "go"
          refine k_slFrom (i := 1) (by rw [sizeLine_eq]; omega) ?_
          rw [if_pos c] at eab
          walk_at "go"
          exact ⟨rfl, _, eab, rfl⟩
        · rw [if_neg c] at eab
          walk_at "go"
          exact ⟨rfl, _, eab, rfl⟩
      rintro σ H' ⟨rfl, f, rfl, rfl⟩
      walk_at "go"
      refine ⟨_, rfl, by omega, fun _ H2 s2 => ?_, fun z => absurd f1 z⟩
      rw [Tx.val_num]
      walk_at "go"
      refine k_tupx (fun q H3 nq s3 hq => ?_) (by simp [sizeLine_eq])
      have sL := (s1.trans s2).trans s3
      have hp3 := s3 _ _ (s2 _ _ hp)
      walk_at "go"
      dsimp only
      refine k_cut (fun σ H' => ∃ q, Same H H' ∧ SqT K H' q [.int (s.num.natAbs : Int), .int (s.den : Int)] ∧ σ = [some (.str (SX.S a)), some (.ref p), some (.str (SX.S (TL.numL s.num.natAbs))), some (.ref q)]) ?_ ?_
      · walk_at "go"
        refine k_lenL ?_ (SqL.of hp3)
        rw [List.length_cons, List.length_map, tlen]
        by_cases d1 : s.den = 1
        · rw [if_pos d1]
          walk_at "go"
          refine k_if (fun c => absurd c (by decide)) (fun _ => ?_)
          walk_at "go"
          exact ⟨q, sL, by rw [d1]; exact SqT.of hq, rfl⟩
        · rw [if_neg d1] at et ⊢
          walk_at "go"
          refine k_if (fun _ => ?_) (fun c => absurd rfl c)
          walk_at "go"
          refine k_ixT (SqT.of hq) (v := .int (s.num.natAbs : Int)) rfl ?_
          walk_at "go"
          rw [et] at hp3
          refine k_ixL (SqL.of hp3) (v := .str (SX.S (TL.numL s.den))) (atI_nat (j := 1) rfl) ?_
          walk_at "go"
          refine ⟨_, rfl, by omega, fun _ H4 s4 => ?_, fun z => absurd f2 z⟩
          rw [Tx.val_num]
          walk_at "go"
          refine k_tupx (fun q2 H5 nq2 s5 hq2 => ?_) (by simp [sizeLine_eq])
          walk_at "go"
          exact ⟨q2, (sL.trans s4).trans s5, SqT.of hq2, rfl⟩
      rintro σ H4 ⟨q, s4, hq4, rfl⟩
      refine k_cut (fun σ H' => ∃ q, Same H H' ∧ SqT K H' q (Fr.fq s) ∧ σ = [some (.str (SX.S a)), some (.ref p), some (.str (SX.S (TL.numL s.num.natAbs))), some (.ref q)]) ?_ ?_
      · walk_at "go"
        refine k_starts ?_
        walk_at "go"
        refine k_if (fun c => ?_) (fun c => ?_)
        · have c := hd1.mp c
          walk_at "go"
          refine k_ixT hq4 (v := .int (s.num.natAbs : Int)) rfl ?_
          walk_at "go"
          refine k_ixT hq4 (v := .int (s.den : Int)) rfl ?_
          walk_at "go"
          refine k_tupx (fun q2 H5 nq2 s5 hq2 => ?_) (by simp [sizeLine_eq])
          walk_at "go"
          refine ⟨q2, s4.trans s5, ?_, rfl⟩
          have e : (0 : Int) - (s.num.natAbs : Int) = s.num := by omega
          rw [e] at hq2
          exact SqT.of hq2
        · have c : ¬ s.num < 0 := fun z => c (hd1.mpr z)
          walk_at "go"
          refine ⟨q, s4, ?_, rfl⟩
          have e : (s.num.natAbs : Int) = s.num := by omega
          rw [e] at hq4
          exact hq4
      rintro σ H5 ⟨q, s5, hq5, rfl⟩
      walk_at "go"
      refine ⟨.ref q, true, rfl, IsF.yes hq5, ?_⟩
      walk_at "go"
      refine ⟨q, s, 250, rfl, hq5, szs, by decide, ?_⟩
      rw [shd]
      walk_at "go"
      refine k_ifn (fun z => absurd rfl z) (fun _ => ?_)
      walk_at "go"
      exact kw q H5 s5 hq5
    have ke := ke ew
    have kx : ∀ (H' : Hp), Same H H' → rMkO (He.ga K "NoText") (spXI (He.ga K "NoText") "row") [.non] H' fun cls d H2 => E cls d H2 := fun H' sH => mk H' (fun d H2 s2 hd => ke d H2 (sH.trans s2) hd)
    have one : (TL.numL 1).length ≤ 60 := Tx.one_len
    generalize hparts : TL.spl [47] 0 [] a = parts at hp
    have pne : parts ≠ [] := by rw [← hparts]; exact Tx.spl_ne _ _ _ _
    have plen : ∀ z ∈ parts, z.length ≤ a.length := fun z hz => by
      rw [← hparts] at hz
      have := Tx.spl_len _ _ _ _ hz; simpa using this
    walk_at "go"
    refine k_lenL ?_ (SqL.of hp)
    rw [List.length_map]
    walk_at "go"
    refine k_if (fun c => ?_) (fun c2 => ?_)
    · walk_at "go"
      exact kx H1 s1
    obtain ⟨f, rest, rfl⟩ : ∃ f rest, parts = f :: rest := by
      cases parts with
      | nil => exact absurd rfl pne
      | cons f r => exact ⟨f, r, rfl⟩
    have fl := plen f (List.mem_cons_self ..)
    walk_at "go"
    refine k_ixL (SqL.of hp) (v := .str (SX.S f)) (atI_nat (j := 0) rfl) ?_
    walk_at "go"
    refine k_cut (fun σ H' => H' = H1 ∧ ∃ f' : List Nat, f'.length ≤ 100000 ∧ σ = [some (.str (SX.S a)), some (.ref p), some (.str (SX.S f')), none]) ?_ ?_
    · walk_at "go"
      refine k_starts ?_
      walk_at "go"
      refine k_if (fun c => ?_) (fun c => ?_)
      · walk_at "go"
        refine k_slFrom (i := 1) (by rw [sizeLine_eq]; omega) ?_
        walk_at "go"
        exact ⟨rfl, _, by rw [List.length_drop]; omega, rfl⟩
      · walk_at "go"
        exact ⟨rfl, _, by omega, rfl⟩
    rintro σ H' ⟨rfl, f', fl', rfl⟩
    walk_at "go"
    refine ⟨_, rfl, fl', fun figs H2 s2 => ?_, fun _ d H2 s2 hd => ke d H2 (s1.trans s2) hd⟩
    have ln0 : (TL.numL (Tx.val f')).length ≤ 60 := Tx.figs_len figs rfl
    generalize Tx.val f' = n0 at ln0
    walk_at "go"
    refine k_tupx (fun q H3 nq s3 hq => ?_) (by simp [sizeLine_eq])
    have sL := (s1.trans s2).trans s3
    have hp3 := s3 _ _ (s2 _ _ hp)
    walk_at "go"
    dsimp only
    refine k_cut (fun σ H' => ∃ q d0, (TL.numL d0).length ≤ 60 ∧ Same H H' ∧ SqT K H' q [.int (n0 : Int), .int (d0 : Int)] ∧ σ = [some (.str (SX.S a)), some (.ref p), some (.str (SX.S f')), some (.ref q)]) ?_ ?_
    · walk_at "go"
      refine k_lenL ?_ (SqL.of hp3)
      rw [List.length_map]
      walk_at "go"
      refine k_if (fun c => ?_) (fun c => ?_)
      · obtain ⟨g, rfl⟩ : ∃ g, rest = [g] := by
          match rest, c with
          | [g], _ => exact ⟨g, rfl⟩
          | [], h => simp at h
          | _ :: _ :: _, h => simp at h; omega
        have gl := plen g (by simp)
        walk_at "go"
        refine k_ixT (SqT.of hq) (v := .int (n0 : Int)) rfl ?_
        walk_at "go"
        refine k_ixL (SqL.of hp3) (v := .str (SX.S g)) (atI_nat (j := 1) rfl) ?_
        walk_at "go"
        refine ⟨_, rfl, by omega, fun figs2 H4 s4 => ?_, fun _ d H2 s2 hd => ke d H2 (sL.trans s2) hd⟩
        have ld0 : (TL.numL (Tx.val g)).length ≤ 60 := Tx.figs_len figs2 rfl
        walk_at "go"
        refine k_tupx (fun q2 H5 nq2 s5 hq2 => ?_) (by simp [sizeLine_eq])
        walk_at "go"
        exact ⟨q2, _, ld0, (sL.trans s4).trans s5, SqT.of hq2, rfl⟩
      · walk_at "go"
        exact ⟨q, 1, one, sL, SqT.of hq, rfl⟩
    rintro σ H4 ⟨q, d0, ld0, s4, hq4, rfl⟩
    refine k_cut (fun σ H' => ∃ q n, n.natAbs = n0 ∧ Same H H' ∧ SqT K H' q [.int n, .int (d0 : Int)] ∧ σ = [some (.str (SX.S a)), some (.ref p), some (.str (SX.S f')), some (.ref q)]) ?_ ?_
    · walk_at "go"
      refine k_starts ?_
      walk_at "go"
      refine k_if (fun c => ?_) (fun c => ?_)
      · walk_at "go"
        refine k_ixT hq4 (v := .int (n0 : Int)) rfl ?_
        walk_at "go"
        refine k_ixT hq4 (v := .int (d0 : Int)) rfl ?_
        walk_at "go"
        refine k_tupx (fun q2 H5 nq2 s5 hq2 => ?_) (by simp [sizeLine_eq])
        walk_at "go"
        exact ⟨q2, 0 - (n0 : Int), by omega, s4.trans s5, SqT.of hq2, rfl⟩
      · walk_at "go"
        exact ⟨q, (n0 : Int), by omega, s4, hq4, rfl⟩
    rintro σ H5 ⟨q, n, en, s5, hq5, rfl⟩
    walk_at "go"
    refine ⟨.ref q, _, rfl, IsF.whole hq5, ?_⟩
    by_cases cd : (0 : Int) < (d0 : Int) ∧ Int.gcd n (d0 : Int) = 1
    · obtain ⟨c1, c2⟩ := cd
      obtain ⟨e1, e2⟩ := Tx.of_gcd c1 c2
      rw [decide_eq_true c1, decide_eq_true c2, Bool.and_self]
      walk_at "go"
      have ed : (Rat.divInt n (d0 : Int)).den = d0 := by omega
      have la : (TL.numL (Rat.divInt n (d0 : Int)).num.natAbs).length ≤ 60 := by rw [e1, en]; exact ln0
      have lb : (TL.numL (Rat.divInt n (d0 : Int)).den).length ≤ 60 := by rw [ed]; exact ld0
      have hfq : SqT K H5 q (Fr.fq (Rat.divInt n (d0 : Int))) := by
        show SqT K H5 q [.int (Rat.divInt n (d0 : Int)).num, .int ((Rat.divInt n (d0 : Int)).den : Int)]
        rw [e1, e2]
        exact hq5
      refine ⟨q, _, 250, rfl, hfq, Tx.sz_of la lb, by decide, ?_⟩
      rw [Tx.sf_S]
      walk_at "go"
      refine k_ifn (fun z => ?_) (fun z => ?_)
      · walk_at "go"
        exact kx H5 s5
      · exact absurd ⟨_, (SX.S_inj z).symm, la, lb⟩ ew
    · have eb : (decide ((0 : Int) < (d0 : Int)) && decide (Int.gcd n (d0 : Int) = 1)) = false := by
        rw [← Bool.decide_and, decide_eq_false cd]
      rw [eb]
      walk_at "go"
      exact kx H5 s5
end
end Lw
namespace Lw
open PySem PySem.Spec PyProof.Rows L2 Gx
section
variable {P : Program} {w : World} {K : PySem.W.Frag} {mg : Str → Option Value} {base : Heap} {f : Addr} {fd : FuncData}
theorem ok_Contest___init__ (F : FnP K "__init__" "Contest.__init__" s_Contest___init__ f fd) (T : Txt K mg) : FnOk P w K mg base (L2.CX P w) 1 f fd ["self", "names"] (sp_Contest___init__ K) := by
  refine F.ok sc_Contest___init__ (fun vs H Q E h => ?_) (fun cdv A outer s H vs Q E hr h => ?_)
  · obtain ⟨a, C, dx, u, rfl, _⟩ := h; rfl
  · refine ⟨_, (pss_one (ps_fld (pv 0) (pv 1) rfl)), ?_⟩
    obtain ⟨a, C, dx, u, rfl, h0, hc, hn, kk⟩ := h
    walk_at "go"
    refine k_sfldx h0 hc hn (fun H1 b1 h1 => ?_) (by walk_at "pl")
    walk_at "go"
    exact kk H1 b1 (by rw [h1]; walk_at "pf")
end
end Lw
namespace Lw
open PySem PySem.Spec PyProof.Rows L2 Gx
section
variable {P : Program} {w : World} {K : PySem.W.Frag} {mg : Str → Option Value} {base : Heap} {f : Addr} {fd : FuncData}
theorem ok_Contest_named (F : FnP K "named" "Contest.named" s_Contest_named f fd) (T : Txt K mg) : FnOk P w K mg base (L2.CX P w) 1 f fd ["self"] (sp_Contest_named K) := by
  refine F.ok sc_Contest_named (fun vs H Q E h => ?_) (fun cdv A outer s H vs Q E hr h => ?_)
  · obtain ⟨a, C, dx, fs, v, rfl, _⟩ := h; rfl
  · refine ⟨_, (pss_one (ps_ret (pe_fldK (K := K) rfl (pv 0) rfl))), ?_⟩
    obtain ⟨a, C, dx, fs, v, rfl, ha, hc, hn, hl, kk⟩ := h
    walk_at "go"
    refine k_fldx ha hc hn hl ?_
    walk_at "go"
    exact kk
end
end Lw
namespace Lw
open PySem PySem.Spec PyProof.Rows L2 Gx
section
variable {P : Program} {w : World} {K : PySem.W.Frag} {mg : Str → Option Value} {base : Heap} {f : Addr} {fd : FuncData}
theorem ok_Most___init__ (F : FnP K "__init__" "Most.__init__" s_Most___init__ f fd) (T : Txt K mg) (s_Contest___init__ : SCl P w K mg base 1 "Contest" "__init__" ["self", "names"] (sp_Contest___init__ K)) : FnOk P w K mg base (L2.CX P w) 2 f fd ["self", "names", "seats"] (sp_Most___init__ K) := by
  refine F.ok sc_Most___init__ (fun vs H Q E h => ?_) (fun cdv A outer s H vs Q E hr h => ?_)
  · obtain ⟨a, dx, u0, u1, rfl, _⟩ := h; rfl
  · refine ⟨_, (pss_cons (ps_expr (psup s_Contest___init__ hr (by first | decide | omega) (pa_cons (pv 0) (pa_cons (pv 1) pa_nil)))) (pss_one (ps_fld (pv 0) (pv 2) rfl))), ?_⟩
    obtain ⟨a, dx, u0, u1, rfl, h0, kk⟩ := h
    walk_at "go"
    refine ⟨a, _, dx, u0, rfl, h0, T.cl_Most, T.f_Most_names, fun H1 b1 h1 => ?_⟩
    walk_at "go"
    refine k_sfldx h1 T.cl_Most T.f_Most_seats (fun H2 b2 h2 => ?_) (by walk_at "pl")
    walk_at "go"
    exact kk H2 (b1.trans b2) (by rw [h2]; walk_at "pf")
end
end Lw
namespace Lw
open PySem PySem.Spec PyProof.Rows L2 Gx
section
variable {P : Program} {w : World} {K : PySem.W.Frag} {mg : Str → Option Value} {base : Heap} {f : Addr} {fd : FuncData}
theorem ok_Portion___init__ (F : FnP K "__init__" "Portion.__init__" s_Portion___init__ f fd) (T : Txt K mg) (s_Contest___init__ : SCl P w K mg base 1 "Contest" "__init__" ["self", "names"] (sp_Contest___init__ K)) : FnOk P w K mg base (L2.CX P w) 2 f fd ["self", "names", "share"] (sp_Portion___init__ K) := by
  refine F.ok sc_Portion___init__ (fun vs H Q E h => ?_) (fun cdv A outer s H vs Q E hr h => ?_)
  · obtain ⟨a, dx, u0, u1, rfl, _⟩ := h; rfl
  · refine ⟨_, (pss_cons (ps_expr (psup s_Contest___init__ hr (by first | decide | omega) (pa_cons (pv 0) (pa_cons (pv 1) pa_nil)))) (pss_one (ps_fld (pv 0) (pv 2) rfl))), ?_⟩
    obtain ⟨a, dx, u0, u1, rfl, h0, kk⟩ := h
    walk_at "go"
    refine ⟨a, _, dx, u0, rfl, h0, T.cl_Portion, T.f_Portion_names, fun H1 b1 h1 => ?_⟩
    walk_at "go"
    refine k_sfldx h1 T.cl_Portion T.f_Portion_share (fun H2 b2 h2 => ?_) (by walk_at "pl")
    walk_at "go"
    exact kk H2 (b1.trans b2) (by rw [h2]; walk_at "pf")
end
end Lw
namespace Lw
open PySem PySem.Spec PyProof.Rows L2 Gx
section
variable {P : Program} {w : World} {K : PySem.W.Frag} {mg : Str → Option Value} {base : Heap} {f : Addr} {fd : FuncData}
theorem ok_is_name (F : FnP K "is_name" "is_name" s_is_name f fd) (T : Txt K mg) : FnOk P w K mg base (L2.CX P w) 1 f fd ["word"] (sp_is_name K) := by
  refine F.ok sc_is_name (fun vs H Q E h => ?_) (fun cdv A outer s H vs Q E hr h => ?_)
  · obtain ⟨a, rfl, _⟩ := h; rfl
  · refine ⟨_, (pss_one (ps_ret (pe_and (pe_chain op_le op_le pe_int (pe_callB (callK (K := K) (r := rLenU) rfl call_lenU) (by rfl) T.n_len (by decide +kernel) (pa_cons (pv 0) pa_nil)) pe_int) (pe_one (pe_callB (callK (K := K) (r := rAll) rfl (cr_all rfl)) (by rfl) T.n_all (by decide +kernel) (pa_cons (pe_lc (own := [("sign", 1)]) (g := gName 1) (by rfl) sc_is_name.nd (pi_str (pv 0)) (blkOk_by (own := [("sign", 1)]) (N := ["word", "sign"]) (sc := defScope s_is_name) (by decide +kernel)) (fun _ _ _ _ _ => pg_name (i := 1) sc_is_name.nd rfl (Or.inl rfl)) (fun _ _ _ _ _ => pts_nil) (fun _ _ _ _ _ => (pe_cmpR (op_inUK (K := K) rfl hr) (pv 1) (C8.pe_gc (by rfl) T.c_LETTERS) (by with_unfolding_all rfl)))) pa_nil)))))), ?_⟩
    obtain ⟨a, rfl, hl, kk⟩ := h
    walk_at "go"
    refine k_lenS ?_ (by rw [SX.S_len, sizeLine_eq]; omega)
    rw [SX.S_len]
    walk_at "go"
    refine k_if (fun c1 => ?_) (fun c1 => ?_)
    rotate_left
    · have e : decide (Kt.Nl a) = false := decide_eq_false fun z => c1 (by have := z.1; omega)
      rw [e] at kk
      walk_at "go"
      exact kk H (Same.refl H)
    walk_at "go"
    refine k_if (fun c2 => ?_) (fun c2 => ?_)
    rotate_left
    · have e : decide (Kt.Nl a) = false := decide_eq_false fun z => c2 (by have := z.2.1; omega)
      rw [e] at kk
      exact kk H (Same.refl H)
    walk_at "go"
    refine k_lcS (fun D i ys H' => ys = (a.take i).map (fun c => V.bl (decide (c ∈ Kt.abc))) ∧ Same H H') (fun D H' nD sD hD => ⟨rfl, sD⟩) ?_ ?_
    · rintro D i c ys H' nD hc ⟨rfl, s⟩ hD
      refine k_lcB rfl ?_
      walk_at "go"
      rw [Kt.abc_S]
      refine k_inC ?_
      refine ⟨_, hD, (by rw [sizeLine_eq]; simp; omega), _, ⟨?_, But.same nD s But.upd⟩, upd_same⟩
      rw [take_snoc hc, List.map_append]
      rfl
    rintro D ys H1 nD ⟨rfl, s1⟩ hD
    rw [List.take_of_length_le (Nat.le_refl _)] at hD
    walk_at "go"
    refine k_all (bs := a.map fun c => decide (c ∈ Kt.abc)) (SqL.of (by rw [hD, List.map_map]; rfl)) ?_
    have eb : (a.map fun c => decide (c ∈ Kt.abc)).all id = decide (Kt.Nl a) := by
      rw [Bool.eq_iff_iff, List.all_eq_true, decide_eq_true_eq]
      constructor
      · intro h
        refine ⟨by omega, by omega, fun c hc => ?_⟩
        have := h _ (List.mem_map_of_mem hc)
        exact (Kt.abc_mem c).mp (of_decide_eq_true this)
      · intro h x hx
        obtain ⟨c, hc, rfl⟩ := List.mem_map.mp hx
        exact decide_eq_true ((Kt.abc_mem c).mpr (h.2.2 c hc))
    rw [eb]
    exact kk H1 s1
end
end Lw
namespace Lw
open PySem PySem.Spec PyProof.Rows L2 Gx
section
variable {P : Program} {w : World} {K : PySem.W.Frag} {mg : Str → Option Value} {base : Heap} {f : Addr} {fd : FuncData}
theorem ok_is_count (F : FnP K "is_count" "is_count" s_is_count f fd) (T : Txt K mg) : FnOk P w K mg base (L2.CX P w) 1 f fd ["word"] (sp_is_count K) := by
  refine F.ok sc_is_count (fun vs H Q E h => ?_) (fun cdv A outer s H vs Q E hr h => ?_)
  · obtain ⟨a, rfl, _⟩ := h; rfl
  · refine ⟨_, (pss_cons (ps_if (PW.pt (pw_or (pt_cmpR (op_eqK (K := K) rfl hr) (pv 0) pe_str (nomark _)) (pw_or1 (pt_not (pt_val (pe_callB (callK (K := K) (r := rAll) rfl (cr_all rfl)) (by rfl) T.n_all (by decide +kernel) (pa_cons (pe_lc (own := [("sign", 1)]) (g := gName 1) (by rfl) sc_is_count.nd (pi_str (pv 0)) (blkOk_by (own := [("sign", 1)]) (N := ["word", "sign"]) (sc := defScope s_is_count) (by decide +kernel)) (fun _ _ _ _ _ => pg_name (i := 1) sc_is_count.nd rfl (Or.inl rfl)) (fun _ _ _ _ _ => pts_nil) (fun _ _ _ _ _ => (pe_cmpR (op_inUK (K := K) rfl hr) (pv 1) (C8.pe_gc (by rfl) T.c_FIGURES_contesttexts) (by with_unfolding_all rfl)))) pa_nil))))))) (pss_one (ps_ret pe_bl)) pss_nil) (pss_one (ps_ret (pe_or (pe_cmpR (op_eqK (K := K) rfl hr) (pv 0) pe_str (nomark _)) (pe_one (pe_not (pe_m1 PySem.F.slot_str_startswith PySem.F.type_str_startswith mt_startsU (pv 0) pe_str))))))), ?_⟩
    obtain ⟨a, rfl, hl, kk⟩ := h
    have es : ∀ b : List Nat, decide (V.str (SX.S a) = V.str (SX.S b)) = decide (a = b) := fun b => decide_eq_decide.mpr ⟨fun z => SX.S_inj (V.str.inj z), fun z => by rw [z]⟩
    walk_at "go"
    rw [show Str.ofString "" = SX.S [] from rfl]
    refine k_if (fun c1 => ?_) (fun c1 => ?_)
    · have c1 : a = [] := SX.S_inj c1
      have e : decide (Kt.Cnt a) = false := decide_eq_false fun z => z.1 c1
      rw [e] at kk
      walk_at "go"
      exact kk H (Same.refl H)
    have c1 : a ≠ [] := fun z => c1 (by rw [z])
    walk_at "go"
    refine k_lcS (fun D i ys H' => ys = (a.take i).map (fun c => V.bl (decide (c ∈ ([48, 49, 50, 51, 52, 53, 54, 55, 56, 57] : List Nat)))) ∧ Same H H') (fun D H' nD sD hD => ⟨rfl, sD⟩) ?_ ?_
    · rintro D i c ys H' nD hc ⟨rfl, s⟩ hD
      refine k_lcB rfl ?_
      walk_at "go"
      rw [Tx.figures_S]
      refine k_inC ?_
      refine ⟨_, hD, (by rw [sizeLine_eq]; simp; omega), _, ⟨?_, But.same nD s But.upd⟩, upd_same⟩
      rw [take_snoc hc, List.map_append]
      rfl
    rintro D ys H1 nD ⟨rfl, s1⟩ hD
    rw [List.take_of_length_le (Nat.le_refl _)] at hD
    walk_at "go"
    refine k_all (bs := a.map fun c => decide (c ∈ ([48, 49, 50, 51, 52, 53, 54, 55, 56, 57] : List Nat))) (SqL.of (by rw [hD, List.map_map]; rfl)) ?_
    have eb : (a.map fun c => decide (c ∈ ([48, 49, 50, 51, 52, 53, 54, 55, 56, 57] : List Nat))).all id = decide (∀ c ∈ a, 48 ≤ c ∧ c ≤ 57) := by
      rw [Bool.eq_iff_iff, List.all_eq_true, decide_eq_true_eq]
      constructor
      · intro h c hc
        have := h _ (List.mem_map_of_mem hc)
        exact (Tx.fig_mem c).mp (of_decide_eq_true this)
      · intro h x hx
        obtain ⟨c, hc, rfl⟩ := List.mem_map.mp hx
        exact decide_eq_true ((Tx.fig_mem c).mpr (h c hc))
    rw [eb]
    walk_at "go"
    refine k_ifn (fun c2 => ?_) (fun c2 => ?_)
    · have e : decide (Kt.Cnt a) = false := decide_eq_false fun z => c2 z.2.1
      rw [e] at kk
      walk_at "go"
      exact kk H1 s1
    walk_at "go"
    rw [show Str.ofString "0" = SX.S [48] by decide +kernel]
    refine k_if (fun c3 => ?_) (fun c3 => ?_)
    · have c3 : a = [48] := SX.S_inj c3
      have e : decide (Kt.Cnt a) = true := decide_eq_true ⟨c1, c2, .inl c3⟩
      rw [e] at kk
      exact kk H1 s1
    have c3 : a ≠ [48] := fun z => c3 (by rw [z])
    walk_at "go"
    refine k_starts ?_
    have e : (!decide (a.head? = some 48)) = decide (Kt.Cnt a) := by
      by_cases h : a.head? = some 48
      · rw [decide_eq_true h, decide_eq_false]
        · rfl
        · rintro ⟨_, _, z | z⟩
          · exact c3 z
          · exact z h
      · rw [decide_eq_false h, decide_eq_true]
        · rfl
        · exact ⟨c1, c2, .inr h⟩
    walk_at "go"
    rw [e]
    exact kk H1 s1
end
end Lw
namespace Lw
open PySem PySem.Spec PyProof.Rows L2 Gx
section
variable {P : Program} {w : World} {K : PySem.W.Frag} {mg : Str → Option Value} {base : Heap} {f : Addr} {fd : FuncData}
theorem ok_are_names (F : FnP K "are_names" "are_names" s_are_names f fd) (T : Txt K mg) (c_is_name : Cl P w K mg base 1 "is_name" ["word"] (sp_is_name K)) : FnOk P w K mg base (L2.CX P w) 2 f fd ["words"] (sp_are_names K) := by
  refine F.ok sc_are_names (fun vs H Q E h => ?_) (fun cdv A outer s H vs Q E hr h => ?_)
  · obtain ⟨l, ns, rfl, _⟩ := h; rfl
  · refine ⟨_, (pss_cons (ps_if (PW.pt (pw_or (pt_not (pt_chain op_le op_le pe_int (pe_callB (callK (K := K) (r := rLenU) rfl call_lenU) (by rfl) T.n_len (by decide +kernel) (pa_cons (pv 0) pa_nil)) pe_int)) (pw_or1 (pt_not (pt_val (pe_callB (callK (K := K) (r := rAll) rfl (cr_all rfl)) (by rfl) T.n_all (by decide +kernel) (pa_cons (pe_lc (own := [("word", 1)]) (g := gName 1) (by rfl) sc_are_names.nd (pi_seqU (pv 0)) (blkOk_by (own := [("word", 1)]) (N := ["words", "word"]) (sc := defScope s_are_names) (by decide +kernel)) (fun _ _ _ _ _ => pg_name (i := 1) sc_are_names.nd rfl (Or.inl rfl)) (fun _ _ _ _ _ => pts_nil) (fun _ _ _ _ _ => (pcallN c_is_name hr (by first | decide | omega) (pa_cons (pv 1) pa_nil)))) pa_nil))))))) (pss_one (ps_ret pe_bl)) pss_nil) (pss_one (ps_ret (pe_cmpR (op_eqK (K := K) rfl hr) (Ls.pe_lenSetS (K := K) rfl (by rfl) T.n_len (by rfl) T.n_set (pv 0)) (pe_callB (callK (K := K) (r := rLenU) rfl call_lenU) (by rfl) T.n_len (by decide +kernel) (pa_cons (pv 0) pa_nil)) (nomark _))))), ?_⟩
    obtain ⟨l, ns, rfl, hS, hz, kk⟩ := h
    walk_at "go"
    refine k_lenL ?_ hS
    rw [List.length_map]
    walk_at "go"
    refine k_if (fun c1 => ?_) (fun c1 => ?_)
    rotate_left
    · have e : decide (Kt.Nms ns) = false := decide_eq_false fun z => c1 (by have := z.1; omega)
      rw [e] at kk
      walk_at "go"
      exact kk H (Same.refl H)
    walk_at "go"
    refine k_ifn (fun c2 => ?_) (fun c2 => ?_)
    · have e : decide (Kt.Nms ns) = false := decide_eq_false fun z => c2 (by have := z.2.1; omega)
      rw [e] at kk
      walk_at "go"
      exact kk H (Same.refl H)
    walk_at "go"
    refine k_lcU (.inl hS) (fun D i ys H' => ys = (ns.take i).map (fun z => V.bl (decide (Kt.Nl z))) ∧ Same H H') (fun D H' nD sD hD => ⟨rfl, sD⟩) (fun D i ys H' nD h => h.2) ?_ ?_
    · rintro D i x ys H' nD hx ⟨rfl, s⟩ hD
      obtain ⟨z, hzi, rfl⟩ := Cm.get_map hx
      refine k_lcB rfl ?_
      walk_at "go"
      refine ⟨z, rfl, hz z (List.mem_of_getElem? hzi), fun H2 s2 => ?_⟩
      have hD2 := s2 _ _ hD
      refine ⟨_, hD2, (by rw [sizeLine_eq]; simp; omega), _, ⟨?_, But.same nD (s.trans s2) But.upd⟩, upd_same⟩
      rw [take_snoc hzi, List.map_append]
      rfl
    rintro D ys H1 nD ⟨rfl, s1⟩ hD
    rw [List.length_map, List.take_of_length_le (Nat.le_refl _)] at hD
    walk_at "go"
    refine k_all (bs := ns.map fun z => decide (Kt.Nl z)) (SqL.of (by rw [hD, List.map_map]; rfl)) ?_
    have eb : (ns.map fun z => decide (Kt.Nl z)).all id = decide (∀ z ∈ ns, Kt.Nl z) := by
      rw [Bool.eq_iff_iff, List.all_eq_true, decide_eq_true_eq]
      constructor
      · intro h c hc
        exact of_decide_eq_true (h _ (List.mem_map_of_mem hc))
      · intro h x hx
        obtain ⟨c, hc, rfl⟩ := List.mem_map.mp hx
        exact decide_eq_true (h c hc)
    rw [eb]
    walk_at "go"
    refine k_ifn (fun c3 => ?_) (fun c3 => ?_)
    · have e : decide (Kt.Nms ns) = false := decide_eq_false fun z => c3 z.2.2.1
      rw [e] at kk
      walk_at "go"
      exact kk H1 s1
    walk_at "go"
    have hS1 : SqL K H1 l ((ns.map SX.S).map V.str) := by rw [List.map_map]; exact seqL_same s1 hS
    refine Ls.k_lenSetS ?_
    walk_at "go"
    refine Ls.k_lenSetSx hS1 (by rw [List.length_map]; omega) ?_
    walk_at "go"
    refine k_lenL ?_ hS1
    rw [List.length_map, List.length_map]
    walk_at "go"
    have ed : decide (((Ls.dn (ns.map SX.S) ns.length : Nat) : Int) = (ns.length : Int)) = decide (Kt.Nms ns) := by
      have := Ls.dn_iff (ns.map SX.S) ns.length (by rw [List.length_map]; exact Nat.le_refl _)
      rw [List.take_of_length_le (by rw [List.length_map]; exact Nat.le_refl _), Kt.nodup_S] at this
      refine decide_eq_decide.mpr ⟨fun z => ⟨by omega, by omega, c3, this.mp (by omega)⟩, fun z => by have := this.mpr z.2.2.2; omega⟩
    rw [List.length_map, ed]
    exact kk H1 s1
end
end Lw
namespace Lw
open PySem PySem.Spec PyProof.Rows L2 Gx
section
variable {P : Program} {w : World} {K : PySem.W.Frag} {mg : Str → Option Value} {base : Heap} {f : Addr} {fd : FuncData}
theorem ok_shown_contest (F : FnP K "shown_contest" "shown_contest" s_shown_contest f fd) (T : Txt K mg) (c_shown_fraction : Cl P w K mg base 1 "shown_fraction" ["x"] (sp_shown_fraction K)) (m_Portion_named : MCl P w K mg base 1 "Portion" "named" ["self"] (sp_Contest_named K)) (m_Most_named : MCl P w K mg base 1 "Most" "named" ["self"] (sp_Contest_named K)) : FnOk P w K mg base (L2.CX P w) 2 f fd ["contest"] (sp_shown_contest K) := by
  refine F.ok sc_shown_contest (fun vs H Q E h => ?_) (fun cdv A outer s H vs Q E hr h => ?_)
  · obtain ⟨x, d, ns, rfl, _⟩ := h; rfl
  · refine ⟨_, (pss_cons (ps_set (i := 1) sc_shown_contest.nd rfl (Or.inl rfl) (pe_m1 PySem.F.slot_str_join PySem.F.type_str_join (mt_joinK (K := K) rfl) pe_str (pe_or2 (pmeth0 rfl m_Most_named hr (by first | decide | omega) (takes_of rfl rfl rfl rfl) (pv 0)) (pmeth0 rfl m_Portion_named hr (by first | decide | omega) (takes_of rfl rfl rfl rfl) (pv 0))))) (pss_cons (ps_if (pt_val (pe_callB (callK (K := K) (r := rIsi) rfl call_isi) (by rfl) T.n_isinstance (by decide +kernel) (pa_cons (pv 0) (pa_cons (C8.pe_gc (v := .ref (He.ga K "Most")) (by rfl) T.c_Most) pa_nil)))) (pss_one (ps_ret (pe_op (op_addK (K := K) rfl) (pe_op (op_addK (K := K) rfl) (pe_op (op_addK (K := K) rfl) pe_str (pe_callTy call_strU (by rfl) T.n_str (by decide +kernel) (pa_cons (pe_fldK (K := K) rfl (pv 0) rfl) pa_nil))) pe_str) (pv 1)))) pss_nil) (pss_one (ps_ret (pe_op (op_addK (K := K) rfl) (pe_op (op_addK (K := K) rfl) (pe_op (op_addK (K := K) rfl) pe_str (pcall c_shown_fraction hr (by first | decide | omega) (takes_of rfl rfl rfl rfl) (pa_cons (pe_fldK (K := K) rfl (pv 0) rfl) pa_nil))) pe_str) (pv 1)))))), ?_⟩
    obtain ⟨x, d, ns, rfl, hx, n60, hz, hb, kk⟩ := h
    have jl : ∀ (l : List (List Nat)), (∀ z ∈ l, z.length ≤ 600) → (TL.joinL [32] l).length ≤ 601 * l.length := by
      intro l
      induction l with
      | nil => intro _; exact Nat.zero_le _
      | cons z r ih =>
        intro h
        have h1 := h z (List.mem_cons_self ..)
        have h2 := ih fun y hy => h y (List.mem_cons_of_mem _ hy)
        cases r with
        | nil => show z.length ≤ _; simp; omega
        | cons y r =>
          show (z ++ ([32] ++ TL.joinL [32] (y :: r))).length ≤ _
          simp only [List.length_append, List.length_cons, List.length_nil] at h2 ⊢
          omega
    have js : ((ns.map SX.S).map (·.length)).sum ≤ 600 * ns.length := by
      clear jl kk hx
      induction ns with
      | nil => exact Nat.zero_le _
      | cons z r ih =>
        have h1 := hz z (List.mem_cons_self ..)
        have h2 := ih (by simp at n60; omega) fun y hy => hz y (List.mem_cons_of_mem _ hy)
        rw [List.map_cons, List.map_cons, List.sum_cons, SX.S_len, List.length_cons]
        omega
    have jn := jl ns hz
    have hjoin : ∀ (p : Addr) (Q' : VK), SqT K H p (ns.map fun z => V.str (SX.S z)) → Q' (.str (SX.S (TL.joinL [32] ns))) H → rJoinU K (.str (Str.ofString " ")) [.ref p] H Q' := fun p Q' hp q => by
      refine k_join (ys := ns.map SX.S) (.inr (by rw [List.map_map]; exact hp)) ?_ ?_
      · have e : (Str.ofString " ").length = 1 := by decide +kernel
        rw [e, List.length_map]
        omega
      · rw [show Str.ofString " " = SX.S [32] by decide +kernel, SX.join_S]
        exact q
    have add : ∀ (a b : List Nat) (Q' : VK), a.length + b.length ≤ 100000 → Q' (.str (SX.S (a ++ b))) H → rAddU K (.str (SX.S a)) (.str (SX.S b)) H Q' := fun a b Q' l q => k_addS (by rw [SX.S_cat]; exact q) (by rw [SX.S_len, SX.S_len, sizeLine_eq]; omega)
    have eof : Str.ofString " of " = SX.S [32, 111, 102, 32] := by decide +kernel
    walk_at "go"
    cases d with
    | most k =>
      obtain ⟨dx, p, hp, hi⟩ := hx
      refine k_o1 (k_meth ?_)
      walk_at "go"
      refine k_methx hi (by walk_at "lz") ?_
      walk_at "go"
      refine ⟨x, _, dx, _, _, rfl, hi, T.cl_Most, T.f_Most_names, by walk_at "lk", hjoin p _ hp ?_⟩
      walk_at "go"
      refine k_isIns hi T.cl_Most T.in_Most T.ii_Most_Most ?_
      walk_at "go"
      refine k_fldx hi T.cl_Most T.f_Most_seats (by walk_at "lk") ?_
      walk_at "go"
      have hk : k ≤ 100000 := hb
      have ln : (TL.numL k).length ≤ 6 := Tx.len_of (k := 6) (by omega) (by decide)
      refine k_strI ?_ (Cm.log_lt (n := 17) (by show (k : Int).natAbs < 131072; omega) (by decide))
      rw [show toString (k : Int) = SX.S (TL.numL k) from Tx.T_nat k, show Str.ofString "most " = SX.S [109, 111, 115, 116, 32] by decide +kernel]
      refine add _ _ _ (by simp; omega) ?_
      walk_at "go"
      rw [eof]
      refine add _ _ _ (by simp; omega) ?_
      walk_at "go"
      refine add _ _ _ (by simp; omega) ?_
      exact kk
    | over s =>
      obtain ⟨dx, p, hp, q, hi, hq⟩ := hx
      refine k_o2 (k_meth ?_)
      walk_at "go"
      refine k_methx hi (by walk_at "lz") ?_
      walk_at "go"
      refine ⟨x, _, dx, _, _, rfl, hi, T.cl_Portion, T.f_Portion_names, by walk_at "lk", hjoin p _ hp ?_⟩
      walk_at "go"
      refine k_isIns hi T.cl_Portion T.in_Portion T.ii_Portion_Most ?_
      walk_at "go"
      refine k_fldx hi T.cl_Portion T.f_Portion_share (by walk_at "lk") ?_
      walk_at "go"
      have sl : (Tx.sfL s).length ≤ 50000 := by
        have e := congrArg (fun z : Str => z.length) (Tx.sf_S s)
        rw [show (SX.S (Tx.sfL s)).length = (Tx.sfL s).length from SX.S_len _] at e
        have hz : Fr.Sz 1900 s := hb
        have l1 := Cm.T_len (Cm.log_lt hz.1 (by decide))
        have l2 := Cm.T_len (Cm.log_lt (i := (s.den : Int)) hz.2 (by decide))
        have ls : (Str.ofString "/").length = 1 := by decide +kernel
        rw [← e]
        unfold Cm.sf
        split
        · omega
        · rw [Str.length_append, Str.length_append, ls]
          omega
      refine ⟨q, s, 1900, rfl, hq, hb, by decide, ?_⟩
      rw [Tx.sf_S, show Str.ofString "over " = SX.S [111, 118, 101, 114, 32] by decide +kernel]
      refine add _ _ _ (by simp; omega) ?_
      walk_at "go"
      rw [eof]
      refine add _ _ _ (by simp; omega) ?_
      walk_at "go"
      refine add _ _ _ (by simp; omega) ?_
      exact kk
end
end Lw
namespace Lw
open PySem PySem.Spec PyProof.Rows L2 Gx
section
variable {P : Program} {w : World} {K : PySem.W.Frag} {mg : Str → Option Value} {base : Heap} {f : Addr} {fd : FuncData}
theorem ok_read_most (F : FnP K "read_most" "read_most" s_read_most f fd) (T : Txt K mg) (k_Most : KCl P w K mg base 2 "Most" ["self", "names", "seats"] (sp_Most___init__ K)) (c_is_count : Cl P w K mg base 1 "is_count" ["word"] (sp_is_count K)) (c_NoText___init__ : XCl P w K mg base 1 "NoText" ["self", "row"] (sp_NoText___init__ K)) : FnOk P w K mg base (L2.CX P w) 4 f fd ["word", "names"] (sp_read_most K) := by
  refine F.ok sc_read_most (fun vs H Q E h => ?_) (fun cdv A outer s H vs Q E hr h => ?_)
  · obtain ⟨a, p, ns, rfl, _⟩ := h; rfl
  · refine ⟨_, (pss_cons (ps_if (PW.pt (pw_or (pt_not (pt_val (pcall c_is_count hr (by first | decide | omega) (takes_of rfl rfl rfl rfl) (pa_cons (pv 0) pa_nil)))) (pw_or1 (pt_not (pt_chain op_le op_lt pe_int (pe_callTy call_intU (by rfl) T.n_int (by decide +kernel) (pa_cons (pv 0) pa_nil)) (pe_callB (callK (K := K) (r := rLenU) rfl call_lenU) (by rfl) T.n_len (by decide +kernel) (pa_cons (pv 1) pa_nil))))))) (pss_one (ps_raise rfl (takes_of rfl rfl rfl rfl) (pmkOK (K := K) rfl c_NoText___init__ hr (by first | decide | omega) (pa_cons pe_non pa_nil)))) pss_nil) (pss_one (ps_ret (pmake rfl k_Most hr (by first | decide | omega) (pa_cons (pv 1) (pa_cons (pe_callTy call_intU (by rfl) T.n_int (by decide +kernel) (pa_cons (pv 0) pa_nil)) pa_nil)))))), ?_⟩
    obtain ⟨a, p, ns, rfl, hl, hp, kk, ke⟩ := h
    have bad : ∀ (c : ¬ (Kt.Cnt a ∧ 1 ≤ Tx.val a ∧ Tx.val a < ns.length)) (H' : Hp), Same H H' → rMkO (He.ga K "NoText") (spXI (He.ga K "NoText") "row") [.non] H' fun cls d H2 => E cls d H2 := fun c H' s' => k_mkx (fun d H2 nd s2 hd => ke c d H2 (s'.trans s2) hd)
    walk_at "go"
    refine ⟨a, rfl, by omega, fun H1 s1 => ?_⟩
    walk_at "go"
    refine k_ifn (fun c1 => ?_) (fun c1 => ?_)
    · walk_at "go"
      exact bad (fun z => c1 z.1) H1 s1
    walk_at "go"
    refine k_intS (Kt.cnt_int c1 (by omega)) (by rw [SX.S_len]; omega) ?_
    walk_at "go"
    refine k_if (fun c2 => ?_) (fun c2 => ?_)
    rotate_left
    · walk_at "go"
      exact bad (fun z => c2 (by have := z.2.1; omega)) H1 s1
    walk_at "go"
    refine k_lenT ?_ (seqT_same s1 hp)
    rw [List.length_map]
    walk_at "go"
    refine k_ifn (fun c3 => ?_) (fun c3 => ?_)
    · walk_at "go"
      exact bad (fun z => c3 (by have := z.2.2; omega)) H1 s1
    walk_at "go"
    refine k_intS (Kt.cnt_int c1 (by omega)) (by rw [SX.S_len]; omega) ?_
    walk_at "go"
    refine k_makex (fun x dx A na nd2 sA ha oo => ?_)
    refine ⟨x, dx, _, _, rfl, ha, fun H2 b2 h2 => ⟨rfl, ?_⟩⟩
    have s2 : Same H1 H2 := But.same na sA b2
    exact kk ⟨c1, by omega, by omega⟩ x H2 (s1.trans s2) ⟨dx, p, seqT_same (s1.trans s2) hp, h2⟩
end
end Lw
namespace Lw
open PySem PySem.Spec PyProof.Rows L2 Gx
section
variable {P : Program} {w : World} {K : PySem.W.Frag} {mg : Str → Option Value} {base : Heap} {f : Addr} {fd : FuncData}
theorem ok_read_portion (F : FnP K "read_portion" "read_portion" s_read_portion f fd) (T : Txt K mg) (k_Portion : KCl P w K mg base 2 "Portion" ["self", "names", "share"] (sp_Portion___init__ K)) (c_below : Cl P w K mg base 1 "below" ["x", "y"] (sp_below K)) (c_NoText___init__ : XCl P w K mg base 1 "NoText" ["self", "row"] (sp_NoText___init__ K)) (c_read_fraction : Cl P w K mg base 4 "read_fraction" ["text"] (sp_read_fraction K)) : FnOk P w K mg base (L2.CX P w) 5 f fd ["word", "names"] (sp_read_portion K) := by
  refine F.ok sc_read_portion (fun vs H Q E h => ?_) (fun cdv A outer s H vs Q E hr h => ?_)
  · obtain ⟨a, p, ns, rfl, _⟩ := h; rfl
  · refine ⟨_, (pss_cons (ps_set (i := 2) sc_read_portion.nd rfl (Or.inl rfl) (pcall c_read_fraction hr (by first | decide | omega) (takes_of rfl rfl rfl rfl) (pa_cons (pv 0) pa_nil))) (pss_cons (ps_if (PW.pt (pw_or (pt_val (pcall c_below hr (by first | decide | omega) (takes_of rfl rfl rfl rfl) (pa_cons (pv 2) (pa_cons (pe_tup (pa_cons pe_int (pa_cons pe_int pa_nil))) pa_nil)))) (pw_or (pt_not (pt_val (pcall c_below hr (by first | decide | omega) (takes_of rfl rfl rfl rfl) (pa_cons (pv 2) (pa_cons (pe_tup (pa_cons pe_int (pa_cons pe_int pa_nil))) pa_nil))))) (pw_or1 (pt_cmpR op_gt (pe_ix (ix_K (K := K) rfl) (pv 2) pe_int (fun _ _ => rfl)) (C8.pe_gc (by rfl) T.c_MOST_PART) (nomark _)))))) (pss_one (ps_raise rfl (takes_of rfl rfl rfl rfl) (pmkOK (K := K) rfl c_NoText___init__ hr (by first | decide | omega) (pa_cons pe_non pa_nil)))) pss_nil) (pss_one (ps_ret (pmake rfl k_Portion hr (by first | decide | omega) (pa_cons (pv 1) (pa_cons (pv 2) pa_nil))))))), ?_⟩
    obtain ⟨a, p, ns, rfl, hl, hp, kk, ke⟩ := h
    walk_at "go"
    refine ⟨_, rfl, .inl ⟨a, rfl, by omega, fun s hw q H1 s1 hq => ?_, fun no d H1 s1 hd => ke (fun ⟨s, hw, _⟩ => no ⟨s, hw⟩) d H1 s1 hd⟩⟩
    have sz := Tx.sz_of hw.2.1 hw.2.2
    have bad : ∀ (c : ¬ ((1/2 : Rat) ≤ s ∧ s < 1 ∧ s.den ≤ 999999)) (H' : Hp), Same H H' → rMkO (He.ga K "NoText") (spXI (He.ga K "NoText") "row") [.non] H' fun cls d H2 => E cls d H2 := fun c H' s' => k_mkx (fun d H2 nd s2 hd => ke (fun ⟨t, ht, h1, h2, h3⟩ => c (by
      have e : t = s := Tx.sf_inj (hw.1.symm.trans ht.1)
      subst e
      exact ⟨h1, h2, h3⟩)) d H2 (s'.trans s2) hd)
    walk_at "go"
    refine k_tupx (fun r2 H2 n2 s2 hr2 => ?_) (by simp [sizeLine_eq])
    refine ⟨q, r2, s, 1/2, 250, 2, rfl, seqT_same s2 hq, (by rw [Cm.fqh]; exact SqT.of hr2), sz, Cm.szh (n := 0), by decide, ?_⟩
    walk_at "go"
    have s12 := s1.trans s2
    refine k_if (fun c1 => ?_) (fun c1 => ?_)
    · walk_at "go"
      exact bad (fun z => absurd (Std.lt_of_lt_of_le c1 z.1) Rat.lt_irrefl) H2 s12
    walk_at "go"
    refine k_tupx (fun r3 H3 n3 s3 hr3 => ?_) (by simp [sizeLine_eq])
    have hq3 := seqT_same (s2.trans s3) hq
    refine ⟨q, r3, s, 1, 250, 2, rfl, hq3, (by rw [Cm.fq1]; exact SqT.of hr3), sz, Cm.sz1 (n := 0), by decide, ?_⟩
    have s13 := s12.trans s3
    walk_at "go"
    refine k_ifn (fun c2 => ?_) (fun c2 => ?_)
    · walk_at "go"
      exact bad (fun z => c2 z.2.1) H3 s13
    walk_at "go"
    refine k_ixT hq3 (v := .int (s.den : Int)) rfl ?_
    walk_at "go"
    refine k_if (fun c3 => ?_) (fun c3 => ?_)
    · walk_at "go"
      exact bad (fun z => by have := z.2.2; omega) H3 s13
    walk_at "go"
    refine k_makex (fun x dx A na nd2 sA ha oo => ?_)
    refine ⟨x, dx, _, _, rfl, ha, fun H4 b4 h4 => ⟨rfl, ?_⟩⟩
    have s4 : Same H3 H4 := But.same na sA b4
    exact kk s hw (Rat.not_lt.mp c1) c2 (by omega) x H4 (s13.trans s4) ⟨dx, p, seqT_same (s13.trans s4) hp, q, h4, seqT_same s4 hq3⟩
end
end Lw
namespace Lw
open PySem PySem.Spec PyProof.Rows L2 Gx
section
variable {P : Program} {w : World} {K : PySem.W.Frag} {mg : Str → Option Value} {base : Heap} {f : Addr} {fd : FuncData}
theorem ok_read_contest (F : FnP K "read_contest" "read_contest" s_read_contest f fd) (T : Txt K mg) (c_NoText___init__ : XCl P w K mg base 1 "NoText" ["self", "row"] (sp_NoText___init__ K)) (c_read_portion : Cl P w K mg base 5 "read_portion" ["word", "names"] (sp_read_portion K)) (c_read_most : Cl P w K mg base 4 "read_most" ["word", "names"] (sp_read_most K)) (c_are_names : Cl P w K mg base 2 "are_names" ["words"] (sp_are_names K)) : FnOk P w K mg base (L2.CX P w) 6 f fd ["text"] (sp_read_contest K) := by
  refine F.ok sc_read_contest (fun vs H Q E h => ?_) (fun cdv A outer s H vs Q E hr h => ?_)
  · obtain ⟨v, rfl, _⟩ := h; rfl
  · refine ⟨_, (pss_cons (ps_if (pt_not (pt_val (pe_callB (callK (K := K) (r := rIsi) rfl call_isi) (by rfl) T.n_isinstance (by decide +kernel) (pa_cons (pv 0) (pa_cons (pe_bltn (v := .ty "str") (by rfl) T.n_str (by decide +kernel) rfl) pa_nil))))) (pss_one (ps_raise rfl (takes_of rfl rfl rfl rfl) (pmkOK (K := K) rfl c_NoText___init__ hr (by first | decide | omega) (pa_cons pe_non pa_nil)))) pss_nil) (pss_cons (ps_set (i := 1) sc_read_contest.nd rfl (Or.inl rfl) (pe_m1 PySem.F.slot_str_split PySem.F.type_str_split mt_splitU (pv 0) pe_str)) (pss_cons (ps_if (PW.pt (pw_or (pt_cmpR op_lt (pe_callB (callK (K := K) (r := rLenU) rfl call_lenU) (by rfl) T.n_len (by decide +kernel) (pa_cons (pv 1) pa_nil)) pe_int (nomark _)) (pw_or (pt_cmpR (op_neK (K := K) rfl hr) (pe_ix (ix_K (K := K) rfl) (pv 1) pe_int (fun _ _ => rfl)) pe_str (nomark _)) (pw_or1 (pt_not (pt_val (pcall c_are_names hr (by first | decide | omega) (takes_of rfl rfl rfl rfl) (pa_cons (pe_slice (sl_K (K := K) rfl) (pv 1) (po_some pe_int) po_none) pa_nil)))))))) (pss_one (ps_raise rfl (takes_of rfl rfl rfl rfl) (pmkOK (K := K) rfl c_NoText___init__ hr (by first | decide | omega) (pa_cons pe_non pa_nil)))) pss_nil) (pss_cons (ps_if (pt_cmpR (op_eqK (K := K) rfl hr) (pe_ix (ix_K (K := K) rfl) (pv 1) pe_int (fun _ _ => rfl)) pe_str (nomark _)) (pss_one (ps_ret (pcall c_read_most hr (by first | decide | omega) (takes_of rfl rfl rfl rfl) (pa_cons (pe_ix (ix_K (K := K) rfl) (pv 1) pe_int (fun _ _ => rfl)) (pa_cons (pe_callTy (callK (K := K) (r := rTupV) rfl call_tupV) (by rfl) T.n_tuple (by decide +kernel) (pa_cons (pe_slice (sl_K (K := K) rfl) (pv 1) (po_some pe_int) po_none) pa_nil)) pa_nil))))) pss_nil) (pss_cons (ps_if (pt_cmpR (op_eqK (K := K) rfl hr) (pe_ix (ix_K (K := K) rfl) (pv 1) pe_int (fun _ _ => rfl)) pe_str (nomark _)) (pss_one (ps_ret (pcall c_read_portion hr (by first | decide | omega) (takes_of rfl rfl rfl rfl) (pa_cons (pe_ix (ix_K (K := K) rfl) (pv 1) pe_int (fun _ _ => rfl)) (pa_cons (pe_callTy (callK (K := K) (r := rTupV) rfl call_tupV) (by rfl) T.n_tuple (by decide +kernel) (pa_cons (pe_slice (sl_K (K := K) rfl) (pv 1) (po_some pe_int) po_none) pa_nil)) pa_nil))))) pss_nil) (pss_one (ps_raise rfl (takes_of rfl rfl rfl rfl) (pmkOK (K := K) rfl c_NoText___init__ hr (by first | decide | omega) (pa_cons pe_non pa_nil))))))))), ?_⟩
    obtain ⟨v, rfl, h⟩ := h
    walk_at "go"
    rcases h with ⟨a, rfl, al, kk, ke⟩ | ⟨t, ht, hk, ke⟩
    rotate_left
    · refine k_isi (.ty "str") ht hk ?_
      walk_at "go"
      exact k_mkx (fun d H2 nd s2 hd => ke d H2 s2 hd)
    refine k_isi (.ty "str") (.base (.str _)) (kit_ty (r := true) (by decide +kernel)) ?_
    walk_at "go"
    rw [show Str.ofString " " = SX.S [32] by decide +kernel, show Str.ofString "of" = SX.S [111, 102] by decide +kernel, show Str.ofString "most" = SX.S [109, 111, 115, 116] by decide +kernel, show Str.ofString "over" = SX.S [111, 118, 101, 114] by decide +kernel]
    refine k_split (by decide) (by rw [sizeLine_eq]; omega) (fun p H1 np s1 hp => ?_)
    have plen : ∀ z ∈ TL.spl [32] 0 [] a, z.length ≤ a.length := fun z hz => by
      have := Tx.spl_len _ _ _ _ hz; simpa using this
    have dcd : ∀ x y : List Nat, (decide (V.str (SX.S x) = V.str (SX.S y))) = decide (x = y) := fun x y => decide_eq_decide.mpr ⟨fun z => SX.S_inj (V.str.inj z), fun z => by rw [z]⟩
    have bad : ∀ (c : ¬ ∃ d ns, Kt.Wr a d ns) (H' : Hp), Same H H' → rMkO (He.ga K "NoText") (spXI (He.ga K "NoText") "row") [.non] H' fun cls d H2 => E cls d H2 := fun c H' s' => k_mkx (fun d H2 nd s2 hd => ke c d H2 (s'.trans s2) hd)
    have wr : ∀ d ns, Kt.Wr a d ns → ∃ w0 w1, TL.spl [32] 0 [] a = w0 :: w1 :: [111, 102] :: ns ∧ Kt.Nms ns := fun d ns ⟨w0, w1, h1, h2, _⟩ => ⟨w0, w1, h1, h2⟩
    walk_at "go"
    refine k_lenL ?_ (SqL.of hp)
    rw [List.length_map]
    walk_at "go"
    refine k_if (fun c1 => ?_) (fun c1 => ?_)
    · walk_at "go"
      exact bad (fun ⟨d, ns, h⟩ => by
        obtain ⟨w0, w1, e, n2, _⟩ := wr d ns h
        rw [e] at c1
        simp at c1
        omega) H1 s1
    generalize hparts : TL.spl [32] 0 [] a = parts at hp c1 plen wr
    obtain ⟨w0, w1, w2, ns, rfl⟩ : ∃ w0 w1 w2 ns, parts = w0 :: w1 :: w2 :: ns := by
      match parts, c1 with
      | w0 :: w1 :: w2 :: ns, _ => exact ⟨w0, w1, w2, ns, rfl⟩
      | [], h => simp at h
      | [_], h => simp at h
      | [_, _], h => simp at h
    have un : ∀ d ms, Kt.Wr a d ms → w2 = [111, 102] ∧ ms = ns := fun d ms h => by
      obtain ⟨v0, v1, e, _⟩ := wr d ms h
      have e2 := (List.cons.inj (List.cons.inj e).2).2
      exact ⟨(List.cons.inj e2).1, (List.cons.inj e2).2.symm⟩
    walk_at "go"
    refine k_ixL (SqL.of hp) (v := .str (SX.S w2)) (atI_nat (j := 2) rfl) ?_
    walk_at "go"
    refine k_ifn (fun c2 => ?_) (fun c2 => ?_)
    · walk_at "go"
      exact bad (fun ⟨d, ms, h⟩ => c2 (by rw [(un d ms h).1])) H1 s1
    have c2 := SX.S_inj c2
    subst c2
    have cut3 : ∀ xs : List V, 3 ≤ xs.length → cutV xs (some 3) none = xs.drop 3 := fun xs h => Ct.from_ (k := 3) h
    walk_at "go"
    refine k_slL (SqL.of hp) (fun q H2 nq s2 hq => ?_)
    have hq' : H2 q = some (.lst (ns.map fun z => V.str (SX.S z))) := by
      rw [hq, cut3 _ (by simp)]
      rfl
    walk_at "go"
    refine ⟨q, ns, rfl, SqL.of hq', (fun z hz => by have := plen z (by simp [hz]); omega), fun H3 s3 => ?_⟩
    have s13 := s1.trans (s2.trans s3)
    have hp3 := s3 _ _ (s2 _ _ hp)
    walk_at "go"
    refine k_ifn (fun c3 => ?_) (fun c3 => ?_)
    · walk_at "go"
      exact bad (fun ⟨d, ms, h⟩ => c3 (by
        have e := (un d ms h).2
        obtain ⟨_, _, _, n, _⟩ := h
        rw [← e]
        exact n)) H3 s13
    walk_at "go"
    refine k_ixL (SqL.of hp3) (v := .str (SX.S w0)) (atI_nat (j := 0) rfl) ?_
    walk_at "go"
    refine k_if (fun c4 => ?_) (fun c4 => ?_)
    · have c4 := SX.S_inj c4
      subst c4
      walk_at "go"
      refine k_ixL (SqL.of hp3) (v := .str (SX.S w1)) (atI_nat (j := 1) rfl) ?_
      walk_at "go"
      refine k_slL (SqL.of hp3) (fun q2 H4 nq2 s4 hq2 => ?_)
      rw [cut3 _ (by simp)] at hq2
      walk_at "go"
      refine k_tupL (SqL.of hq2) (fun q3 H5 nq3 s5 hq3 => ?_)
      have s15 := s13.trans (s4.trans s5)
      refine ⟨w1, q3, ns, rfl, (by have := plen w1 (by simp); omega), SqT.of hq3, fun ok x H6 s6 hx => kk (.most (Tx.val w1)) ns ⟨_, _, hparts, c3, rfl, ok.1, rfl, ok.2⟩ x H6 (s15.trans s6) hx, fun no e H6 s6 he => ke (fun ⟨d, ms, h⟩ => no ?_) e H6 (s15.trans s6) he⟩
      have e := (un d ms h).2
      subst e
      obtain ⟨v0, v1, e1, _, h⟩ := h
      rw [hparts] at e1
      have e0 := (List.cons.inj e1).1
      have e2 := (List.cons.inj (List.cons.inj e1).2).1
      subst e0
      subst e2
      cases d with
      | most k => exact ⟨h.2.1, by rw [h.2.2.1]; exact h.2.2.2.1, by rw [h.2.2.1]; exact h.2.2.2.2⟩
      | over s => exact absurd h.1 (by decide)
    walk_at "go"
    refine k_ixL (SqL.of hp3) (v := .str (SX.S w0)) (atI_nat (j := 0) rfl) ?_
    walk_at "go"
    refine k_if (fun c5 => ?_) (fun c5 => ?_)
    · have c5 := SX.S_inj c5
      subst c5
      walk_at "go"
      refine k_ixL (SqL.of hp3) (v := .str (SX.S w1)) (atI_nat (j := 1) rfl) ?_
      walk_at "go"
      refine k_slL (SqL.of hp3) (fun q2 H4 nq2 s4 hq2 => ?_)
      rw [cut3 _ (by simp)] at hq2
      walk_at "go"
      refine k_tupL (SqL.of hq2) (fun q3 H5 nq3 s5 hq3 => ?_)
      have s15 := s13.trans (s4.trans s5)
      refine ⟨w1, q3, ns, rfl, (by have := plen w1 (by simp); omega), SqT.of hq3, fun s hw h1 h2 h3 x H6 s6 hx => kk (.over s) ns ⟨_, _, hparts, c3, rfl, hw, h1, h2, h3⟩ x H6 (s15.trans s6) hx, fun no e H6 s6 he => ke (fun ⟨d, ms, h⟩ => no ?_) e H6 (s15.trans s6) he⟩
      obtain ⟨v0, v1, e1, _, h⟩ := h
      rw [hparts] at e1
      have e0 := (List.cons.inj e1).1
      have e2 := (List.cons.inj (List.cons.inj e1).2).1
      subst e0
      subst e2
      cases d with
      | most k => exact absurd h.1 (by decide)
      | over s => exact ⟨s, h.2⟩
    walk_at "go"
    exact bad (fun ⟨d, ms, h⟩ => by
      obtain ⟨v0, v1, e1, _, h⟩ := h
      rw [hparts] at e1
      have e0 := (List.cons.inj e1).1
      subst e0
      cases d with
      | most k => exact c4 (by rw [h.1])
      | over s => exact c5 (by rw [h.1])) H3 s13
end
end Lw
namespace Lw
open PySem PySem.Spec PyProof.Rows L2 Gx
section
variable {P : Program} {w : World} {K : PySem.W.Frag} {mg : Str → Option Value} {base : Heap} {f : Addr} {fd : FuncData}
theorem ok__law_source (F : FnP K "_law_source" "_law_source" s__law_source f fd) (T : Txt K mg) : FnOk P w K mg base (L2.CX P w) 1 f fd ["_law_script"] (sp__law_source K) := by
  refine F.ok sc__law_source (fun vs H Q E h => ?_) (fun cdv A outer s H vs Q E hr h => ?_)
  · obtain ⟨a, ns, rfl, _⟩ := h; rfl
  · refine ⟨_, (pss_cons (ps_set (i := 1) sc__law_source.nd rfl (Or.inl rfl) (pe_callTy (callK (K := K) (r := rLstU) rfl call_lstU) (by rfl) T.n_list (by decide +kernel) (pa_cons (pe_slice (sl_K (K := K) rfl) (pv 0) (po_some pe_int) (po_some pe_int)) pa_nil))) (C8.pss_cut (ps_if (PW.pt (pw_or (pt_cmpR (op_eqK (K := K) rfl hr) (pv 1) (pe_lst pa_nil) (nomark _)) (pw_or1 (pt_cmpR (op_eqK (K := K) rfl hr) (pe_op op_modN (pe_ix (ix_K (K := K) rfl) (pv 0) pe_int (fun _ _ => rfl)) pe_int) pe_int (nomark _))))) (pss_cons (ps_set (i := 3) sc__law_source.nd rfl (Or.inl rfl) (pe_op (op_addK (K := K) rfl) pe_int (pe_op op_modN (pe_callB (callK (K := K) (r := rSum) rfl (cr_sum rfl)) (by rfl) T.n_sum (by decide +kernel) (pa_cons (pe_lc (own := [("_law_k", 2), ("_law_cell", 5)]) (g := (gTup _ 2 (gCons (gName 2) (gCons (gName 5) gNil)))) (by rfl) sc__law_source.nd (pi_enum (by rfl) T.n_enumerate (pa_cons (pe_slice (sl_K (K := K) rfl) (pv 0) po_none (po_some pe_int)) pa_nil)) (blkOk_by (own := [("_law_k", 2), ("_law_cell", 5)]) (N := ["_law_script", "_law_cells", "_law_k", "_law_number", "_law_other", "_law_cell"]) (sc := defScope s__law_source) (by decide +kernel)) (fun _ _ _ _ _ => (pg_tup rfl (pgs_cons (pg_name (i := 2) sc__law_source.nd rfl (Or.inl rfl)) (pgs_cons (pg_name (i := 5) sc__law_source.nd rfl (Or.inl rfl)) pgs_nil)))) (fun _ _ _ _ _ => pts_nil) (fun _ _ _ _ _ => (pe_op (op_mulK (K := K) rfl) (pe_op op_modN (pv 5) pe_int) (pe_op (op_addK (K := K) rfl) (pv 2) pe_int)))) pa_nil)) pe_int))) (pss_cons (ps_set (i := 1) sc__law_source.nd rfl (Or.inl rfl) (pe_lst pa_nil)) (pss_one (ps_for (passes_of rfl) rfl (pi_range1 rfl T.n_range (pa_cons pe_int pa_nil)) (pg_name (i := 2) sc__law_source.nd rfl (Or.inl rfl)) (pss_cons (ps_set (i := 3) sc__law_source.nd rfl (Or.inl rfl) (pe_op op_modN (pe_op (op_addK (K := K) rfl) (pe_op (op_mulK (K := K) rfl) (pv 3) pe_int) (pv 2)) pe_int)) (pss_cons (ps_set (i := 4) sc__law_source.nd rfl (Or.inl rfl) (pe_op op_modN (pe_op (op_mulK (K := K) rfl) (pe_op op_modN (pe_op (op_mulK (K := K) rfl) (pv 3) (pv 3)) pe_int) pe_int) pe_int)) (pss_one (ps_expr (pe_bmK (K := K) rfl PySem.F.plainAttrs_list PySem.F.slot_list_append PySem.F.type_list_append mt_append (pv 1) (pa_cons (pe_op (op_addK (K := K) rfl) (pv 3) (pe_op (op_mulK (K := K) rfl) pe_int (pv 4))) pa_nil)))))))))) pss_nil) (pss_one (ps_ret (pe_op (op_addK (K := K) rfl) (pe_lst (pa_cons pe_int pa_nil)) (pv 1)))))), ?_⟩
    obtain ⟨a, ns, rfl, hS, hl, kk⟩ := h
    walk_at "go"
    refine k_slL hS (fun p1 H1 n1 s1 h1 => ?_)
    rw [Sr.cut1] at h1
    walk_at "go"
    refine k_lstL (SqL.of h1) (fun c0 H2 n2 s2 h2 => ?_)
    walk_at "go"
    have e1 : ((ns.map V.int).drop 1).take 62 = ((ns.drop 1).take 62).map V.int := by rw [List.map_take, List.map_drop]
    rw [e1] at h2
    have fin : ∀ (c : Addr) (cs : List Int) (t1 t2 t3 : Option V) H', Same H H' → H' c = some (.lst (cs.map V.int)) → cs ≠ [] → cs.length ≤ 62 → ∀ (D : Ends), D.rt = Q →
        tRet (tOp (rAddU K) (tLst (tCons (tC (.int 0)) tNil)) (tVar 1)) D [some (.ref a), some (.ref c), t1, t2, t3, none] H' := fun c cs t1 t2 t3 H' s h ne hle D eD => by
      walk_at "go"
      refine k_lstx (fun p8 H8 n8 s8 h8 => ?_) (by simp [sizeLine_eq])
      walk_at "go"
      refine k_addL h8 (s8 _ _ h) (fun p9 H9 n9 s9 h9 => ?_) (by simp [sizeLine_eq]; omega)
      rw [eD]
      refine kk p9 (0 :: cs) H9 ((s.trans s8).trans s9) ?_ h9 ⟨0, cs, rfl, Int.le_refl 0, ne, hle⟩
      cases q : H p9 with
      | none => rfl
      | some o => exact absurd ((s.trans s8) _ _ q) (by rw [n9]; simp)
    have s02 := s1.trans s2
    refine k_cut (fun σ H' => ∃ (c : Addr) (cs : List Int) (t1 t2 t3 : Option V), Same H H' ∧ H' c = some (.lst (cs.map V.int)) ∧ cs ≠ [] ∧ cs.length ≤ 62 ∧ σ = [some (.ref a), some (.ref c), t1, t2, t3, none]) ?_ ?_
    rotate_left
    · rintro σ H' ⟨c, cs, t1, t2, t3, s, h, ne, hle, rfl⟩
      exact fin c cs t1 t2 t3 H' s h ne hle _ rfl
    have other : ∀ (b : Bool) H3, Same H H3 → (H3 c0 = some (.lst (((ns.drop 1).take 62).map V.int))) → (b = false → ((ns.drop 1).take 62) ≠ []) → True := fun _ _ _ _ _ => trivial
    refine k_evT (fun b H3 => Same H H3 ∧ H3 c0 = some (.lst (((ns.drop 1).take 62).map V.int)) ∧ (b = false → ((ns.drop 1).take 62) ≠ [])) (fun Q' kq => ?_) ?_
    · walk_at "go"
      refine k_lstx (fun p3 H3 n3 s3 h3 => ?_) (by simp)
      refine k_eqD (Dk.dp_ints (SqL.of (s3 _ _ h2))) (.lst (SqL.of h3) .nil) ?_ (Dk.shaped_ints _) rfl
      walk_at "go"
      have s03 := s02.trans s3
      by_cases c : ((ns.drop 1).take 62) = []
      · rw [c, show PyData.eqv (.list (([] : List Int).map PyData.int)) (.list []) = true by simp [PyData.eqv, PyData.eqvAll]]
        walk_at "go"
        exact kq _ _ ⟨s03, s3 _ _ h2, fun z => nomatch z⟩
      · have e : PyData.eqv (.list (((ns.drop 1).take 62).map PyData.int)) (.list []) = false := by
          cases q : ((ns.drop 1).take 62) with
          | nil => exact absurd q c
          | cons x r => simp [PyData.eqv, PyData.eqvAll]
        rw [e]
        walk_at "go"
        obtain ⟨n, r, rfl⟩ : ∃ n r, ns = n :: r := by
          cases ns with
          | nil => simp at c
          | cons n r => exact ⟨n, r, rfl⟩
        refine k_ixL (seqL_same s03 hS) (v := .int n) (atI_nat (j := 0) rfl) ?_
        walk_at "go"
        exact kq _ _ ⟨s03, s3 _ _ h2, fun _ => c⟩
    rintro b H3 ⟨s03, h3, hb⟩
    cases b with
    | false =>
      walk_at "go"
      exact ⟨c0, _, _, _, _, s03, h3, hb rfl, by rw [List.length_take]; omega, rfl⟩
    | true =>
      walk_at "go"
      refine k_slL (seqL_same s03 hS) (fun p4 H4 n4 s4 h4 => ?_)
      rw [Sr.cut63, List.take_of_length_le (by simpa using hl)] at h4
      walk_at "go"
      refine k_enumx (SqL.of h4) ?_
      refine k_lcP enum_it (fun D i ys H' => Same H4 H' ∧ (∃ zs : List Int, ys = zs.map V.int) ∧ ys.length = i) (fun D H' nD sD hD => ⟨sD, ⟨[], rfl⟩, rfl⟩) (fun D i ys H' nD h => seqL_same h.1 (SqL.of h4)) ?_ ?_
      · rintro D i T ys G1 G2 nD hi ⟨sG, ⟨zs, rfl⟩, hz⟩ nT sT hT hD
        have hi2 : i < ns.length := by simpa using hi
        have ex : (ns.map V.int).getD i .non = .int (ns[i]'hi2) := by simp [hi2]
        rw [ex] at hT
        refine k_lcT ?_
        refine k_gtup (SqT.of hT) rfl ?_
        walk_at "go"
        refine ⟨rfl, ?_⟩
        walk_at "go"
        refine k_mulB (m := 40) (n := 20) (by omega) (by omega) (by decide) ?_
        exact ⟨_, hD, (by rw [sizeLine_eq]; omega), _, ⟨But.same nD (sG.trans sT) But.upd, ⟨zs ++ [_], by simp; rfl⟩, by simp at hz ⊢; omega⟩, upd_same⟩
      · rintro D ys H5 nD ⟨s5, ⟨zs, rfl⟩, hz⟩ hD
        walk_at "go"
        refine k_sum (SqL.of hD) ?_
        walk_at "go"
        refine k_lstx (fun c1 H6 n6 s6 h6 => ?_) (by simp)
        walk_at "go"
        have s06 := ((s03.trans s4).trans s5).trans s6
        have v0 := Int.emod_nonneg zs.sum (show (2147483629 : Int) ≠ 0 by decide)
        have v1 := Int.emod_lt_of_pos zs.sum (show (0 : Int) < 2147483629 by decide)
        refine k_rng1 (by decide) ?_
        refine k_loopR (n := 40) (fun i σ H' => ∃ (t1 t2 : Option V) (x : Int) (cs : List Int), σ = [some (.ref a), some (.ref c1), t1, some (.int x), t2, none] ∧ Same H H' ∧ H' c1 = some (.lst (cs.map V.int)) ∧ cs.length = i ∧ x.natAbs < 2 ^ 33) ⟨none, none, _, [], rfl, s06, h6, rfl, by omega⟩ ?_ ?_
        · rintro i σ H7 hi ⟨t1, t2, x, cs, rfl, s7, h7, hcs, hx⟩
          walk_at "go"
          refine k_mulB (m := 33) (n := 20) hx (by decide) (by decide) ?_
          walk_at "go"
          have y0 := Int.emod_nonneg (x * 48271 + (i : Int)) (show (2147483647 : Int) ≠ 0 by decide)
          have y1 := Int.emod_lt_of_pos (x * 48271 + (i : Int)) (show (0 : Int) < 2147483647 by decide)
          generalize (x * 48271 + (i : Int)) % 2147483647 = y at y0 y1
          refine k_mulB (m := 33) (n := 33) (by omega) (by omega) (by decide) ?_
          walk_at "go"
          have z0 := Int.emod_nonneg (y * y) (show (2147483629 : Int) ≠ 0 by decide)
          have z1 := Int.emod_lt_of_pos (y * y) (show (0 : Int) < 2147483629 by decide)
          generalize (y * y) % 2147483629 = z at z0 z1
          refine k_mulB (m := 33) (n := 20) (by omega) (by decide) (by decide) ?_
          walk_at "go"
          refine ⟨k_app0 h7, ?_⟩
          walk_at "go"
          refine k_mulB (m := 33) (n := 33) (by decide) (by omega) (by decide) ?_
          walk_at "go"
          refine k_app1 h7 (by rw [List.length_map, sizeLine_eq]; omega) (fun H8 b8 h8 => ?_)
          refine ⟨_, _, y, cs ++ [_], rfl, But.same ?_ s7 b8, by rw [h8]; simp; rfl, by simp [hcs], by omega⟩
          cases q : H c1 with
          | none => rfl
          | some o => exact absurd (((s03.trans s4).trans s5) _ _ q) (by rw [n6]; simp)
        · rintro σ H7 ⟨t1, t2, x, cs, rfl, s7, h7, hcs, hx⟩
          exact ⟨c1, cs, _, _, _, s7, h7, (fun z => by rw [z] at hcs; cases hcs), by omega, rfl⟩
end
end Lw
namespace Lw
open PySem PySem.Spec PyProof.Rows L2 Gx
section
variable {P : Program} {w : World} {K : PySem.W.Frag} {mg : Str → Option Value} {base : Heap} {f : Addr} {fd : FuncData}
theorem ok__law_draw (F : FnP K "_law_draw" "_law_draw" s__law_draw f fd) (T : Txt K mg) : FnOk P w K mg base (L2.CX P w) 1 f fd ["_law_source_here", "_law_most"] (sp__law_draw K) := by
  refine F.ok sc__law_draw (fun vs H Q E h => ?_) (fun cdv A outer s H vs Q E hr h => ?_)
  · obtain ⟨l, cs, m, rfl, _⟩ := h; rfl
  · refine ⟨_, (pss_cons (ps_set (i := 2) sc__law_draw.nd rfl (Or.inl rfl) (pe_op (op_addK (K := K) rfl) pe_int (pe_op op_modN (pe_ix (ix_K (K := K) rfl) (pv 0) pe_int (fun _ _ => rfl)) (pe_op op_sub (pe_callB (callK (K := K) (r := rLenU) rfl call_lenU) (by rfl) T.n_len (by decide +kernel) (pa_cons (pv 0) pa_nil)) pe_int)))) (pss_cons (ps_asg (pe_op (op_addK (K := K) rfl) (pe_ix (ix_K (K := K) rfl) (pv 0) pe_int (fun _ _ => rfl)) pe_int) (pg_sub (pv 0) pe_int set_list)) (pss_cons (ps_set (i := 3) sc__law_draw.nd rfl (Or.inl rfl) (pe_ix (ix_K (K := K) rfl) (pv 0) (pv 2) (fun _ _ => rfl))) (pss_cons (ps_asg (pe_op op_fdivG (pv 3) (pv 1)) (pg_sub (pv 0) (pv 2) set_list)) (pss_one (ps_ret (pe_op op_modN (pv 3) (pv 1)))))))), ?_⟩
    obtain ⟨l, cs, m, rfl, hl, ⟨k, r, rfl, k0, ne, hr⟩, m1, m2, kk⟩ := h
    have hpos : 0 < r.length := List.length_pos_iff.mpr ne
    walk_at "go"
    refine k_ixL (SqL.of hl) (v := .int k) (atI_nat (j := 0) rfl) ?_
    walk_at "go"
    refine k_lenL ?_ (SqL.of hl)
    walk_at "go"
    have hlen : ((((k :: r).map V.int).length : Nat) : Int) - 1 = (r.length : Int) := by simp
    rw [hlen]
    walk_at "go"
    obtain ⟨j, ej⟩ := Int.eq_ofNat_of_zero_le (show 0 ≤ k % (r.length : Int) from Int.emod_nonneg _ (by omega))
    have hj : j < r.length := by
      have := Int.emod_lt_of_pos k (show (0 : Int) < (r.length : Int) by omega)
      omega
    rw [ej]
    walk_at "go"
    refine k_ixL (SqL.of hl) (v := .int k) (atI_nat (j := 0) rfl) ?_
    walk_at "go"
    refine k_setL (j := 0) hl (ixN_nat (j := 0) (by simp)) (fun H1 b1 h1 => ?_)
    walk_at "go"
    have e1 : ((k :: r).map V.int).set 0 (.int (k + 1)) = ((k + 1) :: r).map V.int := rfl
    rw [e1] at h1
    have e2 : (1 : Int) + (j : Int) = ((j + 1 : Nat) : Int) := by omega
    rw [e2]
    refine k_ixL (SqL.of h1) (v := .int (r[j]'hj)) (atI_nat (j := j + 1) (by simp [hj])) ?_
    walk_at "go"
    refine k_setL (j := j + 1) h1 (ixN_nat (by simp; omega)) (fun H2 b2 h2 => ?_)
    walk_at "go"
    refine kk _ ((k + 1) :: r.set j (r[j]'hj / m)) H2 (b1.trans b2) ?_ ⟨k + 1, _, rfl, by omega, fun z => ?_, by simpa using hr⟩ (Int.emod_nonneg _ (by omega)) (Int.emod_lt_of_pos _ (by omega))
    · rw [h2]
      simp [List.map_set]
    · have h := congrArg List.length z
      rw [List.length_set] at h
      exact ne (List.length_eq_zero_iff.mp h)
end
end Lw
namespace Lw
open PySem PySem.Spec PyProof.Rows L2 Gx
section
variable {P : Program} {w : World} {K : PySem.W.Frag} {mg : Str → Option Value} {base : Heap} {f : Addr} {fd : FuncData}
theorem ok__law_unlike (F : FnP K "_law_unlike" "_law_unlike" s__law_unlike f fd) (T : Txt K mg) (c__law_draw : Cl P w K mg base 1 "_law_draw" ["_law_source_here", "_law_most"] (sp__law_draw K)) : FnOk P w K mg base (L2.CX P w) 2 f fd ["_law_source_here", "_law_many"] (sp__law_unlike K) := by
  refine F.ok sc__law_unlike (fun vs H Q E h => ?_) (fun cdv A outer s H vs Q E hr h => ?_)
  · obtain ⟨l, cs, m, rfl, _⟩ := h; rfl
  · refine ⟨_, (pss_cons (ps_set (i := 2) sc__law_unlike.nd rfl (Or.inr rfl) pe_str) (pss_cons (ps_setLc (i := 4) (own := [("_law_k", 3)]) (g := gName 3) (by rfl) sc__law_unlike.nd rfl rfl (sw_true rfl rfl rfl (by decide +kernel)) (pi_range1 rfl T.n_range (pa_cons (pe_op (op_addK (K := K) rfl) pe_int (pcall c__law_draw hr (by first | decide | omega) (takes_of rfl rfl rfl rfl) (pa_cons (pv 0) (pa_cons pe_int pa_nil)))) pa_nil)) (blkOk_by (own := [("_law_k", 3)]) (N := ["_law_source_here", "_law_many", "_law_letters", "_law_k", "_law_base", "_law_at", "_law_first", "_law_found"]) (sc := defScope s__law_unlike) (by decide +kernel)) (fun _ _ _ _ _ => pg_name (i := 3) sc__law_unlike.nd rfl (Or.inl rfl)) (fun _ _ _ _ _ => pts_nil) (fun _ _ _ _ _ => (pe_ix (ix_K (K := K) rfl) (pv 2) (pcallN c__law_draw hr (by first | decide | omega) (pa_cons (pv 0) (pa_cons pe_int pa_nil))) (fun _ _ => rfl)))) (pss_cons (ps_set (i := 5) sc__law_unlike.nd rfl (Or.inl rfl) (pcall c__law_draw hr (by first | decide | omega) (takes_of rfl rfl rfl rfl) (pa_cons (pv 0) (pa_cons (pe_callB (callK (K := K) (r := rLenU) rfl call_lenU) (by rfl) T.n_len (by decide +kernel) (pa_cons (pv 4) pa_nil)) pa_nil)))) (pss_cons (ps_set (i := 6) sc__law_unlike.nd rfl (Or.inl rfl) (pcall c__law_draw hr (by first | decide | omega) (takes_of rfl rfl rfl rfl) (pa_cons (pv 0) (pa_cons pe_int pa_nil)))) (pss_cons (ps_set (i := 7) sc__law_unlike.nd rfl (Or.inl rfl) (pe_lst pa_nil)) (pss_cons (ps_for (passes_of rfl) rfl (pi_range1 rfl T.n_range (pa_cons (pv 1) pa_nil)) (pg_name (i := 3) sc__law_unlike.nd rfl (Or.inl rfl)) (pss_cons (ps_asg (pe_ix (ix_K (K := K) rfl) (pv 2) (pe_op op_modN (pe_op (op_addK (K := K) rfl) (pv 6) (pv 3)) pe_int) (fun _ _ => rfl)) (pg_sub (pv 4) (pv 5) set_list)) (pss_one (ps_expr (pe_bmK (K := K) rfl PySem.F.plainAttrs_list PySem.F.slot_list_append PySem.F.type_list_append mt_append (pv 7) (pa_cons (pe_m1 PySem.F.slot_str_join PySem.F.type_str_join (mt_joinK (K := K) rfl) pe_str (pv 4)) pa_nil)))))) (C8.pss_cut (ps_if (pt_cmpR (op_eqK (K := K) rfl hr) (pcall c__law_draw hr (by first | decide | omega) (takes_of rfl rfl rfl rfl) (pa_cons (pv 0) (pa_cons pe_int pa_nil))) pe_int (nomark _)) (pss_one (ps_asg (pe_op (op_addK (K := K) rfl) (pe_ix (ix_K (K := K) rfl) (pv 7) pe_int (fun _ _ => rfl)) (pe_ix (ix_K (K := K) rfl) (pv 2) (pcall c__law_draw hr (by first | decide | omega) (takes_of rfl rfl rfl rfl) (pa_cons (pv 0) (pa_cons pe_int pa_nil))) (fun _ _ => rfl))) (pg_sub (pv 7) pe_int set_list))) pss_nil) (pss_one (ps_ret (pv 7)))))))))), ?_⟩
    obtain ⟨l, cs, m, rfl, hl, hsr, m2, m9, kk⟩ := h
    walk_at "go"
    refine ⟨l, cs, 7, rfl, hl, hsr, by decide, by decide, fun r cs1 H1 b1 hl1 sr1 r0 r1 => ?_⟩
    walk_at "go"
    obtain ⟨z, ez⟩ := Int.eq_ofNat_of_zero_le (show 0 ≤ 1 + r by omega)
    have hz : 1 ≤ z ∧ z ≤ 7 := by omega
    rw [ez]
    refine k_rng1 (by omega) ?_
    rw [show ((z : Int)).toNat = z by omega]
    refine k_lcR (fun D i ys H' => ∃ (ks : List Nat) (cs2 : List Int), ys = (ks.map Pl.one).map V.str ∧ ks.length = i ∧ Pl.Letters ks ∧ But l H1 H' ∧ H' l = some (.lst (cs2.map V.int)) ∧ Sr.Src cs2) (fun D H' nD sD hD => ⟨[], cs1, rfl, rfl, fun _ h => (nomatch h), But.of sD, sD _ _ hl1, sr1⟩) ?_ ?_
    · rintro D i ys H' nD hi ⟨ks, cs2, rfl, hc, hL, bl, hl2, sr2⟩ hD
      have nlD : l ≠ D := ne_of_none hl1 nD
      refine k_lcB rfl ?_
      walk_at "go"
      refine ⟨l, cs2, 26, rfl, hl2, sr2, by decide, by decide, fun r cs3 H3 b3 hl3 sr3 r0 r1 => ?_⟩
      refine k_ixS (by rw [sizeLine_eq]; decide +kernel) (Pl.abc_at r0 r1) ?_
      have hD3 := b3 _ _ (Ne.symm nlD) hD
      refine ⟨_, hD3, (by rw [sizeLine_eq]; simp; omega), _, ⟨ks ++ [_], cs3, by simp; rfl, by simp [hc], ?_, ?_, ?_, sr3⟩, upd_same⟩
      · intro c hc2
        rcases List.mem_append.mp hc2 with h | h
        · exact hL c h
        · rw [List.mem_singleton.mp h]; omega
      · intro a o n h
        have na : a ≠ D := ne_of_none h nD
        rw [upd_ne na]
        exact b3 _ _ n (bl _ _ n h)
      · rw [upd_ne nlD]; exact hl3
    rintro b ys H2 nb ⟨ks, cs2, rfl, hc, hL, bl2, hl2, sr2⟩ hb
    have nlb : l ≠ b := ne_of_none hl1 nb
    walk_at "go"
    refine k_lenL ?_ (SqL.of hb)
    walk_at "go"
    have hblen : ((ks.map Pl.one).map V.str).length = z := by simp [hc]
    rw [hblen]
    refine ⟨l, cs2, (z : Int), rfl, hl2, sr2, by omega, by omega, fun r3 cs3 H3 b3 hl3 sr3 r30 r31 => ?_⟩
    obtain ⟨at_, ea⟩ := Int.eq_ofNat_of_zero_le r30
    have hat : at_ < z := by omega
    rw [ea]
    walk_at "go"
    refine ⟨l, cs3, 26, rfl, hl3, sr3, by decide, by decide, fun c0 cs4 H4 b4 hl4 sr4 c00 c01 => ?_⟩
    walk_at "go"
    refine k_lstx (fun p H5 np s5 hp => ?_) (by simp)
    walk_at "go"
    have hl5 := s5 _ _ hl4
    have hb5 := s5 _ _ (b4 _ _ (Ne.symm nlb) (b3 _ _ (Ne.symm nlb) hb))
    have nbp : b ≠ p := ne_of_none (b4 _ _ (Ne.symm nlb) (b3 _ _ (Ne.symm nlb) hb)) np
    have nlp : l ≠ p := ne_of_none hl4 np
    have bl5 : But l H H5 := fun a o n h => s5 _ _ (b4 _ _ n (b3 _ _ n (bl2 _ _ n (b1 _ _ n h))))
    have nob : ∀ {a : Addr} {o : HO}, a ≠ l → H a = some o → a ≠ b ∧ a ≠ p := fun {a o} n h => ⟨fun e => by subst e; exact absurd (b1 _ _ n h) (by rw [nb]; simp), fun e => by subst e; exact absurd (b4 _ _ n (b3 _ _ n (bl2 _ _ n (b1 _ _ n h)))) (by rw [np]; simp)⟩
    refine k_rng1 (by omega) ?_
    rw [show ((m : Int)).toNat = m by omega]
    refine k_loopR (n := m) (fun i σ H' => ∃ (t : Option V) (ks2 : List Nat), σ = [some (.ref l), some (.int (m : Int)), some (.str Pl.abc), t, some (.ref b), some (.int (at_ : Int)), some (.int c0), some (.ref p)] ∧
      H' l = some (.lst (cs4.map V.int)) ∧ But l H H' ∧ H' b = some (.lst ((ks2.map Pl.one).map V.str)) ∧ ks2.length = z ∧ (∀ c, ks2.set at_ c = ks.set at_ c) ∧ H' p = some (.lst ((Pl.some_ ks at_ c0 i).map V.str)))
      ⟨_, ks, rfl, hl5, bl5, hb5, hc, fun _ => rfl, hp⟩ ?_ ?_
    · rintro i σ H6 hi ⟨t, ks2, rfl, hl6, bl6, hb6, hc2, hset, hp6⟩
      walk_at "go"
      refine k_ixS (by rw [sizeLine_eq]; decide +kernel) (Pl.abc_at (by omega) (by omega)) ?_
      walk_at "go"
      refine k_setL (j := at_) hb6 (ixN_nat (by simp; omega)) (fun H7 b7 hb7 => ?_)
      walk_at "go"
      have hp7 := b7 _ _ (Ne.symm nbp) hp6
      refine ⟨k_app0 hp7, ?_⟩
      walk_at "go"
      have hx : ((ks2.map Pl.one).map V.str).set at_ (.str ⟨#[97 + ((c0 + (i : Int)) % 26).toNat]⟩) = ((ks2.set at_ (97 + ((c0 + (i : Int)) % 26).toNat)).map Pl.one).map V.str := by
        rw [List.map_set, List.map_set]
        rfl
      rw [hx] at hb7
      refine k_join (.inl (SqL.of hb7)) (by rw [Pl.sum_ones, show (Str.ofString "").length = 0 by decide +kernel]; simp; omega) ?_
      walk_at "go"
      have e2 := Pl.join_ones (ks2.set at_ (97 + ((c0 + (i : Int)) % 26).toNat))
      refine k_app1 hp7 (by rw [sizeLine_eq]; simp [Pl.some_len]; omega) (fun H8 b8 hp8 => ?_)
      refine ⟨_, ks2.set at_ (97 + ((c0 + (i : Int)) % 26).toNat), rfl, ?_, ?_, b8 _ _ nbp hb7, by simp [hc2], fun c => by rw [List.set_set, hset], ?_⟩
      · exact b8 _ _ nlp (b7 _ _ nlb hl6)
      · intro a o n h
        obtain ⟨n1, n2⟩ := nob n h
        exact b8 _ _ n2 (b7 _ _ n1 (bl6 _ _ n h))
      · rw [hp8, Pl.some_succ, List.map_append]
        have e3 : Txt.join (Str.ofString "") ((ks2.set at_ (97 + ((c0 + (i : Int)) % 26).toNat)).map Pl.one) = Pl.nm ks at_ (97 + ((c0 + (i : Int)) % 26).toNat) := by
          unfold Pl.nm
          rw [← hset]
          exact e2
        rw [e3]
        rfl
    rintro σ H6 ⟨t, ks2, rfl, hl6, bl6, hb6, hc2, hset, hp6⟩
    have nd := Pl.some_nd (show at_ < ks.length by omega) c0 m9
    have hnm := Pl.some_nm (k := at_) hL (by omega) (by omega) c0 m
    have hlen := Pl.some_len ks at_ c0 m
    have hsz := @Pl.some_size ks at_ c0 m
    generalize Pl.some_ ks at_ c0 m = ns at hp6 nd hnm hlen hsz
    have npH : H p = none := by
      cases q : H p with
      | none => rfl
      | some o =>
        have n : p ≠ l := Ne.symm nlp
        exact absurd (b4 _ _ n (b3 _ _ n (bl2 _ _ n (b1 _ _ n q)))) (by rw [np]; simp)
    refine k_cut (fun σ H' => ∃ (ns : List Str) (cs5 : List Int), σ = [some (.ref l), some (.int (m : Int)), some (.str Pl.abc), t, some (.ref b), some (.int (at_ : Int)), some (.int c0), some (.ref p)] ∧ But l H H' ∧ H' l = some (.lst (cs5.map V.int)) ∧ Sr.Src cs5 ∧ H' p = some (.lst (ns.map V.str)) ∧
      ns.length = m ∧ ns.Nodup ∧ (∀ s ∈ ns, Pl.Nm s)) ?_ ?_
    rotate_left
    · rintro σ H7 ⟨ns2, cs5, rfl, bl7, hl7, sr7, hp7, hlen2, nd2, hnm2⟩
      walk_at "go"
      exact kk p ns2 cs5 H7 bl7 hl7 sr7 npH hp7 hlen2 nd2 hnm2
    walk_at "go"
    refine ⟨l, cs4, 4, rfl, hl6, sr4, by decide, by decide, fun r7 cs7 H7 b7 hl7 sr7 r70 r71 => ?_⟩
    walk_at "go"
    have hp7 := b7 _ _ (Ne.symm nlp) hp6
    have bl7 : But l H H7 := bl6.trans b7
    refine k_if (fun c => ?_) (fun c => ?_)
    rotate_left
    · walk_at "go"
      exact ⟨ns, cs7, rfl, bl7, hl7, sr7, hp7, hlen, nd, hnm⟩
    walk_at "go"
    obtain ⟨s0, s1, rr, rfl⟩ : ∃ s0 s1 r, ns = s0 :: s1 :: r := by
      match ns, hlen with
      | [], h => simp at h; omega
      | [a], h => simp at h; omega
      | a :: b :: r, _ => exact ⟨a, b, r, rfl⟩
    have sz0 := hsz s0 (by simp)
    refine k_ixL (SqL.of hp7) (v := .str s0) (atI_nat (j := 0) rfl) ?_
    walk_at "go"
    refine ⟨l, cs7, 26, rfl, hl7, sr7, by decide, by decide, fun r8 cs8 H8 b8 hl8 sr8 r80 r81 => ?_⟩
    refine k_ixS (by rw [sizeLine_eq]; decide +kernel) (Pl.abc_at r80 r81) ?_
    walk_at "go"
    refine k_addS ?_ (by rw [sizeLine_eq]; show s0.cps.size + 1 ≤ _; omega)
    walk_at "go"
    have hp8 := b8 _ _ (Ne.symm nlp) hp7
    refine k_setL (j := 1) hp8 (ixN_nat (j := 1) (by simp)) (fun H9 b9 hp9 => ?_)
    walk_at "go"
    have szn : (s0 ++ (⟨#[97 + r8.toNat]⟩ : Str)).cps.size = z + 1 := by
      show (s0.cps ++ #[97 + r8.toNat]).size = _
      simp [sz0, hc]
    refine ⟨s0 :: (s0 ++ ⟨#[97 + r8.toNat]⟩) :: rr, cs8, rfl, ?_, b9 _ _ nlp hl8, sr8, by rw [hp9]; rfl, by simpa using hlen, ?_, ?_⟩
    · intro a o n h
      exact b9 _ _ (nob n h).2 (b8 _ _ n (bl7 _ _ n h))
    · rw [List.nodup_cons, List.nodup_cons] at nd ⊢
      refine ⟨fun h => ?_, fun h => ?_, nd.2.2⟩
      · rcases List.mem_cons.mp h with e | e
        · rw [← e] at szn; omega
        · exact nd.1 (List.mem_cons_of_mem _ e)
      · have := hsz _ (List.mem_cons_of_mem _ (List.mem_cons_of_mem _ h))
        omega
    · intro s hs
      rcases List.mem_cons.mp hs with e | e
      · rw [e]; exact hnm s0 (by simp)
      · rcases List.mem_cons.mp e with e | e
        · rw [e]
          have g := hnm s0 (by simp)
          refine ⟨by omega, by omega, fun c hc => ?_⟩
          have : c ∈ s0.cps.toList ∨ c = 97 + r8.toNat := by
            have h2 : c ∈ (s0.cps ++ #[97 + r8.toNat]).toList := hc
            simpa using h2
          rcases this with h | h
          · exact g.2.2 c h
          · omega
        · exact hnm s (List.mem_cons_of_mem _ (List.mem_cons_of_mem _ e))
end
end Lw
namespace Lw
open PySem PySem.Spec PyProof.Rows L2 Gx
section
variable {P : Program} {w : World} {K : PySem.W.Frag} {mg : Str → Option Value} {base : Heap} {f : Addr} {fd : FuncData}
theorem ok__law_lowest (F : FnP K "_law_lowest" "_law_lowest" s__law_lowest f fd) (T : Txt K mg) : FnOk P w K mg base (L2.CX P w) 1 f fd ["_law_a", "_law_b"] (sp__law_lowest K) := by
  refine F.ok sc__law_lowest (fun vs H Q E h => ?_) (fun cdv A outer s H vs Q E hr h => ?_)
  · obtain ⟨a, b, rfl, _⟩ := h; rfl
  · refine ⟨_, (pss_cons (ps_set (i := 2) sc__law_lowest.nd rfl (Or.inl rfl) (pe_callB call_absU (by rfl) T.n_abs (by decide +kernel) (pa_cons (pv 0) pa_nil))) (pss_cons (ps_set (i := 3) sc__law_lowest.nd rfl (Or.inl rfl) (pv 1)) (pss_cons (ps_while (passes_of rfl) (pt_cmpR op_gt (pv 3) pe_int (nomark _)) (pss_one (ps_par (i := 2) (j := 3) (by rfl) sc__law_lowest.nd rfl rfl (by decide) rfl rfl (pa_cons (pv 3) (pa_cons (pe_op op_modN (pv 2) (pv 3)) pa_nil)) (by rfl)))) (pss_one (ps_ret (pe_tup (pa_cons (pe_op op_fdivG (pv 0) (pv 2)) (pa_cons (pe_op op_fdivG (pv 1) (pv 2)) pa_nil)))))))), ?_⟩
    obtain ⟨a, b, rfl, b0, hd, kk⟩ := h
    walk_at "go"
    refine k_while (fun m σ H' => H' = H ∧ ∃ x y : Int, σ = [some (.int a), some (.int b), some (.int x), some (.int y)] ∧ m = y.natAbs ∧ 0 ≤ x ∧ 0 ≤ y ∧ Int.gcd x y = Int.gcd a b) b.natAbs ⟨rfl, (a.natAbs : Int), b, rfl, rfl, by omega, by omega, by show Nat.gcd ((a.natAbs : Int)).natAbs b.natAbs = Nat.gcd a.natAbs b.natAbs; rw [Int.natAbs_natCast]⟩ ?_
    rintro m σ H' ⟨rfl, x, y, rfl, rfl, x0, y0, e⟩
    walk_at "go"
    refine k_if (fun c => ?_) (fun c => ?_)
    · refine k_wN ?_
      walk_at "go"
      have v0 := Int.emod_nonneg x (show y ≠ 0 by omega)
      have v1 := Int.emod_lt_of_pos x c
      refine ⟨(x % y).natAbs, by omega, rfl, y, x % y, rfl, rfl, y0, v0, ?_⟩
      rw [← e, Int.gcd_comm x y, ← Int.fmod_eq_emod_of_nonneg x y0, Fr.gcd_fmod, Int.gcd_comm]
    · have ey : y = 0 := by omega
      subst ey
      walk_at "go"
      rw [Int.gcd_zero] at e
      have hx : x = (Int.gcd a b : Int) := by omega
      have hg := Int.gcd_pos_of_ne_zero_right a (show b ≠ 0 by omega)
      have ed : x = (if b < 0 then 0 - (Int.gcd a b : Int) else (Int.gcd a b : Int)) := by rw [if_neg (by omega)]; exact hx
      obtain ⟨d1, d2⟩ := hd.div (d := x) (by omega)
      refine k_I ?_ ⟨by omega, d1⟩
      walk_at "go"
      refine k_I ?_ ⟨by omega, d2⟩
      walk_at "go"
      refine k_tupx (fun p H2 np s1 hp => ?_) (by simp [sizeLine_eq])
      refine kk p H2 s1 np (SqT.of ?_)
      rw [hp, Fr.low_num (by omega) ed, Fr.low_den (by omega) ed]
end
end Lw
namespace Lw
open PySem PySem.Spec PyProof.Rows L2 Gx
section
variable {P : Program} {w : World} {K : PySem.W.Frag} {mg : Str → Option Value} {base : Heap} {f : Addr} {fd : FuncData}
theorem ok__law_half (F : FnP K "_law_half" "_law_half" s__law_half f fd) (T : Txt K mg) (c__law_lowest : Cl P w K mg base 1 "_law_lowest" ["_law_a", "_law_b"] (sp__law_lowest K)) (c__law_draw : Cl P w K mg base 1 "_law_draw" ["_law_source_here", "_law_most"] (sp__law_draw K)) : FnOk P w K mg base (L2.CX P w) 2 f fd ["_law_source_here"] (sp__law_half K) := by
  refine F.ok sc__law_half (fun vs H Q E h => ?_) (fun cdv A outer s H vs Q E hr h => ?_)
  · obtain ⟨l, cs, rfl, _⟩ := h; rfl
  · refine ⟨_, (pss_cons (ps_set (i := 1) sc__law_half.nd rfl (Or.inl rfl) (pe_op (op_addK (K := K) rfl) pe_int (pcall c__law_draw hr (by first | decide | omega) (takes_of rfl rfl rfl rfl) (pa_cons (pv 0) (pa_cons (pe_ix (ix_K (K := K) rfl) (pe_lst (pa_cons pe_int (pa_cons pe_int (pa_cons pe_int pa_nil)))) (pcall c__law_draw hr (by first | decide | omega) (takes_of rfl rfl rfl rfl) (pa_cons (pv 0) (pa_cons pe_int pa_nil))) (fun _ _ => rfl)) pa_nil))))) (pss_cons (ps_set (i := 2) sc__law_half.nd rfl (Or.inl rfl) (pe_op op_fdivG (pe_op (op_addK (K := K) rfl) (pv 1) pe_int) pe_int)) (pss_one (ps_ret (pcall c__law_lowest hr (by first | decide | omega) (takes_of rfl rfl rfl rfl) (pa_cons (pe_op (op_addK (K := K) rfl) (pv 2) (pcall c__law_draw hr (by first | decide | omega) (takes_of rfl rfl rfl rfl) (pa_cons (pv 0) (pa_cons (pe_op op_sub (pv 1) (pv 2)) pa_nil)))) (pa_cons (pv 1) pa_nil))))))), ?_⟩
    obtain ⟨l, cs, rfl, hl, sr, kk⟩ := h
    walk_at "go"
    refine k_lstx (fun p H1 np s1 hp => ?_) (by simp [sizeLine_eq])
    walk_at "go"
    have nlp : l ≠ p := ne_of_none hl np
    refine ⟨l, cs, 3, rfl, s1 _ _ hl, sr, by decide, by decide, fun r cs2 H2 b2 hl2 sr2 r0 r1 => ?_⟩
    walk_at "go"
    obtain ⟨x, x0, hx, hat⟩ : ∃ x : Int, 9 ≤ x ∧ x ≤ 999997 ∧ atI [V.int 9, V.int 99, V.int 999997] r = some (.int x) := by
      have c : r = 0 ∨ r = 1 ∨ r = 2 := by omega
      rcases c with c | c | c
      · exact ⟨9, by decide, by decide, by rw [c]; rfl⟩
      · exact ⟨99, by decide, by decide, by rw [c]; rfl⟩
      · exact ⟨999997, by decide, by decide, by rw [c]; rfl⟩
    refine k_ixL (SqL.of (b2 _ _ (Ne.symm nlp) hp)) hat ?_
    walk_at "go"
    refine ⟨l, cs2, x, rfl, hl2, sr2, by omega, by omega, fun w cs3 H3 b3 hl3 sr3 w0 w1 => ?_⟩
    walk_at "go"
    refine ⟨l, cs3, 2 + w - (2 + w + 1) / 2, rfl, hl3, sr3, by omega, by omega, fun a cs4 H4 b4 hl4 sr4 a0 a1 => ?_⟩
    walk_at "go"
    refine ⟨(2 + w + 1) / 2 + a, 2 + w, rfl, by omega, okd_den (by omega) (show (2 + w).natAbs < 2 ^ 64 by omega) (by decide), fun q H5 s5 nq hq => ?_⟩
    have bl : But l H H5 := fun a o n h => s5 _ _ (b4 _ _ n (b3 _ _ n (b2 _ _ n (s1 _ _ h))))
    refine kk q _ ((2 + w + 1) / 2 + a) (2 + w) cs4 H5 bl (s5 _ _ hl4) sr4 ?_ hq rfl (by omega) (by omega) (by omega) (by omega)
    cases e : H q with
    | none => rfl
    | some o =>
      have n : q ≠ l := fun z => by subst z; rw [nq] at hl4; cases hl4
      exact absurd (b4 _ _ n (b3 _ _ n (b2 _ _ n (s1 _ _ e)))) (by rw [nq]; simp)
end
end Lw
namespace Lw
open PySem PySem.Spec PyProof.Rows L2 Gx
section
variable {P : Program} {w : World} {K : PySem.W.Frag} {mg : Str → Option Value} {base : Heap} {f : Addr} {fd : FuncData}
theorem ok__law_is_name (F : FnP K "_law_is_name" "_law_is_name" s__law_is_name f fd) (T : Txt K mg) : FnOk P w K mg base (L2.CX P w) 1 f fd ["_law_word"] (sp__law_is_name K) := by
  refine F.ok sc__law_is_name (fun vs H Q E h => ?_) (fun cdv A outer s H vs Q E hr h => ?_)
  · obtain ⟨a, rfl, _⟩ := h; rfl
  · refine ⟨_, (pss_cons (ps_if (PW.pt (pw_or (pt_cmpR (op_eqK (K := K) rfl hr) (pv 0) pe_str (nomark _)) (pw_or1 (pt_cmpR op_gt (pe_callB (callK (K := K) (r := rLenU) rfl call_lenU) (by rfl) T.n_len (by decide +kernel) (pa_cons (pv 0) pa_nil)) pe_int (nomark _))))) (pss_one (ps_ret pe_bl)) pss_nil) (pss_one (ps_ret (pe_cmpR (op_eqK (K := K) rfl hr) (pe_lc (own := [("_law_sign", 1)]) (g := gName 1) (by rfl) sc__law_is_name.nd (pi_str (pv 0)) (blkOk_by (own := [("_law_sign", 1)]) (N := ["_law_word", "_law_sign"]) (sc := defScope s__law_is_name) (by decide +kernel)) (fun _ _ _ _ _ => pg_name (i := 1) sc__law_is_name.nd rfl (Or.inl rfl)) (fun _ _ _ _ _ => (pts_one (pt_cmpR (op_niUK (K := K) rfl hr) (pv 1) pe_str (by with_unfolding_all rfl)))) (fun _ _ _ _ _ => (pv 1))) (pe_lst pa_nil) (nomark _))))), ?_⟩
    obtain ⟨a, rfl, al, kk⟩ := h
    walk_at "go"
    rw [show Str.ofString "" = SX.S [] from rfl]
    refine k_if (fun c => ?_) (fun c1 => ?_)
    · have c := SX.S_inj c
      have e : decide (Kt.Nl a) = false := decide_eq_false fun z => by have := z.1; rw [c] at this; simp at this
      rw [e] at kk
      walk_at "go"
      exact kk H (Same.refl H)
    have c1 : a ≠ [] := fun z => c1 (by rw [z])
    walk_at "go"
    refine k_lenS ?_ (by rw [SX.S_len, sizeLine_eq]; omega)
    rw [SX.S_len]
    walk_at "go"
    refine k_if (fun c => ?_) (fun c2 => ?_)
    · have e : decide (Kt.Nl a) = false := decide_eq_false fun z => by have := z.2.1; omega
      rw [e] at kk
      walk_at "go"
      exact kk H (Same.refl H)
    walk_at "go"
    refine k_lcS (fun D i ys H' => (ys = [] ↔ ∀ c ∈ a.take i, 97 ≤ c ∧ c ≤ 122) ∧ ys.length ≤ i ∧ Same H H') (fun D H' nD sD hD => ⟨by simp, Nat.le_refl _, sD⟩) ?_ ?_
    · rintro D i c ys H' nD hc ⟨e, yl, s⟩ hD
      have hi := (List.getElem?_eq_some_iff.mp hc).1
      have tk : (∀ x ∈ a.take (i + 1), 97 ≤ x ∧ x ≤ 122) ↔ (∀ x ∈ a.take i, 97 ≤ x ∧ x ≤ 122) ∧ (97 ≤ c ∧ c ≤ 122) := by
        rw [take_snoc hc]
        constructor
        · intro h
          exact ⟨fun x hx => h x (List.mem_append_left _ hx), h c (by simp)⟩
        · intro h x hx
          rcases List.mem_append.mp hx with z | z
          · exact h.1 x z
          · rw [List.mem_singleton.mp z]; exact h.2
      refine k_lcB rfl ?_
      walk_at "go"
      rw [Kt.abc_S]
      refine k_niC ?_
      walk_at "go"
      refine k_ifn (fun z => ?_) (fun z => ?_)
      · walk_at "go"
        refine ⟨_, hD, (by rw [sizeLine_eq]; omega), _, ⟨?_, by simp; omega, But.same nD s But.upd⟩, upd_same⟩
        rw [tk]
        constructor
        · intro w; simp at w
        · intro w; exact absurd ((Kt.abc_mem c).mpr w.2) z
      · refine ⟨_, ⟨?_, by omega, s⟩, hD⟩
        rw [tk, e]
        exact ⟨fun w => ⟨w, (Kt.abc_mem c).mp z⟩, fun w => w.1⟩
    rintro D ys H1 nD ⟨e, yl, s1⟩ hD
    rw [List.take_of_length_le (Nat.le_refl _)] at e
    walk_at "go"
    refine k_lstx (fun n H2 nn s2 hn => ?_) (by simp)
    refine k_eqNil (SqL.of (s2 _ _ hD)) hn ?_
    have eb : ys.isEmpty = decide (Kt.Nl a) := by
      rw [Bool.eq_iff_iff, List.isEmpty_iff, decide_eq_true_eq, e]
      exact ⟨fun h => ⟨List.length_pos_iff.mpr c1, by omega, h⟩, fun h => h.2.2⟩
    rw [eb]
    exact kk H2 (s1.trans s2)
end
end Lw
namespace Lw
open PySem PySem.Spec PyProof.Rows L2 Gx
section
variable {P : Program} {w : World} {K : PySem.W.Frag} {mg : Str → Option Value} {base : Heap} {f : Addr} {fd : FuncData}
theorem ok__law_is_count (F : FnP K "_law_is_count" "_law_is_count" s__law_is_count f fd) (T : Txt K mg) : FnOk P w K mg base (L2.CX P w) 1 f fd ["_law_word"] (sp__law_is_count K) := by
  refine F.ok sc__law_is_count (fun vs H Q E h => ?_) (fun cdv A outer s H vs Q E hr h => ?_)
  · obtain ⟨a, rfl, _⟩ := h; rfl
  · refine ⟨_, (pss_cons (ps_if (PW.pt (pw_or (pt_cmpR (op_eqK (K := K) rfl hr) (pv 0) pe_str (nomark _)) (pw_or1 (pt_cmpR (op_neK (K := K) rfl hr) (pe_lc (own := [("_law_sign", 1)]) (g := gName 1) (by rfl) sc__law_is_count.nd (pi_str (pv 0)) (blkOk_by (own := [("_law_sign", 1)]) (N := ["_law_word", "_law_sign"]) (sc := defScope s__law_is_count) (by decide +kernel)) (fun _ _ _ _ _ => pg_name (i := 1) sc__law_is_count.nd rfl (Or.inl rfl)) (fun _ _ _ _ _ => (pts_one (pt_cmpR (op_niUK (K := K) rfl hr) (pv 1) pe_str (by with_unfolding_all rfl)))) (fun _ _ _ _ _ => (pv 1))) (pe_lst pa_nil) (nomark _))))) (pss_one (ps_ret pe_bl)) pss_nil) (pss_one (ps_ret (pe_or (pe_cmpR (op_eqK (K := K) rfl hr) (pv 0) pe_str (nomark _)) (pe_one (pe_cmpR (op_neK (K := K) rfl hr) (pe_ix (ix_K (K := K) rfl) (pv 0) pe_int (fun _ _ => rfl)) pe_str (nomark _))))))), ?_⟩
    obtain ⟨a, rfl, al, kk⟩ := h
    walk_at "go"
    rw [show Str.ofString "" = SX.S [] from rfl]
    refine k_if (fun c => ?_) (fun c1 => ?_)
    · have c := SX.S_inj c
      have e : decide (Kt.Cnt a) = false := decide_eq_false fun z => z.1 c
      rw [e] at kk
      walk_at "go"
      exact kk H (Same.refl H)
    have c1 : a ≠ [] := fun z => c1 (by rw [z])
    walk_at "go"
    refine k_lcS (fun D i ys H' => (ys = [] ↔ ∀ c ∈ a.take i, 48 ≤ c ∧ c ≤ 57) ∧ ys.length ≤ i ∧ Same H H') (fun D H' nD sD hD => ⟨by simp, Nat.le_refl _, sD⟩) ?_ ?_
    · rintro D i c ys H' nD hc ⟨e, yl, s⟩ hD
      have hi := (List.getElem?_eq_some_iff.mp hc).1
      have tk : (∀ x ∈ a.take (i + 1), 48 ≤ x ∧ x ≤ 57) ↔ (∀ x ∈ a.take i, 48 ≤ x ∧ x ≤ 57) ∧ (48 ≤ c ∧ c ≤ 57) := by
        rw [take_snoc hc]
        constructor
        · intro h
          exact ⟨fun x hx => h x (List.mem_append_left _ hx), h c (by simp)⟩
        · intro h x hx
          rcases List.mem_append.mp hx with z | z
          · exact h.1 x z
          · rw [List.mem_singleton.mp z]; exact h.2
      refine k_lcB rfl ?_
      walk_at "go"
      rw [Tx.figures_S]
      refine k_niC ?_
      walk_at "go"
      refine k_ifn (fun z => ?_) (fun z => ?_)
      · walk_at "go"
        refine ⟨_, hD, (by rw [sizeLine_eq]; omega), _, ⟨?_, by simp; omega, But.same nD s But.upd⟩, upd_same⟩
        rw [tk]
        constructor
        · intro w; simp at w
        · intro w; exact absurd ((Tx.fig_mem c).mpr w.2) z
      · refine ⟨_, ⟨?_, by omega, s⟩, hD⟩
        rw [tk, e]
        exact ⟨fun w => ⟨w, (Tx.fig_mem c).mp z⟩, fun w => w.1⟩
    rintro D ys H1 nD ⟨e, yl, s1⟩ hD
    rw [List.take_of_length_le (Nat.le_refl _)] at e
    walk_at "go"
    refine k_lstx (fun n H2 nn s2 hn => ?_) (by simp)
    refine k_neNil (SqL.of (s2 _ _ hD)) hn ?_
    have s12 := s1.trans s2
    cases ei : ys.isEmpty with
    | false =>
      have h : decide (Kt.Cnt a) = false := decide_eq_false fun z => by
        have := e.mpr z.2.1
        rw [this] at ei
        cases ei
      rw [h] at kk
      walk_at "go"
      exact kk H2 s12
    | true =>
      have c2 := e.mp (List.isEmpty_iff.mp ei)
      walk_at "go"
      rw [show Str.ofString "0" = SX.S [48] by decide +kernel]
      refine k_if (fun c3 => ?_) (fun c3 => ?_)
      · have c3 := SX.S_inj c3
        have h : decide (Kt.Cnt a) = true := decide_eq_true ⟨c1, c2, .inl c3⟩
        rw [h] at kk
        exact kk H2 s12
      have c3 : a ≠ [48] := fun z => c3 (by rw [z])
      obtain ⟨h0, h1⟩ : ∃ h0, a[0]? = some h0 := ⟨_, List.getElem?_eq_getElem (List.length_pos_iff.mpr c1)⟩
      have hh : a.head? = some h0 := by rw [List.head?_eq_getElem?]; exact h1
      walk_at "go"
      refine k_ixS (by rw [SX.S_len, sizeLine_eq]; omega) (c := h0) (atI_nat (j := 0) h1) ?_
      rw [show (⟨#[h0]⟩ : Str) = SX.S [h0] from rfl]
      walk_at "go"
      have h : (!decide (SX.S [h0] = SX.S [48])) = decide (Kt.Cnt a) := by
        by_cases z : h0 = 48
        · rw [z, decide_eq_true rfl, decide_eq_false]
          · rfl
          · rintro ⟨_, _, q | q⟩
            · exact c3 q
            · exact q (by rw [hh, z])
        · rw [decide_eq_false (fun q => z (List.cons.inj (SX.S_inj q)).1), decide_eq_true]
          · rfl
          · exact ⟨c1, c2, .inr (by rw [hh]; intro q; exact z (Option.some.inj q))⟩
      rw [h]
      exact kk H2 s12
end
end Lw
namespace Lw
open PySem PySem.Spec PyProof.Rows L2 Gx
section
variable {P : Program} {w : World} {K : PySem.W.Frag} {mg : Str → Option Value} {base : Heap} {f : Addr} {fd : FuncData}
theorem ok__law_is_share (F : FnP K "_law_is_share" "_law_is_share" s__law_is_share f fd) (T : Txt K mg) (c__law_lowest : Cl P w K mg base 1 "_law_lowest" ["_law_a", "_law_b"] (sp__law_lowest K)) (c__law_is_count : Cl P w K mg base 1 "_law_is_count" ["_law_word"] (sp__law_is_count K)) : FnOk P w K mg base (L2.CX P w) 2 f fd ["_law_word"] (sp__law_is_share K) := by
  refine F.ok sc__law_is_share (fun vs H Q E h => ?_) (fun cdv A outer s H vs Q E hr h => ?_)
  · obtain ⟨a, rfl, _⟩ := h; rfl
  · refine ⟨_, (pss_cons (ps_set (i := 1) sc__law_is_share.nd rfl (Or.inl rfl) (pe_m1 PySem.F.slot_str_split PySem.F.type_str_split mt_splitU (pv 0) pe_str)) (pss_cons (ps_if (PW.pt (pw_or (pt_cmpR (op_neK (K := K) rfl hr) (pe_callB (callK (K := K) (r := rLenU) rfl call_lenU) (by rfl) T.n_len (by decide +kernel) (pa_cons (pv 1) pa_nil)) pe_int (nomark _)) (pw_or (pt_not (pt_val (pcall c__law_is_count hr (by first | decide | omega) (takes_of rfl rfl rfl rfl) (pa_cons (pe_ix (ix_K (K := K) rfl) (pv 1) pe_int (fun _ _ => rfl)) pa_nil)))) (pw_or1 (pt_not (pt_val (pcall c__law_is_count hr (by first | decide | omega) (takes_of rfl rfl rfl rfl) (pa_cons (pe_ix (ix_K (K := K) rfl) (pv 1) pe_int (fun _ _ => rfl)) pa_nil)))))))) (pss_one (ps_ret pe_bl)) pss_nil) (pss_cons (ps_set (i := 2) sc__law_is_share.nd rfl (Or.inl rfl) (pe_callTy call_intU (by rfl) T.n_int (by decide +kernel) (pa_cons (pe_ix (ix_K (K := K) rfl) (pv 1) pe_int (fun _ _ => rfl)) pa_nil))) (pss_cons (ps_set (i := 3) sc__law_is_share.nd rfl (Or.inl rfl) (pe_callTy call_intU (by rfl) T.n_int (by decide +kernel) (pa_cons (pe_ix (ix_K (K := K) rfl) (pv 1) pe_int (fun _ _ => rfl)) pa_nil))) (pss_cons (ps_if (PW.pt (pw_or (pt_not (pt_chain op_lt op_lt pe_int (pv 2) (pv 3))) (pw_or (pt_cmpR op_gt (pv 3) pe_int (nomark _)) (pw_or1 (pt_cmpR op_lt (pe_op (op_mulK (K := K) rfl) pe_int (pv 2)) (pv 3) (nomark _)))))) (pss_one (ps_ret pe_bl)) pss_nil) (pss_one (ps_ret (pe_cmpR (op_eqK (K := K) rfl hr) (pcall c__law_lowest hr (by first | decide | omega) (takes_of rfl rfl rfl rfl) (pa_cons (pv 2) (pa_cons (pv 3) pa_nil))) (pe_tup (pa_cons (pv 2) (pa_cons (pv 3) pa_nil))) (nomark _))))))))), ?_⟩
    obtain ⟨a, rfl, al, kk⟩ := h
    have no : ∀ H', Same H H' → ¬ Kt.Shr a → Q (.bl false) H' := fun H' s n => kk false H' s ⟨fun z => (nomatch z), fun z => absurd z n⟩
    walk_at "go"
    rw [show Str.ofString "/" = SX.S [47] by decide +kernel]
    refine k_split (by decide) (by rw [sizeLine_eq]; omega) (fun p H1 np s1 hp => ?_)
    have plen : ∀ z ∈ TL.spl [47] 0 [] a, z.length ≤ a.length := fun z hz => by
      have := Tx.spl_len _ _ _ _ hz; simpa using this
    walk_at "go"
    refine k_lenL ?_ (SqL.of hp)
    rw [List.length_map]
    walk_at "go"
    refine k_ifn (fun c1 => ?_) (fun c1 => ?_)
    · walk_at "go"
      refine no H1 s1 (fun h => c1 ?_)
      obtain ⟨f, g, e, _⟩ := Kt.shr_iff.mp h
      rw [e]
      rfl
    obtain ⟨f, g, e⟩ : ∃ f g, TL.spl [47] 0 [] a = [f, g] := by
      match TL.spl [47] 0 [] a, c1 with
      | [f, g], _ => exact ⟨f, g, rfl⟩
      | [], h => simp at h
      | [_], h => simp at h
      | _ :: _ :: _ :: _, h => simp at h; omega
    rw [e] at hp plen
    have fl := plen f (by simp)
    have gl := plen g (by simp)
    have un : Kt.Shr a → Kt.Cnt f ∧ Kt.Cnt g ∧ 0 < Tx.val f ∧ Tx.val f < Tx.val g ∧ Tx.val g ≤ 999999 ∧ Tx.val g ≤ 2 * Tx.val f ∧ Nat.gcd (Tx.val f) (Tx.val g) = 1 := fun h => by
      obtain ⟨f', g', e', h'⟩ := Kt.shr_iff.mp h
      rw [e] at e'
      cases e'
      exact h'
    walk_at "go"
    refine k_ixL (SqL.of hp) (v := .str (SX.S f)) (atI_nat (j := 0) rfl) ?_
    refine ⟨f, rfl, by omega, fun H2 s2 => ?_⟩
    have hp2 := s2 _ _ hp
    walk_at "go"
    refine k_ifn (fun c2 => ?_) (fun c2 => ?_)
    · walk_at "go"
      exact no H2 (s1.trans s2) (fun h => c2 (un h).1)
    walk_at "go"
    refine k_ixL (SqL.of hp2) (v := .str (SX.S g)) (atI_nat (j := 1) rfl) ?_
    refine ⟨g, rfl, by omega, fun H3 s3 => ?_⟩
    have hp3 := s3 _ _ hp2
    have s13 := s1.trans (s2.trans s3)
    walk_at "go"
    refine k_ifn (fun c3 => ?_) (fun c3 => ?_)
    · walk_at "go"
      exact no H3 s13 (fun h => c3 (un h).2.1)
    walk_at "go"
    refine k_ixL (SqL.of hp3) (v := .str (SX.S f)) (atI_nat (j := 0) rfl) ?_
    walk_at "go"
    refine k_intS (Kt.cnt_int c2 (by omega)) (by rw [SX.S_len]; omega) ?_
    walk_at "go"
    refine k_ixL (SqL.of hp3) (v := .str (SX.S g)) (atI_nat (j := 1) rfl) ?_
    walk_at "go"
    refine k_intS (Kt.cnt_int c3 (by omega)) (by rw [SX.S_len]; omega) ?_
    have s13' := s13
    walk_at "go"
    refine k_if (fun c4 => ?_) (fun c4 => ?_)
    rotate_left
    · walk_at "go"
      exact no H3 s13 (fun h => c4 (by have := (un h).2.2.1; omega))
    walk_at "go"
    refine k_ifn (fun c5 => ?_) (fun c5 => ?_)
    · walk_at "go"
      exact no H3 s13 (fun h => c5 (by have := (un h).2.2.2.1; omega))
    walk_at "go"
    refine k_if (fun c6 => ?_) (fun c6 => ?_)
    · walk_at "go"
      exact no H3 s13 (fun h => by have := (un h).2.2.2.2.1; omega)
    walk_at "go"
    refine k_mulB (m := 20) (n := 40) (by decide) (by omega) (by decide) ?_
    walk_at "go"
    refine k_if (fun c7 => ?_) (fun c7 => ?_)
    · walk_at "go"
      exact no H3 s13 (fun h => by have := (un h).2.2.2.2.2.1; omega)
    walk_at "go"
    refine ⟨_, _, rfl, by omega, okd_den (n := 64) (by omega) (by omega) (by decide), fun r H4 s4 nr hr => ?_⟩
    walk_at "go"
    refine k_tupx (fun r2 H5 n2 s5 hr2 => ?_) (by simp [sizeLine_eq])
    refine k_eqD (Fr.dp_fq (seqT_same s5 hr)) (show Dp K H5 (.ref r2) (.tuple [.int (Tx.val f : Int), .int (Tx.val g : Int)]) from .tup (SqT.of hr2) (.cons (.int _) (.cons (.int _) .nil))) ?_ (Fr.shaped_fq _) (by simp [SeqAt.shaped, PyData.canLay0, PyData.canLayAll0, PyData.depth, PyData.depthAll])
    have eq : PyData.eqv (Fr.fqd (Rat.divInt (Tx.val f : Int) (Tx.val g : Int))) (.tuple [.int (Tx.val f : Int), .int (Tx.val g : Int)]) = true ↔ Nat.gcd (Tx.val f) (Tx.val g) = 1 := by
      have e : PyData.eqv (Fr.fqd (Rat.divInt (Tx.val f : Int) (Tx.val g : Int))) (.tuple [.int (Tx.val f : Int), .int (Tx.val g : Int)]) = true ↔ (Rat.divInt (Tx.val f : Int) (Tx.val g : Int)).num = (Tx.val f : Int) ∧ ((Rat.divInt (Tx.val f : Int) (Tx.val g : Int)).den : Int) = (Tx.val g : Int) := by
        simp [Fr.fqd, PyData.eqv, PyData.eqvAll]
      rw [e]
      constructor
      · rintro ⟨h1, h2⟩
        have := (Rat.divInt (Tx.val f : Int) (Tx.val g : Int)).reduced
        unfold Nat.Coprime at this
        rw [h1] at this
        have h3 : (Rat.divInt (Tx.val f : Int) (Tx.val g : Int)).den = Tx.val g := by omega
        rw [h3] at this
        exact this
      · intro h
        exact Tx.of_gcd (by omega) h
    have c5' : Tx.val f < Tx.val g := by omega
    refine kk _ H5 (s13.trans (s4.trans s5)) (eq.trans ?_)
    constructor
    · intro h
      exact Kt.shr_iff.mpr ⟨f, g, e, c2, c3, by omega, c5', by omega, by omega, h⟩
    · intro h
      exact (un h).2.2.2.2.2.2
end
end Lw
namespace Lw
open PySem PySem.Spec PyProof.Rows L2 Gx
section
variable {P : Program} {w : World} {K : PySem.W.Frag} {mg : Str → Option Value} {base : Heap} {f : Addr} {fd : FuncData}
theorem ok__law_is_contest (F : FnP K "_law_is_contest" "_law_is_contest" s__law_is_contest f fd) (T : Txt K mg) (c__law_is_share : Cl P w K mg base 2 "_law_is_share" ["_law_word"] (sp__law_is_share K)) (c__law_is_count : Cl P w K mg base 1 "_law_is_count" ["_law_word"] (sp__law_is_count K)) (c__law_is_name : Cl P w K mg base 1 "_law_is_name" ["_law_word"] (sp__law_is_name K)) : FnOk P w K mg base (L2.CX P w) 3 f fd ["_law_text"] (sp__law_is_contest K) := by
  refine F.ok sc__law_is_contest (fun vs H Q E h => ?_) (fun cdv A outer s H vs Q E hr h => ?_)
  · obtain ⟨a, rfl, _⟩ := h; rfl
  · refine ⟨_, (pss_cons (ps_set (i := 1) sc__law_is_contest.nd rfl (Or.inl rfl) (pe_m1 PySem.F.slot_str_split PySem.F.type_str_split mt_splitU (pv 0) pe_str)) (pss_cons (ps_set (i := 2) sc__law_is_contest.nd rfl (Or.inl rfl) (pe_slice (sl_K (K := K) rfl) (pv 1) (po_some pe_int) po_none)) (pss_cons (ps_if (PW.pt (pw_or (pt_cmpR op_lt (pe_callB (callK (K := K) (r := rLenU) rfl call_lenU) (by rfl) T.n_len (by decide +kernel) (pa_cons (pv 1) pa_nil)) pe_int (nomark _)) (pw_or (pt_cmpR (op_neK (K := K) rfl hr) (pe_ix (ix_K (K := K) rfl) (pv 1) pe_int (fun _ _ => rfl)) pe_str (nomark _)) (pw_or (pt_cmpR op_gt (pe_callB (callK (K := K) (r := rLenU) rfl call_lenU) (by rfl) T.n_len (by decide +kernel) (pa_cons (pv 2) pa_nil)) pe_int (nomark _)) (pw_or1 (pt_cmpR op_lt (Ls.pe_lenSetS (K := K) rfl (by rfl) T.n_len (by rfl) T.n_set (pv 2)) (pe_callB (callK (K := K) (r := rLenU) rfl call_lenU) (by rfl) T.n_len (by decide +kernel) (pa_cons (pv 2) pa_nil)) (nomark _))))))) (pss_one (ps_ret pe_bl)) pss_nil) (pss_cons (ps_if (pt_cmpR (op_neK (K := K) rfl hr) (pe_lc (own := [("_law_name", 3)]) (g := gName 3) (by rfl) sc__law_is_contest.nd (pi_seqU (pv 2)) (blkOk_by (own := [("_law_name", 3)]) (N := ["_law_text", "_law_words", "_law_names", "_law_name"]) (sc := defScope s__law_is_contest) (by decide +kernel)) (fun _ _ _ _ _ => pg_name (i := 3) sc__law_is_contest.nd rfl (Or.inl rfl)) (fun _ _ _ _ _ => (pts_one (pt_not (pt_val (pcallN c__law_is_name hr (by first | decide | omega) (pa_cons (pv 3) pa_nil)))))) (fun _ _ _ _ _ => (pv 3))) (pe_lst pa_nil) (nomark _)) (pss_one (ps_ret pe_bl)) pss_nil) (pss_cons (ps_if (pt_cmpR (op_eqK (K := K) rfl hr) (pe_ix (ix_K (K := K) rfl) (pv 1) pe_int (fun _ _ => rfl)) pe_str (nomark _)) (pss_one (ps_ret (pe_and (pcall c__law_is_count hr (by first | decide | omega) (takes_of rfl rfl rfl rfl) (pa_cons (pe_ix (ix_K (K := K) rfl) (pv 1) pe_int (fun _ _ => rfl)) pa_nil)) (pe_one (pe_chain op_lt op_lt pe_int (pe_callTy call_intU (by rfl) T.n_int (by decide +kernel) (pa_cons (pe_ix (ix_K (K := K) rfl) (pv 1) pe_int (fun _ _ => rfl)) pa_nil)) (pe_callB (callK (K := K) (r := rLenU) rfl call_lenU) (by rfl) T.n_len (by decide +kernel) (pa_cons (pv 2) pa_nil))))))) pss_nil) (pss_one (ps_ret (pe_and (pe_cmpR (op_eqK (K := K) rfl hr) (pe_ix (ix_K (K := K) rfl) (pv 1) pe_int (fun _ _ => rfl)) pe_str (nomark _)) (pe_one (pcall c__law_is_share hr (by first | decide | omega) (takes_of rfl rfl rfl rfl) (pa_cons (pe_ix (ix_K (K := K) rfl) (pv 1) pe_int (fun _ _ => rfl)) pa_nil))))))))))), ?_⟩
    obtain ⟨a, rfl, al, kk⟩ := h
    have no : ∀ H', Same H H' → (¬ ∃ d ns, Kt.Wr a d ns) → Q (.bl false) H' := fun H' s n => kk false H' s ⟨fun z => (nomatch z), fun z => absurd z n⟩
    walk_at "go"
    rw [show Str.ofString " " = SX.S [32] by decide +kernel, show Str.ofString "of" = SX.S [111, 102] by decide +kernel, show Str.ofString "most" = SX.S [109, 111, 115, 116] by decide +kernel, show Str.ofString "over" = SX.S [111, 118, 101, 114] by decide +kernel]
    refine k_split (by decide) (by rw [sizeLine_eq]; omega) (fun p H1 np s1 hp => ?_)
    have plen : ∀ z ∈ TL.spl [32] 0 [] a, z.length ≤ a.length := fun z hz => by
      have := Tx.spl_len _ _ _ _ hz; simpa using this
    have cut3 : ∀ xs : List V, 3 ≤ xs.length → cutV xs (some 3) none = xs.drop 3 := fun xs h => Ct.from_ (k := 3) h
    walk_at "go"
    refine k_slL (SqL.of hp) (fun q H2 nq s2 hq => ?_)
    have hp2 := s2 _ _ hp
    have s12 := s1.trans s2
    walk_at "go"
    refine k_lenL ?_ (SqL.of hp2)
    rw [List.length_map]
    walk_at "go"
    refine k_if (fun c1 => ?_) (fun c1 => ?_)
    · walk_at "go"
      refine no H2 s12 (fun h => ?_)
      obtain ⟨x0, x1, ns, e, n, _⟩ := Kt.wr_iff.mp h
      have n1 := n.1
      rw [e] at c1
      simp at c1
      omega
    generalize hparts : TL.spl [32] 0 [] a = parts at hp2 hq c1 plen
    obtain ⟨w0, w1, w2, ns, rfl⟩ : ∃ w0 w1 w2 ns, parts = w0 :: w1 :: w2 :: ns := by
      match parts, c1 with
      | w0 :: w1 :: w2 :: ns, _ => exact ⟨w0, w1, w2, ns, rfl⟩
      | [], h => simp at h
      | [_], h => simp at h
      | [_, _], h => simp at h
    have n2 : 2 ≤ ns.length := by simp at c1; omega
    have un : (∃ d ns, Kt.Wr a d ns) → w2 = [111, 102] ∧ Kt.Nms ns ∧ ((w0 = [109, 111, 115, 116] ∧ Kt.Cnt w1 ∧ 1 ≤ Tx.val w1 ∧ Tx.val w1 < ns.length) ∨ (w0 = [111, 118, 101, 114] ∧ Kt.Shr w1)) := fun h => by
      obtain ⟨y0, y1, ms, e, n, h⟩ := Kt.wr_iff.mp h
      rw [hparts] at e
      cases e
      exact ⟨rfl, n, h⟩
    have hq' : H2 q = some (.lst (ns.map fun z => V.str (SX.S z))) := by
      rw [hq, cut3 _ (by simp)]
      rfl
    walk_at "go"
    refine k_ixL (SqL.of hp2) (v := .str (SX.S w2)) (atI_nat (j := 2) rfl) ?_
    walk_at "go"
    refine k_ifn (fun c2 => ?_) (fun c2 => ?_)
    · walk_at "go"
      exact no H2 s12 (fun h => c2 (by rw [(un h).1]))
    have c2 := SX.S_inj c2
    subst c2
    walk_at "go"
    refine k_lenL ?_ (SqL.of hq')
    rw [List.length_map]
    walk_at "go"
    refine k_if (fun c3 => ?_) (fun c3 => ?_)
    · walk_at "go"
      exact no H2 s12 (fun h => by have := (un h).2.1.2.1; omega)
    walk_at "go"
    have hS1 : SqL K H2 q ((ns.map SX.S).map V.str) := by rw [List.map_map]; exact SqL.of hq'
    refine Ls.k_lenSetS ?_
    walk_at "go"
    refine Ls.k_lenSetSx hS1 (by rw [List.length_map]; omega) ?_
    walk_at "go"
    refine k_lenL ?_ hS1
    rw [List.length_map, List.length_map]
    have dd : (Ls.dn (ns.map SX.S) ns.length = ns.length) ↔ ns.Nodup := by
      have := Ls.dn_iff (ns.map SX.S) ns.length (by rw [List.length_map]; exact Nat.le_refl _)
      rwa [List.take_of_length_le (by rw [List.length_map]; exact Nat.le_refl _), Kt.nodup_S] at this
    have dl := Ls.dn_le (ns.map SX.S) ns.length
    walk_at "go"
    rw [List.length_map]
    refine k_if (fun c4 => ?_) (fun c4 => ?_)
    · walk_at "go"
      exact no H2 s12 (fun h => by have := dd.mpr (un h).2.1.2.2.2; omega)
    have nd := dd.mp (by omega)
    walk_at "go"
    refine k_lcU (.inl (SqL.of hq')) (fun D i ys H' => (ys = [] ↔ ∀ z ∈ ns.take i, Kt.Nl z) ∧ ys.length ≤ i ∧ Same H2 H') (fun D H' nD sD hD => ⟨by simp, Nat.le_refl _, sD⟩) (fun D i ys H' nD h => h.2.2) ?_ ?_
    · rintro D i x ys H' nD hx ⟨e, yl, s⟩ hD
      obtain ⟨z, hzi, rfl⟩ := Cm.get_map hx
      have hi := (List.getElem?_eq_some_iff.mp hzi).1
      have tk : (∀ x ∈ ns.take (i + 1), Kt.Nl x) ↔ (∀ x ∈ ns.take i, Kt.Nl x) ∧ Kt.Nl z := by
        rw [take_snoc hzi]
        constructor
        · intro h
          exact ⟨fun x hx => h x (List.mem_append_left _ hx), h z (by simp)⟩
        · intro h x hx
          rcases List.mem_append.mp hx with z | z
          · exact h.1 x z
          · rw [List.mem_singleton.mp z]; exact h.2
      refine k_lcB rfl ?_
      walk_at "go"
      have zl := plen z (by simp [List.mem_of_getElem? hzi])
      refine ⟨z, rfl, by omega, fun H3 s3 => ?_⟩
      have hD3 := s3 _ _ hD
      walk_at "go"
      refine k_ifn (fun c => ?_) (fun c => ?_)
      · walk_at "go"
        refine ⟨_, hD3, (by rw [sizeLine_eq]; omega), _, ⟨?_, by simp; omega, But.same nD (s.trans s3) But.upd⟩, upd_same⟩
        rw [tk]
        constructor
        · intro w; simp at w
        · intro w; exact absurd w.2 c
      · refine ⟨_, ⟨?_, by omega, s.trans s3⟩, hD3⟩
        rw [tk, e]
        exact ⟨fun w => ⟨w, c⟩, fun w => w.1⟩
    rintro D ys H3 nD ⟨e, yl, s3⟩ hD
    rw [List.length_map, List.take_of_length_le (Nat.le_refl _)] at e
    walk_at "go"
    refine k_lstx (fun n H4 nn s4 hn => ?_) (by simp)
    refine k_neNil (SqL.of (s4 _ _ hD)) hn ?_
    have s14 := s12.trans (s3.trans s4)
    have hp4 := s4 _ _ (s3 _ _ hp2)
    have hq4 := s4 _ _ (s3 _ _ hq')
    walk_at "go"
    refine k_ifnb (fun c5 => ?_) (fun c5 => ?_)
    · walk_at "go"
      refine no H4 s14 (fun h => ?_)
      rw [e.mpr (un h).2.1.2.2.1] at c5
      cases c5
    have nms : Kt.Nms ns := ⟨n2, by omega, e.mp (List.isEmpty_iff.mp c5), nd⟩
    have w1l := plen w1 (by simp)
    walk_at "go"
    refine k_ixL (SqL.of hp4) (v := .str (SX.S w0)) (atI_nat (j := 0) rfl) ?_
    walk_at "go"
    refine k_if (fun c6 => ?_) (fun c6 => ?_)
    · have c6 := SX.S_inj c6
      subst c6
      walk_at "go"
      refine k_ixL (SqL.of hp4) (v := .str (SX.S w1)) (atI_nat (j := 1) rfl) ?_
      refine ⟨w1, rfl, by omega, fun H5 s5 => ?_⟩
      have s15 := s14.trans s5
      have hp5 := s5 _ _ hp4
      have un2 : (∃ d ns, Kt.Wr a d ns) → Kt.Cnt w1 ∧ 1 ≤ Tx.val w1 ∧ Tx.val w1 < ns.length := fun h => by
        rcases (un h).2.2 with h | h
        · exact h.2
        · exact absurd h.1 (by decide)
      walk_at "go"
      by_cases cc : Kt.Cnt w1
      · rw [decide_eq_true cc]
        walk_at "go"
        refine k_ixL (SqL.of hp5) (v := .str (SX.S w1)) (atI_nat (j := 1) rfl) ?_
        walk_at "go"
        refine k_intS (Kt.cnt_int cc (by omega)) (by rw [SX.S_len]; omega) ?_
        walk_at "go"
        refine k_if (fun c7 => ?_) (fun c7 => ?_)
        rotate_left
        · exact no H5 s15 (fun h => c7 (by have := (un2 h).2.1; omega))
        walk_at "go"
        refine k_lenL ?_ (SqL.of (s5 _ _ hq4))
        rw [List.length_map]
        walk_at "go"
        refine kk _ H5 s15 ?_
        rw [decide_eq_true_eq, Kt.wr_iff]
        exact ⟨fun z => ⟨_, _, ns, hparts, nms, .inl ⟨rfl, cc, by omega, by omega⟩⟩, fun h => by have := (un2 (Kt.wr_iff.mpr h)).2.2; omega⟩
      · rw [decide_eq_false cc]
        walk_at "go"
        exact no H5 s15 (fun h => cc (un2 h).1)
    walk_at "go"
    refine k_ixL (SqL.of hp4) (v := .str (SX.S w0)) (atI_nat (j := 0) rfl) ?_
    walk_at "go"
    by_cases c7 : w0 = [111, 118, 101, 114]
    · subst c7
      rw [decide_eq_true rfl]
      walk_at "go"
      refine k_ixL (SqL.of hp4) (v := .str (SX.S w1)) (atI_nat (j := 1) rfl) ?_
      walk_at "go"
      refine ⟨w1, rfl, by omega, fun b H5 s5 hb => kk b H5 (s14.trans s5) ?_⟩
      rw [hb, Kt.wr_iff]
      exact ⟨fun z => ⟨_, _, ns, hparts, nms, .inr ⟨rfl, z⟩⟩, fun h => by
        rcases (un (Kt.wr_iff.mpr h)).2.2 with h | h
        · exact absurd h.1 (by decide)
        · exact h.2⟩
    · rw [decide_eq_false (fun z => c7 (SX.S_inj z))]
      walk_at "go"
      exact no H4 s14 (fun h => by
        rcases (un h).2.2 with h | h
        · exact c6 (by rw [h.1])
        · exact c7 h.1)
end
end Lw
namespace Lw
open PySem PySem.Spec PyProof.Rows L2 Gx
section
variable {P : Program} {w : World} {K : PySem.W.Frag} {mg : Str → Option Value} {base : Heap} {f : Addr} {fd : FuncData}
theorem ok__law_piece (F : FnP K "_law_piece" "_law_piece" s__law_piece f fd) (T : Txt K mg) (c__law_draw : Cl P w K mg base 1 "_law_draw" ["_law_source_here", "_law_most"] (sp__law_draw K)) : FnOk P w K mg base (L2.CX P w) 2 f fd ["_law_source_here"] (sp__law_piece K) := by
  refine F.ok sc__law_piece (fun vs H Q E h => ?_) (fun cdv A outer s H vs Q E hr h => ?_)
  · obtain ⟨l, cs, rfl, _⟩ := h; rfl
  · refine ⟨_, (pss_cons (ps_set (i := 1) sc__law_piece.nd rfl (Or.inl rfl) (pe_lst (pa_cons pe_str (pa_cons pe_str (pa_cons pe_str (pa_cons pe_str (pa_cons pe_str (pa_cons pe_str (pa_cons pe_str (pa_cons pe_str (pa_cons pe_str (pa_cons pe_str (pa_cons pe_str (pa_cons pe_str (pa_cons pe_str (pa_cons pe_str (pa_cons pe_str (pa_cons pe_str (pa_cons pe_str pa_nil))))))))))))))))))) (pss_cons (ps_set (i := 1) sc__law_piece.nd rfl (Or.inl rfl) (pe_op (op_addK (K := K) rfl) (pv 1) (pe_lst (pa_cons pe_str (pa_cons pe_str (pa_cons pe_str (pa_cons pe_str (pa_cons pe_str (pa_cons pe_str (pa_cons pe_str (pa_cons pe_str (pa_cons pe_str (pa_cons pe_str (pa_cons pe_str pa_nil)))))))))))))) (pss_one (ps_ret (pe_ix (ix_K (K := K) rfl) (pe_op (op_addK (K := K) rfl) (pv 1) (pe_lst (pa_cons pe_str (pa_cons pe_str pa_nil)))) (pcall c__law_draw hr (by first | decide | omega) (takes_of rfl rfl rfl rfl) (pa_cons (pv 0) (pa_cons pe_int pa_nil))) (fun _ _ => rfl)))))), ?_⟩
    obtain ⟨l, cs, rfl, hl, sr, kk⟩ := h
    walk_at "go"
    refine k_lstx (fun u H1 nu s1 hu => ?_) (by simp [sizeLine_eq])
    walk_at "go"
    refine k_lstx (fun v H2 nv s2 hv => ?_) (by simp [sizeLine_eq])
    refine k_addL (s2 _ _ hu) hv (fun p H3 np s3 hp => ?_) (by simp [sizeLine_eq])
    walk_at "go"
    refine k_lstx (fun v2 H4 nv2 s4 hv2 => ?_) (by simp [sizeLine_eq])
    refine k_addL (s4 _ _ hp) hv2 (fun p2 H5 np2 s5 hp2 => ?_) (by simp [sizeLine_eq])
    have s05 := s1.trans (s2.trans (s3.trans (s4.trans s5)))
    have np2l : p2 ≠ l := fun e => by subst e; rw [(s1.trans (s2.trans (s3.trans s4))) _ _ hl] at np2; cases np2
    walk_at "go"
    refine ⟨l, cs, 30, rfl, s05 _ _ hl, sr, by decide, by decide, fun r cs2 H6 b6 hl6 sr6 r0 r1 => ?_⟩
    have hp6 := b6 _ _ np2l hp2
    walk_at "go"
    have key : ∀ (L : List Str) (k : Nat), (∀ s ∈ L, s.length ≤ 20) → k < L.length → ∃ a : List Nat, (L.map V.str)[k]? = some (.str (SX.S a)) ∧ a.length ≤ 20 := fun L k h hk => by
      refine ⟨(L[k]'hk).cps.toList, ?_, ?_⟩
      · rw [List.getElem?_map, List.getElem?_eq_getElem hk]; rfl
      · have := h _ (List.getElem_mem hk)
        simpa [Str.length] using this
    obtain ⟨k, rfl⟩ := Int.eq_ofNat_of_zero_le r0
    obtain ⟨a, ha, la⟩ := key ["most", "over", "of", "1", "2", "0", "5", "6", "01", "1/2", "2/4", "2/3", "1/3", "1", "3/2", "-1/2", "1/1", "999998/999999", "999999/1000000", "", "A", "ann1", "abcdefghi", "abcdefgh", "a", "/", "1/", "/2", "1/02", "most2"] k (by decide +kernel) (by show k < 30; omega)
    refine k_ixL (SqL.of hp6) (v := .str (SX.S a)) (atI_nat (j := k) ha) ?_
    exact kk a cs2 H6 ((But.of s05).trans b6) hl6 sr6 la
end
end Lw
namespace Lw
open PySem PySem.Spec PyProof.Rows L2 Gx
section
variable {P : Program} {w : World} {K : PySem.W.Frag} {mg : Str → Option Value} {base : Heap} {f : Addr} {fd : FuncData}
theorem ok__law_bent (F : FnP K "_law_bent" "_law_bent" s__law_bent f fd) (T : Txt K mg) (c__law_piece : Cl P w K mg base 2 "_law_piece" ["_law_source_here"] (sp__law_piece K)) (c__law_draw : Cl P w K mg base 1 "_law_draw" ["_law_source_here", "_law_most"] (sp__law_draw K)) : FnOk P w K mg base (L2.CX P w) 3 f fd ["_law_source_here", "_law_text"] (sp__law_bent K) := by
  refine F.ok sc__law_bent (fun vs H Q E h => ?_) (fun cdv A outer s H vs Q E hr h => ?_)
  · obtain ⟨l, cs, a, rfl, _⟩ := h; rfl
  · refine ⟨_, (pss_cons (ps_set (i := 2) sc__law_bent.nd rfl (Or.inl rfl) (pe_m1 PySem.F.slot_str_split PySem.F.type_str_split mt_splitU (pv 1) pe_str)) (pss_cons (ps_set (i := 3) sc__law_bent.nd rfl (Or.inl rfl) (pcall c__law_draw hr (by first | decide | omega) (takes_of rfl rfl rfl rfl) (pa_cons (pv 0) (pa_cons (pe_callB (callK (K := K) (r := rLenU) rfl call_lenU) (by rfl) T.n_len (by decide +kernel) (pa_cons (pv 2) pa_nil)) pa_nil)))) (pss_cons (ps_set (i := 4) sc__law_bent.nd rfl (Or.inl rfl) (pcall c__law_draw hr (by first | decide | omega) (takes_of rfl rfl rfl rfl) (pa_cons (pv 0) (pa_cons (pe_callB (callK (K := K) (r := rLenU) rfl call_lenU) (by rfl) T.n_len (by decide +kernel) (pa_cons (pv 1) pa_nil)) pa_nil)))) (pss_cons (ps_set (i := 5) sc__law_bent.nd rfl (Or.inl rfl) (pe_ix (ix_K (K := K) rfl) pe_str (pcall c__law_draw hr (by first | decide | omega) (takes_of rfl rfl rfl rfl) (pa_cons (pv 0) (pa_cons pe_int pa_nil))) (fun _ _ => rfl))) (pss_cons (ps_set (i := 6) sc__law_bent.nd rfl (Or.inl rfl) (pcall c__law_draw hr (by first | decide | omega) (takes_of rfl rfl rfl rfl) (pa_cons (pv 0) (pa_cons pe_int pa_nil)))) (C8.pss_cut (ps_if (pt_cmpR (op_eqK (K := K) rfl hr) (pv 6) pe_int (nomark _)) (pss_one (ps_expr (pe_bmK (K := K) rfl PySem.F.plainAttrs_list PySem.F.slot_list_pop PySem.F.type_list_pop mt_popAt (pv 2) (pa_cons (pv 3) pa_nil)))) pss_nil) (C8.pss_cut (ps_if (pt_cmpR (op_eqK (K := K) rfl hr) (pv 6) pe_int (nomark _)) (pss_one (ps_expr (pe_bmK (K := K) rfl PySem.F.plainAttrs_list PySem.F.slot_list_insert PySem.F.type_list_insert mt_insU (pv 2) (pa_cons (pv 3) (pa_cons (pe_ix (ix_K (K := K) rfl) (pv 2) (pv 3) (fun _ _ => rfl)) pa_nil))))) pss_nil) (C8.pss_cut (ps_if (pt_cmpR (op_eqK (K := K) rfl hr) (pv 6) pe_int (nomark _)) (pss_cons (ps_set (i := 7) sc__law_bent.nd rfl (Or.inl rfl) (pe_bmK (K := K) rfl PySem.F.plainAttrs_list PySem.F.slot_list_pop PySem.F.type_list_pop mt_popAt (pv 2) (pa_cons (pv 3) pa_nil))) (pss_one (ps_expr (pe_bmK (K := K) rfl PySem.F.plainAttrs_list PySem.F.slot_list_insert PySem.F.type_list_insert mt_insU (pv 2) (pa_cons (pe_op (op_addK (K := K) rfl) (pv 3) pe_int) (pa_cons (pv 7) pa_nil)))))) pss_nil) (C8.pss_cut (ps_if (pt_cmpR (op_eqK (K := K) rfl hr) (pv 6) pe_int (nomark _)) (pss_one (ps_asg (pcall c__law_piece hr (by first | decide | omega) (takes_of rfl rfl rfl rfl) (pa_cons (pv 0) pa_nil)) (pg_sub (pv 2) (pv 3) set_list))) pss_nil) (C8.pss_cut (ps_if (pt_cmpR (op_eqK (K := K) rfl hr) (pv 6) pe_int (nomark _)) (pss_one (ps_expr (pe_bmK (K := K) rfl PySem.F.plainAttrs_list PySem.F.slot_list_insert PySem.F.type_list_insert mt_insU (pv 2) (pa_cons (pv 3) (pa_cons (pcall c__law_piece hr (by first | decide | omega) (takes_of rfl rfl rfl rfl) (pa_cons (pv 0) pa_nil)) pa_nil))))) pss_nil) (pss_cons (ps_if (pt_cmpR (op_eqK (K := K) rfl hr) (pv 6) pe_int (nomark _)) (pss_one (ps_ret (pe_op (op_addK (K := K) rfl) (pe_op (op_addK (K := K) rfl) (pe_slice (sl_K (K := K) rfl) (pv 1) po_none (po_some (pv 4))) (pv 5)) (pe_slice (sl_K (K := K) rfl) (pv 1) (po_some (pe_op (op_addK (K := K) rfl) (pv 4) pe_int)) po_none)))) pss_nil) (pss_cons (ps_if (pt_cmpR (op_eqK (K := K) rfl hr) (pv 6) pe_int (nomark _)) (pss_one (ps_ret (pe_op (op_addK (K := K) rfl) (pe_op (op_addK (K := K) rfl) (pe_slice (sl_K (K := K) rfl) (pv 1) po_none (po_some (pv 4))) (pv 5)) (pe_slice (sl_K (K := K) rfl) (pv 1) (po_some (pv 4)) po_none)))) pss_nil) (pss_cons (ps_if (pt_cmpR (op_eqK (K := K) rfl hr) (pv 6) pe_int (nomark _)) (pss_one (ps_ret (pe_op (op_addK (K := K) rfl) (pe_op (op_addK (K := K) rfl) (pe_slice (sl_K (K := K) rfl) (pv 1) po_none (po_some (pv 4))) pe_str) (pe_slice (sl_K (K := K) rfl) (pv 1) (po_some (pv 4)) po_none)))) pss_nil) (pss_one (ps_ret (pe_m1 PySem.F.slot_str_join PySem.F.type_str_join (mt_joinK (K := K) rfl) pe_str (pv 2))))))))))))))))), ?_⟩
    obtain ⟨l, cs, a, rfl, hl, sr, a1, a2, kk⟩ := h
    walk_at "go"
    rw [show Str.ofString " " = SX.S [32] by decide +kernel]
    refine k_split (by decide) (by rw [sizeLine_eq]; omega) (fun p H1 np s1 hp => ?_)
    have npl : p ≠ l := fun e => by subst e; rw [np] at hl; cases hl
    have t0 : Kt.tot (TL.spl [32] 0 [] a) = a.length + 1 := by have := Kt.tot_spl 32 a []; simpa using this
    have ne0 := Tx.spl_ne [32] a 0 []
    generalize TL.spl [32] 0 [] a = ws0 at hp t0 ne0
    have wl0 := Kt.len_tot ws0
    have wp0 := List.length_pos_iff.mpr ne0
    walk_at "go"
    refine k_lenL ?_ (SqL.of hp)
    rw [List.length_map]
    walk_at "go"
    refine ⟨l, cs, _, rfl, s1 _ _ hl, sr, by omega, by omega, fun r1 cs1 H2 b2 hl2 sr2 r10 r11 => ?_⟩
    obtain ⟨j, rfl⟩ := Int.eq_ofNat_of_zero_le r10
    walk_at "go"
    refine k_lenS ?_ (by rw [SX.S_len, sizeLine_eq]; omega)
    rw [SX.S_len]
    walk_at "go"
    refine ⟨l, cs1, _, rfl, hl2, sr2, by omega, by omega, fun r2 cs2 H3 b3 hl3 sr3 r20 r21 => ?_⟩
    walk_at "go"
    refine ⟨l, cs2, 12, rfl, hl3, sr3, by decide, by decide, fun r3 cs3 H4 b4 hl4 sr4 r30 r31 => ?_⟩
    obtain ⟨sg, hsg⟩ : ∃ sg, atI (Str.ofString "0129/- ao.of").cps.toList r3 = some sg := by
      have h : ∀ k : Fin 12, (atI (Str.ofString "0129/- ao.of").cps.toList ((k.1 : Nat) : Int)).isSome = true := by decide +kernel
      obtain ⟨k, ek⟩ := Int.eq_ofNat_of_zero_le r30
      have := h ⟨k, by omega⟩
      rw [ek]
      exact Option.isSome_iff_exists.mp this
    refine k_ixS (by decide +kernel) hsg ?_
    rw [show (⟨#[sg]⟩ : Str) = SX.S [sg] from rfl]
    walk_at "go"
    refine ⟨l, cs3, 9, rfl, hl4, sr4, by decide, by decide, fun w cs4 H5 b5 hl5 sr5 w0 w1 => ?_⟩
    walk_at "go"
    have bp : ∀ {o}, H1 p = some o → H5 p = some o := fun h => b5 _ _ npl (b4 _ _ npl (b3 _ _ npl (b2 _ _ npl h)))
    have hp5 := bp hp
    have bl5 : But l H H5 := ((((But.of s1).trans b2).trans b3).trans b4).trans b5
    obtain ⟨x, hx⟩ : ∃ x, ws0[j]? = some x := ⟨_, List.getElem?_eq_getElem (by omega)⟩
    have xl := Kt.mem_tot (List.mem_of_getElem? hx)
    have nlp : l ≠ p := Ne.symm npl
    have mx : ∀ (ws : List (List Nat)), (ws.map fun z => V.str (SX.S z)) = ws.map (V.str ∘ SX.S) := fun _ => rfl
    refine k_cut (BI H l p a ws0 j r2 w sg 1) ?_ ?_
    · walk_at "go"
      refine k_if (fun c => ?_) (fun c => ?_)
      · walk_at "go"
        refine ⟨k_app0 hp5, ?_⟩
        walk_at "go"
        refine k_popAt (j := j) hp5 (y := .str (SX.S x)) (by rw [List.getElem?_map, hx]; rfl) (by rw [List.length_map]; omega) (fun H6 b6 hp6 => ?_)
        have := Kt.tot_erase ws0 j
        exact ⟨ws0.eraseIdx j, cs4, _, rfl, by rw [hp6, map_er], fun h => by omega, by omega, but_new np bl5 b6, b6 _ _ nlp hl5, sr5⟩
      · walk_at "go"
        exact ⟨ws0, cs4, _, rfl, hp5, fun _ => rfl, by omega, bl5, hl5, sr5⟩
    rintro σ H6 ⟨ws, cs6, u6, rfl, hp6, e6, t6, bl6, hl6, sr6⟩
    walk_at "go"
    refine k_cut (BI H l p a ws0 j r2 w sg 2) ?_ ?_
    · walk_at "go"
      refine k_if (fun c => ?_) (fun c => ?_)
      · rw [e6 (by omega)] at hp6
        walk_at "go"
        refine ⟨k_app0 hp6, ?_⟩
        walk_at "go"
        refine k_ixL (SqL.of hp6) (v := .str (SX.S x)) (atI_nat (j := j) (by rw [List.getElem?_map, hx]; rfl)) ?_
        walk_at "go"
        refine k_ins hp6 (by rw [List.length_map, sizeLine_eq]; omega) (by omega) (by omega) (fun H7 b7 hp7 => ?_)
        have := Kt.tot_ins ws0 j x
        exact ⟨ws0.take j ++ [x] ++ ws0.drop j, cs6, _, rfl, by rw [hp7, Int.toNat_natCast, List.map_append, List.map_append, List.map_take, List.map_drop]; rfl, fun h => by omega, by omega, but_new np bl6 b7, b7 _ _ nlp hl6, sr6⟩
      · walk_at "go"
        exact ⟨ws, cs6, _, rfl, hp6, fun h => e6 (by omega), t6, bl6, hl6, sr6⟩
    rintro σ H7 ⟨ws, cs7, u7, rfl, hp7, e7, t7, bl7, hl7, sr7⟩
    walk_at "go"
    refine k_cut (BI H l p a ws0 j r2 w sg 3) ?_ ?_
    · walk_at "go"
      refine k_if (fun c => ?_) (fun c => ?_)
      · rw [e7 (by omega)] at hp7
        walk_at "go"
        refine ⟨k_app0 hp7, ?_⟩
        walk_at "go"
        refine k_popAt (j := j) hp7 (y := .str (SX.S x)) (by rw [List.getElem?_map, hx]; rfl) (by rw [List.length_map]; omega) (fun H8 b8 hp8 => ?_)
        rw [map_er] at hp8
        have := Kt.tot_erase ws0 j
        have := Kt.len_tot (ws0.eraseIdx j)
        walk_at "go"
        refine ⟨k_app0 hp8, ?_⟩
        walk_at "go"
        refine k_ins hp8 (by rw [List.length_map, sizeLine_eq]; omega) (by omega) (by omega) (fun H9 b9 hp9 => ?_)
        have := Kt.tot_ins (ws0.eraseIdx j) (j + 1) x
        exact ⟨(ws0.eraseIdx j).take (j + 1) ++ [x] ++ (ws0.eraseIdx j).drop (j + 1), cs7, _, rfl, by rw [hp9, show ((j : Int) + 1).toNat = j + 1 by omega, List.map_append, List.map_append, List.map_take, List.map_drop]; rfl, fun h => by omega, by omega, but_new np (but_new np bl7 b8) b9, b9 _ _ nlp (b8 _ _ nlp hl7), sr7⟩
      · walk_at "go"
        exact ⟨ws, cs7, _, rfl, hp7, fun h => e7 (by omega), t7, bl7, hl7, sr7⟩
    rintro σ H8 ⟨ws, cs8, u8, rfl, hp8, e8, t8, bl8, hl8, sr8⟩
    walk_at "go"
    refine k_cut (BI H l p a ws0 j r2 w sg 4) ?_ ?_
    · walk_at "go"
      refine k_if (fun c => ?_) (fun c => ?_)
      · rw [e8 (by omega)] at hp8
        walk_at "go"
        refine ⟨l, cs8, rfl, hl8, sr8, fun y cs9 H9 b9 hl9 sr9 hy => ?_⟩
        have hp9 := b9 _ _ npl hp8
        walk_at "go"
        refine k_setL (j := j) hp9 (ixN_nat (by rw [List.length_map]; omega)) (fun H10 b10 hp10 => ?_)
        have := Kt.tot_set ws0 j y
        exact ⟨ws0.set j y, cs9, _, rfl, by rw [hp10, List.map_set], fun h => by omega, by omega, but_new np (bl8.trans b9) b10, b10 _ _ nlp hl9, sr9⟩
      · walk_at "go"
        exact ⟨ws, cs8, _, rfl, hp8, fun h => e8 (by omega), t8, bl8, hl8, sr8⟩
    rintro σ H9 ⟨ws, cs9, u9, rfl, hp9, e9, t9, bl9, hl9, sr9⟩
    walk_at "go"
    refine k_cut (BI H l p a ws0 j r2 w sg 5) ?_ ?_
    · walk_at "go"
      refine k_if (fun c => ?_) (fun c => ?_)
      · rw [e9 (by omega)] at hp9
        walk_at "go"
        refine ⟨k_app0 hp9, ?_⟩
        walk_at "go"
        refine ⟨l, cs9, rfl, hl9, sr9, fun y cs10 H10 b10 hl10 sr10 hy => ?_⟩
        have hp10 := b10 _ _ npl hp9
        walk_at "go"
        refine k_ins hp10 (by rw [List.length_map, sizeLine_eq]; omega) (by omega) (by omega) (fun H11 b11 hp11 => ?_)
        have := Kt.tot_ins ws0 j y
        exact ⟨ws0.take j ++ [y] ++ ws0.drop j, cs10, _, rfl, by rw [hp11, Int.toNat_natCast, List.map_append, List.map_append, List.map_take, List.map_drop]; rfl, fun h => by omega, by omega, but_new np (bl9.trans b10) b11, b11 _ _ nlp hl10, sr10⟩
      · walk_at "go"
        exact ⟨ws, cs9, _, rfl, hp9, fun h => e9 (by omega), t9, bl9, hl9, sr9⟩
    rintro σ H10 ⟨ws, cs10, u10, rfl, hp10, e10, t10, bl10, hl10, sr10⟩
    have add : ∀ (G : Hp) (a b : List Nat) (Q' : VK), a.length + b.length ≤ 100000 → Q' (.str (SX.S (a ++ b))) G → rAddU K (.str (SX.S a)) (.str (SX.S b)) G Q' := fun G a b Q' l q => k_addS (by rw [SX.S_cat]; exact q) (by rw [SX.S_len, SX.S_len, sizeLine_eq]; omega)
    have cut : ∀ (lo hi : Option Int) (Q2 : VK) (H2 : Hp), (∀ z : List Nat, z.length ≤ 100 → Q2 (.str (SX.S z)) H2) → rSlU K (.str (SX.S a)) lo hi H2 Q2 := fun lo hi Q2 H2 q => by
      refine k_slS ?_ (by rw [SX.S_len, sizeLine_eq]; omega)
      have e : (cutS (SX.S a) lo hi).length ≤ a.length := by rw [← SX.S_len a]; exact Tx.cut_le (SX.S a) lo hi
      generalize cutS (SX.S a) lo hi = z at e
      rw [show z = SX.S z.cps.toList from rfl]
      exact q _ (by have : z.cps.toList.length = z.length := rfl
                    omega)
    walk_at "go"
    refine k_if (fun c => ?_) (fun c => ?_)
    · walk_at "go"
      refine cut _ _ _ _ (fun z hz => ?_)
      walk_at "go"
      refine add _ _ _ _ (by simp; omega) ?_
      walk_at "go"
      refine cut _ _ _ _ (fun z2 hz2 => ?_)
      refine add _ _ _ _ (by simp; omega) ?_
      exact kk _ cs10 H10 bl10 hl10 sr10 (by simp; omega)
    walk_at "go"
    refine k_if (fun c => ?_) (fun c => ?_)
    · walk_at "go"
      refine cut _ _ _ _ (fun z hz => ?_)
      walk_at "go"
      refine add _ _ _ _ (by simp; omega) ?_
      walk_at "go"
      refine cut _ _ _ _ (fun z2 hz2 => ?_)
      refine add _ _ _ _ (by simp; omega) ?_
      exact kk _ cs10 H10 bl10 hl10 sr10 (by simp; omega)
    walk_at "go"
    refine k_if (fun c => ?_) (fun c => ?_)
    · walk_at "go"
      refine cut _ _ _ _ (fun z hz => ?_)
      walk_at "go"
      refine add _ _ _ _ (by simp; omega) ?_
      walk_at "go"
      refine cut _ _ _ _ (fun z2 hz2 => ?_)
      refine add _ _ _ _ (by simp; omega) ?_
      exact kk _ cs10 H10 bl10 hl10 sr10 (by simp; omega)
    walk_at "go"
    have w1 := Kt.len_tot ws
    have w2 := Kt.sum_tot ws
    refine k_join (ys := ws.map SX.S) (.inl (SqL.of (by rw [hp10, List.map_map]; rfl))) ?_ ?_
    · rw [SX.S_len, List.length_map, List.length_cons, List.length_nil]
      omega
    rw [SX.join_S]
    refine kk _ cs10 H10 bl10 hl10 sr10 ?_
    have := Kt.join_tot 32 ws
    omega
end
end Lw
namespace Lw
open PySem PySem.Spec PyProof.Rows L2 Gx
section
variable {P : Program} {w : World} {K : PySem.W.Frag} {mg : Str → Option Value} {base : Heap} {f : Addr} {fd : FuncData}
theorem ok__law_told (F : FnP K "_law_told" "_law_told" s__law_told f fd) (T : Txt K mg) (c_shown_contest : Cl P w K mg base 2 "shown_contest" ["contest"] (sp_shown_contest K)) (c_read_contest : Cl P w K mg base 6 "read_contest" ["text"] (sp_read_contest K)) : FnOk P w K mg base (L2.CX P w) 7 f fd ["_law_thing"] (sp__law_told K) := by
  refine F.ok sc__law_told (fun vs H Q E h => ?_) (fun cdv A outer s H vs Q E hr h => ?_)
  · obtain ⟨v, rfl, _⟩ := h; rfl
  · refine ⟨_, (pss_cons (ps_set (i := 1) sc__law_told.nd rfl (Or.inl rfl) pe_str) (pss_cons (ps_try_as (i := 2) rfl rfl sc__law_told.nd rfl rfl ⟨rfl, by decide, Or.inl T.g_SureError⟩ (takes_of rfl rfl rfl rfl) (fun W pn xe tk po => (pss_one (ps_set (i := 1) sc__law_told.nd rfl (Or.inl rfl) (pcall c_shown_contest hr (by first | decide | omega) tk (pa_cons (pcall c_read_contest hr (by first | decide | omega) tk (pa_cons (pv 0) pa_nil)) pa_nil))))) (fun a oe cls d pn hz hf => (pss_cons (ps_set (i := 3) sc__law_told.nd rfl (Or.inl rfl) (pe_lst (pa_cons (pe_callB (call_isEU hz hf) (by rfl) T.n_isinstance (by decide +kernel) (pa_cons (pv 2) (pa_cons (C8.pe_gc (v := .ref (He.ga K "NoFraction")) (by rfl) T.c_NoFraction) pa_nil))) (pa_cons (pe_callB (call_isEU hz hf) (by rfl) T.n_isinstance (by decide +kernel) (pa_cons (pv 2) (pa_cons (C8.pe_gc (v := .ref (He.ga K "NoNumber")) (by rfl) T.c_NoNumber) pa_nil))) (pa_cons (pe_callB (call_isEU hz hf) (by rfl) T.n_isinstance (by decide +kernel) (pa_cons (pv 2) (pa_cons (C8.pe_gc (v := .ref (He.ga K "Ended")) (by rfl) T.c_Ended) pa_nil))) (pa_cons (pe_callB (call_isEU hz hf) (by rfl) T.n_isinstance (by decide +kernel) (pa_cons (pv 2) (pa_cons (C8.pe_gc (v := .ref (He.ga K "NoMargin")) (by rfl) T.c_NoMargin) pa_nil))) pa_nil)))))) (pss_cons (ps_set (i := 3) sc__law_told.nd rfl (Or.inl rfl) (pe_op (op_addK (K := K) rfl) (pv 3) (pe_lst (pa_cons (pe_callB (call_isEU hz hf) (by rfl) T.n_isinstance (by decide +kernel) (pa_cons (pv 2) (pa_cons (C8.pe_gc (v := .ref (He.ga K "NoBallot")) (by rfl) T.c_NoBallot) pa_nil))) (pa_cons (pe_callB (call_isEU hz hf) (by rfl) T.n_isinstance (by decide +kernel) (pa_cons (pv 2) (pa_cons (C8.pe_gc (v := .ref (He.ga K "NoRow")) (by rfl) T.c_NoRow) pa_nil))) (pa_cons (pe_callB (call_isEU hz hf) (by rfl) T.n_isinstance (by decide +kernel) (pa_cons (pv 2) (pa_cons (C8.pe_gc (v := .ref (He.ga K "NoName")) (by rfl) T.c_NoName) pa_nil))) (pa_cons (pe_callB (call_isEU hz hf) (by rfl) T.n_isinstance (by decide +kernel) (pa_cons (pv 2) (pa_cons (C8.pe_gc (v := .ref (He.ga K "TooMany")) (by rfl) T.c_TooMany) pa_nil))) pa_nil))))))) (pss_cons (ps_set (i := 3) sc__law_told.nd rfl (Or.inl rfl) (pe_op (op_addK (K := K) rfl) (pv 3) (pe_lst (pa_cons (pe_callB (call_isEU hz hf) (by rfl) T.n_isinstance (by decide +kernel) (pa_cons (pv 2) (pa_cons (C8.pe_gc (v := .ref (He.ga K "NoOutcome")) (by rfl) T.c_NoOutcome) pa_nil))) (pa_cons (pe_callB (call_isEU hz hf) (by rfl) T.n_isinstance (by decide +kernel) (pa_cons (pv 2) (pa_cons (C8.pe_gc (v := .ref (He.ga K "NoStake")) (by rfl) T.c_NoStake) pa_nil))) (pa_cons (pe_not (pe_callB (call_isEU hz hf) (by rfl) T.n_isinstance (by decide +kernel) (pa_cons (pv 2) (pa_cons (pe_bltn (v := .ty "ValueError") (by rfl) T.n_ValueError (by decide +kernel) rfl) pa_nil)))) pa_nil)))))) (pss_one (ps_if (PW.pt (pw_and (pt_val (pe_callB (call_isEU hz hf) (by rfl) T.n_isinstance (by decide +kernel) (pa_cons (pv 2) (pa_cons (C8.pe_gc (v := .ref (He.ga K "NoText")) (by rfl) T.c_NoText) pa_nil)))) (pw_and (pt_cmpR op_isNU (pe_xf T.xf_NoText T.f_NoText_row hz hf (pv 2)) pe_non (nomark _)) (pw_and1 (pt_cmpR (op_niK (K := K) rfl) pe_bl (pv 3) (by with_unfolding_all rfl)))))) (pss_one (ps_set (i := 1) sc__law_told.nd rfl (Or.inl rfl) pe_str)) pss_nil))))))) (pss_one (ps_ret (pv 1))))), ?_⟩
    obtain ⟨v, rfl, h⟩ := h
    walk_at "go"
    refine ⟨v, rfl, ?_⟩
    rcases h with ⟨a, rfl, al, kw, ke⟩ | ⟨t, ht, hk, ke⟩
    · refine .inl ⟨a, rfl, al, fun d ns hw x H1 s1 hx => ?_, fun nw d H1 s1 hd => ?_⟩
      · obtain ⟨nm, _⟩ : Kt.Nms ns ∧ True := by
          obtain ⟨_, _, _, n, _⟩ := hw
          exact ⟨n, trivial⟩
        walk_at "go"
        refine ⟨x, d, ns, rfl, hx, Nat.le_trans nm.2.1 (by decide), fun z hz => Nat.le_trans (nm.2.2.1 z hz).2.1 (by decide), ?_, ?_⟩
        · obtain ⟨_, _, _, n, h⟩ := hw
          cases d with
          | most k => have := h.2.2.2.2; have := n.2.1; show k ≤ 100000; omega
          | over s => exact (Tx.sz_of h.2.1.2.1 h.2.1.2.2).mono (by decide)
        · rw [Kt.wr_back hw]
          walk_at "go"
          exact kw ⟨d, ns, hw⟩ H1 s1
      · refine ⟨true, T.m_NoText_SureError, fun _ b nb => ?_, fun z => (nomatch z)⟩
        have fin := ke nw
        walk_at "go"
        refine k_isED hd T.e_NoText T.i_NoText_NoFraction (fun _ h => h) ?_
        walk_at "go"
        refine k_isED hd T.e_NoText T.i_NoText_NoNumber (fun _ h => h) ?_
        walk_at "go"
        refine k_isED hd T.e_NoText T.i_NoText_Ended (fun _ h => h) ?_
        walk_at "go"
        refine k_isED hd T.e_NoText T.i_NoText_NoMargin (fun _ h => h) ?_
        walk_at "go"
        refine k_lstx (fun l1 H2 n1 s2 h1 => ?_) (by simp [sizeLine_eq])
        walk_at "go"
        refine k_isED (s2 _ _ hd) T.e_NoText T.i_NoText_NoBallot (fun _ h => h) ?_
        walk_at "go"
        refine k_isED (s2 _ _ hd) T.e_NoText T.i_NoText_NoRow (fun _ h => h) ?_
        walk_at "go"
        refine k_isED (s2 _ _ hd) T.e_NoText T.i_NoText_NoName (fun _ h => h) ?_
        walk_at "go"
        refine k_isED (s2 _ _ hd) T.e_NoText T.i_NoText_TooMany (fun _ h => h) ?_
        walk_at "go"
        refine k_lstx (fun l2 H3 n2 s3 h2 => ?_) (by simp [sizeLine_eq])
        refine k_addL (s3 _ _ h1) h2 (fun l3 H4 n3 s4 h3 => ?_) (by simp [sizeLine_eq])
        have s24 := s2.trans (s3.trans s4)
        walk_at "go"
        refine k_isED (s24 _ _ hd) T.e_NoText T.i_NoText_NoOutcome (fun _ h => h) ?_
        walk_at "go"
        refine k_isED (s24 _ _ hd) T.e_NoText T.i_NoText_NoStake (fun _ h => h) ?_
        walk_at "go"
        refine k_isED (s24 _ _ hd) T.e_NoText T.i_NoText_ValueError (fun _ h => h) ?_
        walk_at "go"
        refine k_lstx (fun l4 H5 n5 s5 h5 => ?_) (by simp [sizeLine_eq])
        refine k_addL (s5 _ _ h3) h5 (fun l6 H6 n6 s6 h6 => ?_) (by simp [sizeLine_eq])
        have s26 := s24.trans (s5.trans s6)
        walk_at "go"
        refine k_isED (s26 _ _ hd) T.e_NoText T.i_NoText_NoText (fun _ h => h) ?_
        walk_at "go"
        refine k_xfx (s26 _ _ hd) ?_
        walk_at "go"
        refine k_ni0 (b := false) (.inl (SqL.of h6)) rfl rfl rfl ?_
        walk_at "go"
        exact fin H6 (s1.trans s26)
    · refine .inr ⟨t, ht, hk, fun d H1 s1 hd => ?_⟩
      refine ⟨true, T.m_NoText_SureError, fun _ b nb => ?_, fun z => (nomatch z)⟩
      have fin := ke
      walk_at "go"
      refine k_isED hd T.e_NoText T.i_NoText_NoFraction (fun _ h => h) ?_
      walk_at "go"
      refine k_isED hd T.e_NoText T.i_NoText_NoNumber (fun _ h => h) ?_
      walk_at "go"
      refine k_isED hd T.e_NoText T.i_NoText_Ended (fun _ h => h) ?_
      walk_at "go"
      refine k_isED hd T.e_NoText T.i_NoText_NoMargin (fun _ h => h) ?_
      walk_at "go"
      refine k_lstx (fun l1 H2 n1 s2 h1 => ?_) (by simp [sizeLine_eq])
      walk_at "go"
      refine k_isED (s2 _ _ hd) T.e_NoText T.i_NoText_NoBallot (fun _ h => h) ?_
      walk_at "go"
      refine k_isED (s2 _ _ hd) T.e_NoText T.i_NoText_NoRow (fun _ h => h) ?_
      walk_at "go"
      refine k_isED (s2 _ _ hd) T.e_NoText T.i_NoText_NoName (fun _ h => h) ?_
      walk_at "go"
      refine k_isED (s2 _ _ hd) T.e_NoText T.i_NoText_TooMany (fun _ h => h) ?_
      walk_at "go"
      refine k_lstx (fun l2 H3 n2 s3 h2 => ?_) (by simp [sizeLine_eq])
      refine k_addL (s3 _ _ h1) h2 (fun l3 H4 n3 s4 h3 => ?_) (by simp [sizeLine_eq])
      have s24 := s2.trans (s3.trans s4)
      walk_at "go"
      refine k_isED (s24 _ _ hd) T.e_NoText T.i_NoText_NoOutcome (fun _ h => h) ?_
      walk_at "go"
      refine k_isED (s24 _ _ hd) T.e_NoText T.i_NoText_NoStake (fun _ h => h) ?_
      walk_at "go"
      refine k_isED (s24 _ _ hd) T.e_NoText T.i_NoText_ValueError (fun _ h => h) ?_
      walk_at "go"
      refine k_lstx (fun l4 H5 n5 s5 h5 => ?_) (by simp [sizeLine_eq])
      refine k_addL (s5 _ _ h3) h5 (fun l6 H6 n6 s6 h6 => ?_) (by simp [sizeLine_eq])
      have s26 := s24.trans (s5.trans s6)
      walk_at "go"
      refine k_isED (s26 _ _ hd) T.e_NoText T.i_NoText_NoText (fun _ h => h) ?_
      walk_at "go"
      refine k_xfx (s26 _ _ hd) ?_
      walk_at "go"
      refine k_ni0 (b := false) (.inl (SqL.of h6)) rfl rfl rfl ?_
      walk_at "go"
      exact fin H6 (s1.trans s26)
end
end Lw
namespace Lw
open PySem PySem.Spec PyProof.Rows L2 Gx
section
variable {P : Program} {w : World} {K : PySem.W.Frag} {mg : Str → Option Value} {base : Heap} {f : Addr} {fd : FuncData}
theorem ok_law (F : FnP K "law" "law" s_law f fd) (T : Txt K mg) (c__law_told : Cl P w K mg base 7 "_law_told" ["_law_thing"] (sp__law_told K)) (c__law_draw : Cl P w K mg base 1 "_law_draw" ["_law_source_here", "_law_most"] (sp__law_draw K)) (c__law_is_contest : Cl P w K mg base 3 "_law_is_contest" ["_law_text"] (sp__law_is_contest K)) (c__law_bent : Cl P w K mg base 3 "_law_bent" ["_law_source_here", "_law_text"] (sp__law_bent K)) (c__law_half : Cl P w K mg base 2 "_law_half" ["_law_source_here"] (sp__law_half K)) (c__law_unlike : Cl P w K mg base 2 "_law_unlike" ["_law_source_here", "_law_many"] (sp__law_unlike K)) (c__law_source : Cl P w K mg base 1 "_law_source" ["_law_script"] (sp__law_source K)) : FnOk P w K mg base CX0 8 f fd ["_law_script"] (sp_law K) := by
  refine F.ok sc_law (fun vs H Q E h => ?_) (fun cdv A outer s H vs Q E hr h => ?_)
  · obtain ⟨a, ns, rfl, _⟩ := h; rfl
  · refine ⟨_, PSs.nox (pss_cons (ps_set (i := 1) sc_law.nd rfl (Or.inl rfl) (pcallN c__law_source hr (by first | decide | omega) (pa_cons (pv 0) pa_nil))) (pss_cons (ps_set (i := 2) sc_law.nd rfl (Or.inl rfl) (pcallN c__law_unlike hr (by first | decide | omega) (pa_cons (pv 1) (pa_cons (pe_op (op_addK (K := K) rfl) pe_int (pcallN c__law_draw hr (by first | decide | omega) (pa_cons (pv 1) (pa_cons pe_int pa_nil)))) pa_nil)))) (pss_cons (ps_set (i := 3) sc_law.nd rfl (Or.inl rfl) (pe_op (op_addK (K := K) rfl) (pe_op (op_addK (K := K) rfl) (pe_op (op_addK (K := K) rfl) pe_str (pe_callTy call_strU (by rfl) T.n_str (by decide +kernel) (pa_cons (pe_op (op_addK (K := K) rfl) pe_int (pcallN c__law_draw hr (by first | decide | omega) (pa_cons (pv 1) (pa_cons (pe_op op_sub (pe_callB (callK (K := K) (r := rLenU) rfl call_lenU) (by rfl) T.n_len (by decide +kernel) (pa_cons (pv 2) pa_nil)) pe_int) pa_nil)))) pa_nil))) pe_str) (pe_m1 PySem.F.slot_str_join PySem.F.type_str_join (mt_joinK (K := K) rfl) pe_str (pv 2)))) (C8.pss_cut (ps_if (pt_cmpR (op_eqK (K := K) rfl hr) (pcallN c__law_draw hr (by first | decide | omega) (pa_cons (pv 1) (pa_cons pe_int pa_nil))) pe_int (nomark _)) (pss_cons (ps_asg (pcallN c__law_half hr (by first | decide | omega) (pa_cons (pv 1) pa_nil)) (pg_tup rfl (pgs_cons (pg_name (i := 4) sc_law.nd rfl (Or.inl rfl)) (pgs_cons (pg_name (i := 5) sc_law.nd rfl (Or.inl rfl)) pgs_nil)))) (pss_one (ps_set (i := 3) sc_law.nd rfl (Or.inl rfl) (pe_op (op_addK (K := K) rfl) (pe_op (op_addK (K := K) rfl) (pe_op (op_addK (K := K) rfl) (pe_op (op_addK (K := K) rfl) (pe_op (op_addK (K := K) rfl) pe_str (pe_callTy call_strU (by rfl) T.n_str (by decide +kernel) (pa_cons (pv 4) pa_nil))) pe_str) (pe_callTy call_strU (by rfl) T.n_str (by decide +kernel) (pa_cons (pv 5) pa_nil))) pe_str) (pe_m1 PySem.F.slot_str_join PySem.F.type_str_join (mt_joinK (K := K) rfl) pe_str (pv 2)))))) pss_nil) (pss_cons (ps_for PassesOwn.never rfl (pi_range1 rfl T.n_range (pa_cons pe_int pa_nil)) (pg_name (i := 6) sc_law.nd rfl (Or.inl rfl)) (pss_cons (ps_set (i := 7) sc_law.nd rfl (Or.inl rfl) (pcallN c__law_bent hr (by first | decide | omega) (pa_cons (pv 1) (pa_cons (pv 3) pa_nil)))) (pss_one (ps_if (pt_cmpR (op_neK (K := K) rfl hr) (pcallN c__law_told hr (by first | decide | omega) (pa_cons (pv 7) pa_nil)) (pe_ix (ix_K (K := K) rfl) (pe_lst (pa_cons pe_str (pa_cons (pv 7) pa_nil))) (pe_callTy call_intU (by rfl) T.n_int (by decide +kernel) (pa_cons (pcallN c__law_is_contest hr (by first | decide | omega) (pa_cons (pv 7) pa_nil)) pa_nil)) (fun _ _ => rfl)) (nomark _)) (pss_one (ps_ret pe_bl)) pss_nil)))) (pss_cons (ps_set (i := 8) sc_law.nd rfl (Or.inl rfl) (pe_ix (ix_K (K := K) rfl) (pe_lst (pa_cons pe_non (pa_cons pe_int (pa_cons pe_bl (pa_cons (pe_lst (pa_cons pe_str pa_nil)) (pa_cons (pe_tup (pa_cons (pv 3) pa_nil)) (pa_cons pe_dnewK (pa_cons (pe_lst pa_nil) (pa_cons (pe_tup pa_nil) (pa_cons pe_int pa_nil)))))))))) (pcallN c__law_draw hr (by first | decide | omega) (pa_cons (pv 1) (pa_cons pe_int pa_nil))) (fun _ _ => rfl))) (pss_one (ps_ret (pe_and (pe_cmpR (op_eqK (K := K) rfl hr) (pcallN c__law_told hr (by first | decide | omega) (pa_cons (pv 8) pa_nil)) pe_str (nomark _)) (pe_one (pe_cmpR (op_eqK (K := K) rfl hr) (pcallN c__law_told hr (by first | decide | omega) (pa_cons (pv 3) pa_nil)) (pv 3) (nomark _)))))))))))), ?_⟩
    obtain ⟨a, ns, rfl, hS, hl, kk⟩ := h
    walk_at "go"
    refine ⟨a, ns, rfl, hS, hl, fun l cs H1 s1 nl hl1 sr1 => ?_⟩
    walk_at "go"
    refine ⟨l, cs, 5, rfl, hl1, sr1, by decide, by decide, fun r cs2 H2 b2 hl2 sr2 r0 r1 => ?_⟩
    walk_at "go"
    obtain ⟨M, eM⟩ := Int.eq_ofNat_of_zero_le (show 0 ≤ 2 + r by omega)
    rw [eM]
    refine ⟨l, cs2, M, rfl, hl2, sr2, by omega, by omega, fun q ns cs3 H3 b3 hl3 sr3 nq hq hlen hnd hnm => ?_⟩
    have nql : q ≠ l := fun e => by subst e; rw [nq] at hl2; cases hl2
    walk_at "go"
    obtain ⟨zs, rfl⟩ : ∃ zs : List (List Nat), ns = zs.map SX.S := ⟨ns.map fun s => s.cps.toList, by
      rw [List.map_map]
      conv => lhs; rw [← List.map_id ns]
      refine List.map_congr_left fun s _ => ?_
      show s = SX.S s.cps.toList
      rfl⟩
    rw [List.length_map] at hlen
    have nms : Kt.Nms zs := ⟨by omega, by omega, fun z hz => Kt.nl_of (hnm _ (List.mem_map_of_mem hz)), Kt.nodup_S.mp hnd⟩
    have zl : ∀ z ∈ zs, z.length ≤ 8 := fun z hz => (nms.2.2.1 z hz).2.1
    refine k_lenL ?_ (SqL.of hq)
    rw [List.length_map, List.length_map, hlen]
    walk_at "go"
    refine ⟨l, cs3, (M : Int) - 1, rfl, hl3, sr3, by omega, by omega, fun r4 cs4 H4 b4 hl4 sr4 r40 r41 => ?_⟩
    obtain ⟨k, rfl⟩ := Int.eq_ofNat_of_zero_le r40
    have hq4 := b4 _ _ nql hq
    have add : ∀ (G : Hp) (a b : List Nat) (Q' : VK), a.length + b.length ≤ 100000 → Q' (.str (SX.S (a ++ b))) G → rAddU K (.str (SX.S a)) (.str (SX.S b)) G Q' := fun G a b Q' l q => k_addS (by rw [SX.S_cat]; exact q) (by rw [SX.S_len, SX.S_len, sizeLine_eq]; omega)
    have jl := Kt.joinL_len zs zl
    have sl := Kt.sum_len zs zl
    have esp : Str.ofString " " = SX.S [32] := by decide +kernel
    have eof : Str.ofString " of " = SX.S [32, 111, 102, 32] := by decide +kernel
    have join : ∀ (G : Hp) (Q' : VK), G q = some (.lst ((zs.map SX.S).map V.str)) → Q' (.str (SX.S (TL.joinL [32] zs))) G → rJoinU K (.str (Str.ofString " ")) [.ref q] G Q' := fun G Q' h k => by
      refine k_join (ys := zs.map SX.S) (.inl (SqL.of h)) ?_ ?_
      · have e : (Str.ofString " ").length = 1 := by decide +kernel
        rw [e, List.length_map]
        omega
      · rw [esp, SX.join_S]
        exact k
    walk_at "go"
    obtain ⟨s, es, ka, kb⟩ : ∃ s : Nat, (1 : Int) + (k : Int) = (s : Int) ∧ 1 ≤ s ∧ s < M := ⟨1 + k, by omega, by omega, by omega⟩
    rw [es]
    have ln : (TL.numL s).length ≤ 6 := Tx.len_of (k := 6) (by omega) (by decide)
    refine k_strI ?_ (Cm.log_lt (n := 17) (by show (s : Int).natAbs < 131072; omega) (by decide))
    rw [show toString (s : Int) = SX.S (TL.numL s) from Tx.T_nat s, show Str.ofString "most " = SX.S [109, 111, 115, 116, 32] by decide +kernel]
    refine add _ _ _ _ (by simp; omega) ?_
    walk_at "go"
    rw [eof]
    refine add _ _ _ _ (by simp; omega) ?_
    walk_at "go"
    refine join H4 _ hq4 ?_
    refine add _ _ _ _ (by simp; omega) ?_
    rw [show [109, 111, 115, 116, 32] ++ TL.numL s ++ [32, 111, 102, 32] ++ TL.joinL [32] zs = Kt.shL (.most s) zs from rfl]
    have fine1 : Kt.Fine (.most s) zs := ⟨nms, by omega, by omega⟩
    have sl100 : ∀ d, Kt.Fine d zs → 1 ≤ (Kt.shL d zs).length ∧ (Kt.shL d zs).length ≤ 100 := fun d fn => by
      obtain ⟨hn, hd⟩ := fn
      cases d with
      | most k =>
        have ln : (TL.numL k).length ≤ 6 := Tx.len_of (k := 6) (by have := hd.2; omega) (by decide)
        simp [Kt.shL]
        omega
      | over s =>
        obtain ⟨h0, h1, h2⟩ := hd
        have a := Cm.num_pos (Kt.half_pos h0)
        have b := Cm.num_lt h1
        have l1 : (TL.numL s.num.natAbs).length ≤ 6 := Tx.len_of (k := 6) (by omega) (by decide)
        have l2 : (TL.numL s.den).length ≤ 6 := Tx.len_of (k := 6) (by omega) (by decide)
        have e : (Tx.sfL s).length ≤ 13 := by
          unfold Tx.sfL Tx.tx
          rw [if_neg (by omega)]
          split <;> simp <;> omega
        simp [Kt.shL]
        omega
    walk_at "go"
    refine k_cut (fun σ H' => ∃ (d : Kt.Kd) (cs' : List Int) (t4 t5 : Option V), σ = [some (.ref a), some (.ref l), some (.ref q), some (.str (SX.S (Kt.shL d zs))), t4, t5, none, none, none] ∧ Kt.Fine d zs ∧ H' l = some (.lst (cs'.map V.int)) ∧ Sr.Src cs') ?_ ?_
    · walk_at "go"
      refine ⟨l, cs4, 2, rfl, hl4, sr4, by decide, by decide, fun r5 cs5 H5 b5 hl5 sr5 r50 r51 => ?_⟩
      walk_at "go"
      refine k_if (fun c => ?_) (fun c => ?_)
      rotate_left
      · walk_at "go"
        exact ⟨_, cs5, _, _, rfl, fine1, hl5, sr5⟩
      walk_at "go"
      refine ⟨l, cs5, rfl, hl5, sr5, fun z x part whole cs6 H6 b6 hl6 sr6 nz hz ex p1 p2 p3 p4 => ?_⟩
      have hq6 := b6 _ _ nql (b5 _ _ nql hq4)
      have sp := Cm.share_pos p1 p2
      rw [← ex] at sp
      have sd : (x.den : Int) ≤ 2 * x.num := by rw [ex]; exact Co.den_le p1 p2 p4
      have h0 : (1/2 : Rat) ≤ x := by
        rw [Rat.le_iff, Cm.half_num, Cm.half_den]
        omega
      have h2 : x.den ≤ 999999 := by
        have := Fr.divInt_den_le (a := part) (b := whole) (by omega)
        rw [← ex] at this
        omega
      have np1 := Cm.num_pos sp.1
      have np2 := Cm.num_lt sp.2
      have d1 : x.den ≠ 1 := fun e => by omega
      walk_at "go"
      refine k_gtup hz rfl ?_
      walk_at "go"
      refine k_strI ?_ (Cm.log_lt (n := 20) (by show x.num.natAbs < 1048576; omega) (by decide))
      have e1 : (Tx.tx x.num).length ≤ 7 := by
        unfold Tx.tx
        rw [if_neg (by omega)]
        exact Nat.le_trans (Tx.len_of (k := 6) (by omega) (by decide)) (by decide)
      have e2 : (TL.numL x.den).length ≤ 6 := Tx.len_of (k := 6) (by omega) (by decide)
      rw [show toString x.num = SX.S (Tx.tx x.num) from Tx.T_tx x.num, show Str.ofString "over " = SX.S [111, 118, 101, 114, 32] by decide +kernel]
      refine add _ _ _ _ (by simp; omega) ?_
      walk_at "go"
      rw [show Str.ofString "/" = SX.S [47] by decide +kernel]
      refine add _ _ _ _ (by simp; omega) ?_
      walk_at "go"
      refine k_strI ?_ (Cm.log_lt (n := 20) (by show (x.den : Int).natAbs < 1048576; omega) (by decide))
      rw [show toString (x.den : Int) = SX.S (TL.numL x.den) from Tx.T_nat x.den]
      refine add _ _ _ _ (by simp; omega) ?_
      walk_at "go"
      refine add _ _ _ _ (by simp; omega) ?_
      walk_at "go"
      refine join H6 _ hq6 ?_
      refine add _ _ _ _ (by simp; omega) ?_
      have edue : [111, 118, 101, 114, 32] ++ Tx.tx x.num ++ [47] ++ TL.numL x.den ++ [32, 111, 102, 32] ++ TL.joinL [32] zs = Kt.shL (.over x) zs := by
        show _ = [111, 118, 101, 114, 32] ++ Tx.sfL x ++ [32, 111, 102, 32] ++ TL.joinL [32] zs
        unfold Tx.sfL
        rw [if_neg d1]
        simp
      rw [edue]
      walk_at "go"
      exact ⟨_, cs6, _, _, rfl, ⟨nms, h0, sp.2, h2⟩, hl6, sr6⟩
    rintro σ H5 ⟨d, cs5, t4, t5, rfl, fine, hl5, sr5⟩
    obtain ⟨sA, sB⟩ := sl100 d fine
    have wself := Kt.wr_shL fine
    generalize Kt.shL d zs = tx at sA sB wself
    walk_at "go"
    refine k_rng1 (by decide) ?_
    refine k_loopR (n := 5) (fun i σ H' => ∃ (cs' : List Int) (t6 t7 : Option V), σ = [some (.ref a), some (.ref l), some (.ref q), some (.str (SX.S tx)), t4, t5, t6, t7, none] ∧ H' l = some (.lst (cs'.map V.int)) ∧ Sr.Src cs') ⟨cs5, _, _, rfl, hl5, sr5⟩ ?_ ?_
    · rintro i σ H6 hi ⟨cs6, t6, t7, rfl, hl6, sr6⟩
      walk_at "go"
      refine ⟨l, cs6, tx, rfl, hl6, sr6, sA, sB, fun b cs7 H7 b7 hl7 sr7 hb => ?_⟩
      walk_at "go"
      by_cases ew : ∃ d ns, Kt.Wr b d ns
      · refine ⟨_, rfl, .inl ⟨b, rfl, hb, fun _ H8 s8 => ?_, fun no => absurd ew no⟩⟩
        walk_at "go"
        refine k_lstx (fun p H9 np s9 hp => ?_) (by simp [sizeLine_eq])
        walk_at "go"
        refine ⟨b, rfl, hb, fun v H10 s10 hv => ?_⟩
        rw [hv.mpr ew]
        walk_at "go"
        refine k_ixL (SqL.of (s10 _ _ hp)) (v := .str (SX.S b)) (atI_nat (j := 1) rfl) ?_
        walk_at "go"
        refine k_ifn (fun z => absurd rfl z) (fun _ => ?_)
        walk_at "go"
        exact ⟨cs7, _, _, rfl, s10 _ _ (s9 _ _ (s8 _ _ hl7)), sr7⟩
      · refine ⟨_, rfl, .inl ⟨b, rfl, hb, fun yes => absurd yes ew, fun _ H8 s8 => ?_⟩⟩
        walk_at "go"
        refine k_lstx (fun p H9 np s9 hp => ?_) (by simp [sizeLine_eq])
        walk_at "go"
        refine ⟨b, rfl, hb, fun v H10 s10 hv => ?_⟩
        rw [show v = false by cases v with | false => rfl | true => exact absurd (hv.mp rfl) ew]
        walk_at "go"
        refine k_ixL (SqL.of (s10 _ _ hp)) (v := .str (Str.ofString "refused")) (atI_nat (j := 0) rfl) ?_
        walk_at "go"
        refine k_ifn (fun z => absurd rfl z) (fun _ => ?_)
        walk_at "go"
        exact ⟨cs7, _, _, rfl, s10 _ _ (s9 _ _ (s8 _ _ hl7)), sr7⟩
    rintro σ H6 ⟨cs6, t6, t7, rfl, hl6, sr6⟩
    walk_at "go"
    refine k_lstx (fun p1 H7 n7 s7 h1 => ?_) (by simp [sizeLine_eq])
    walk_at "go"
    refine k_tupx (fun p2 H8 n8 s8 h2 => ?_) (by simp [sizeLine_eq])
    walk_at "go"
    refine k_dict1 (fun p3 H9 n9 s9 h3 => ?_)
    walk_at "go"
    refine k_lstx (fun p4 H10 n10 s10 h4 => ?_) (by simp [sizeLine_eq])
    walk_at "go"
    refine k_tupx (fun p5 H11 n11 s11 h5 => ?_) (by simp [sizeLine_eq])
    walk_at "go"
    refine k_lstx (fun p6 H12 n12 s12 h6 => ?_) (by simp [sizeLine_eq])
    walk_at "go"
    have hl12 := s12 _ _ (s11 _ _ (s10 _ _ (s9 _ _ (s8 _ _ (s7 _ _ hl6)))))
    have k1 := s12 _ _ (s11 _ _ (s10 _ _ (s9 _ _ (s8 _ _ h1))))
    have k2 := s12 _ _ (s11 _ _ (s10 _ _ (s9 _ _ h2)))
    have k3 := s12 _ _ (s11 _ _ (s10 _ _ h3))
    have k4 := s12 _ _ (s11 _ _ h4)
    have k5 := s12 _ _ h5
    refine ⟨l, cs6, 9, rfl, hl12, sr6, by decide, by decide, fun r13 cs13 H13 b13 hl13 sr13 r130 r131 => ?_⟩
    have ne : ∀ {p o}, H12 p = some o → o ≠ .lst (cs6.map V.int) → p ≠ l := fun h n e => by subst e; rw [hl12] at h; exact n (Option.some.inj h).symm
    have kinds : ∀ x ∈ [V.non, V.int 1, V.bl true, V.ref p1, V.ref p2, V.ref p3, V.ref p4, V.ref p5, V.int 0], ∃ t, TyX K H13 x t ∧ PySem.W.kitOne K t (.type "str") = some false := by
      intro x hx
      simp only [List.mem_cons, List.not_mem_nil, or_false] at hx
      rcases hx with rfl | rfl | rfl | rfl | rfl | rfl | rfl | rfl | rfl
      · exact ⟨.type "NoneType", .base .non, kit_ty (by decide +kernel)⟩
      · exact ⟨.type "int", .base (.int 1), kit_ty (by decide +kernel)⟩
      · exact ⟨.type "bool", .base (.bl true), kit_ty (by decide +kernel)⟩
      · exact ⟨.type "list", ty_lst (SqL.of (b13 _ _ (ne k1 (by intro z; injection z with z; cases cs6 with | nil => cases z | cons c r => injection z with z1 z2; cases z1)) k1)), kit_ty (by decide +kernel)⟩
      · exact ⟨.type "tuple", ty_tup (SqT.of (b13 _ _ (ne k2 (by simp)) k2)), kit_ty (by decide +kernel)⟩
      · exact ⟨.type "dict", .base (.dK (b13 _ _ (ne k3 (by simp)) k3)), kit_ty (by decide +kernel)⟩
      · exact ⟨.type "list", ty_lst (SqL.of (b13 _ _ (ne k4 (by intro z; injection z with z; obtain ⟨k9, r9, e9, _⟩ := sr6; rw [e9] at z; cases z)) k4)), kit_ty (by decide +kernel)⟩
      · exact ⟨.type "tuple", ty_tup (SqT.of (b13 _ _ (ne k5 (by simp)) k5)), kit_ty (by decide +kernel)⟩
      · exact ⟨.type "int", .base (.int 0), kit_ty (by decide +kernel)⟩
    obtain ⟨j, rfl⟩ := Int.eq_ofNat_of_zero_le r130
    obtain ⟨v, hv⟩ : ∃ v, [V.non, V.int 1, V.bl true, V.ref p1, V.ref p2, V.ref p3, V.ref p4, V.ref p5, V.int 0][j]? = some v := ⟨_, List.getElem?_eq_getElem (by simp; omega)⟩
    obtain ⟨ty, hty, kty⟩ := kinds v (List.mem_of_getElem? hv)
    refine k_ixL (SqL.of (b13 _ _ (ne h6 (by intro z; injection z with z; cases cs6 with | nil => cases z | cons c r => injection z with z1 z2; cases z1)) h6)) (v := v) (atI_nat (j := j) hv) ?_
    walk_at "go"
    refine ⟨v, rfl, .inr ⟨ty, hty, kty, fun H14 s14 => ?_⟩⟩
    walk_at "go"
    rw [decide_eq_true rfl]
    walk_at "go"
    refine ⟨_, rfl, .inl ⟨tx, rfl, by omega, fun _ H15 s15 => ?_, fun no => absurd ⟨_, _, wself⟩ no⟩⟩
    walk_at "go"
    rw [decide_eq_true rfl]
    exact kk _
end
end Lw
namespace Lw
open PySem PySem.Spec PyProof.Rows L2 Gx
theorem facts {P : Program} {w : World} {K : PySem.W.Frag} {h : Heap} {mg : Str → Option Value} {f : Addr} (X : K.In h) (G : h.Ns mainGlobals mg) (hfa : mg ("law" : Str) = some (.ref f)) (c : He.SaysD fa fn K) (cx : (exl.all fun f => f K) = true) :
    ∃ fd : FuncData, (∀ (s : Shared) (v : Value), BindsTo s fd ⟨[v], []⟩ [("_law_script", v)]) ∧ ∀ base : Heap, K.In base → base.Ns mainGlobals mg → FnOk P w K mg base CX0 8 f fd ["_law_script"] (sp_law K) := by
  obtain ⟨fd0, F0⟩ := c.def_ 0 (d := d_NoText___init__) rfl
  obtain ⟨fd1, F1⟩ := c.def_ 1 (d := d_is_whole) rfl
  obtain ⟨fd2, F2⟩ := c.def_ 2 (d := d_in_common) rfl
  obtain ⟨fd3, F3⟩ := c.def_ 3 (d := d_below) rfl
  obtain ⟨fd4, F4⟩ := c.def_ 4 (d := d_is_fraction) rfl
  obtain ⟨fd5, F5⟩ := c.def_ 5 (d := d_shown_fraction) rfl
  obtain ⟨fd6, F6⟩ := c.def_ 6 (d := d_number_by) rfl
  obtain ⟨fd7, F7⟩ := c.def_ 7 (d := d_read_fraction) rfl
  obtain ⟨fd8, F8⟩ := c.def_ 8 (d := d_Contest___init__) rfl
  obtain ⟨fd9, F9⟩ := c.def_ 9 (d := d_Contest_named) rfl
  obtain ⟨fd10, F10⟩ := c.def_ 10 (d := d_Most___init__) rfl
  obtain ⟨fd11, F11⟩ := c.def_ 11 (d := d_Portion___init__) rfl
  obtain ⟨fd12, F12⟩ := c.def_ 12 (d := d_is_name) rfl
  obtain ⟨fd13, F13⟩ := c.def_ 13 (d := d_is_count) rfl
  obtain ⟨fd14, F14⟩ := c.def_ 14 (d := d_are_names) rfl
  obtain ⟨fd15, F15⟩ := c.def_ 15 (d := d_shown_contest) rfl
  obtain ⟨fd16, F16⟩ := c.def_ 16 (d := d_read_most) rfl
  obtain ⟨fd17, F17⟩ := c.def_ 17 (d := d_read_portion) rfl
  obtain ⟨fd18, F18⟩ := c.def_ 18 (d := d_read_contest) rfl
  obtain ⟨fd19, F19⟩ := c.def_ 19 (d := d__law_source) rfl
  obtain ⟨fd20, F20⟩ := c.def_ 20 (d := d__law_draw) rfl
  obtain ⟨fd21, F21⟩ := c.def_ 21 (d := d__law_unlike) rfl
  obtain ⟨fd22, F22⟩ := c.def_ 22 (d := d__law_lowest) rfl
  obtain ⟨fd23, F23⟩ := c.def_ 23 (d := d__law_half) rfl
  obtain ⟨fd24, F24⟩ := c.def_ 24 (d := d__law_is_name) rfl
  obtain ⟨fd25, F25⟩ := c.def_ 25 (d := d__law_is_count) rfl
  obtain ⟨fd26, F26⟩ := c.def_ 26 (d := d__law_is_share) rfl
  obtain ⟨fd27, F27⟩ := c.def_ 27 (d := d__law_is_contest) rfl
  obtain ⟨fd28, F28⟩ := c.def_ 28 (d := d__law_piece) rfl
  obtain ⟨fd29, F29⟩ := c.def_ 29 (d := d__law_bent) rfl
  obtain ⟨fd30, F30⟩ := c.def_ 30 (d := d__law_told) rfl
  obtain ⟨fd31, F31⟩ := c.def_ 31 (d := d_law) rfl
  have T : Txt K mg := { n_ValueError := He.free_ok X G (c.fact 0 rfl), n_abs := He.free_ok X G (c.fact 1 rfl), n_all := He.free_ok X G (c.fact 2 rfl), n_bool := He.free_ok X G (c.fact 3 rfl), n_enumerate := He.free_ok X G (c.fact 4 rfl), n_int := He.free_ok X G (c.fact 5 rfl), n_isinstance := He.free_ok X G (c.fact 6 rfl), n_len := He.free_ok X G (c.fact 7 rfl), n_list := He.free_ok X G (c.fact 8 rfl), n_range := He.free_ok X G (c.fact 9 rfl), n_set := He.free_ok X G (c.fact 10 rfl), n_sorted := He.free_ok X G (c.fact 11 rfl), n_str := He.free_ok X G (c.fact 12 rfl), n_sum := He.free_ok X G (c.fact 13 rfl), n_tuple := He.free_ok X G (c.fact 14 rfl), n_zip := He.free_ok X G (c.fact 15 rfl), c_Ended := ⟨_, He.glo_ok X G (c.fact 16 rfl), rfl⟩, c_FIGURES_contesttexts := (let ⟨_, h⟩ := He.str_ok X G (c.fact 17 rfl); ⟨_, h, _, rfl⟩), c_FIGURES_figures := (let ⟨_, h⟩ := He.str_ok X G (c.fact 18 rfl); ⟨_, h, _, rfl⟩), c_LETTERS := (let ⟨_, h⟩ := He.str_ok X G (c.fact 19 rfl); ⟨_, h, _, rfl⟩), c_MOST_FIGURES := (let ⟨_, h⟩ := He.int_ok X G (c.fact 20 rfl); ⟨_, h, _, rfl⟩), c_MOST_PART := (let ⟨_, h⟩ := He.int_ok X G (c.fact 21 rfl); ⟨_, h, _, rfl⟩), c_Most := ⟨_, He.glo_ok X G (c.fact 22 rfl), rfl⟩, c_NoBallot := ⟨_, He.glo_ok X G (c.fact 23 rfl), rfl⟩, c_NoFraction := ⟨_, He.glo_ok X G (c.fact 24 rfl), rfl⟩, c_NoMargin := ⟨_, He.glo_ok X G (c.fact 25 rfl), rfl⟩, c_NoName := ⟨_, He.glo_ok X G (c.fact 26 rfl), rfl⟩, c_NoNumber := ⟨_, He.glo_ok X G (c.fact 27 rfl), rfl⟩, c_NoOutcome := ⟨_, He.glo_ok X G (c.fact 28 rfl), rfl⟩, c_NoRow := ⟨_, He.glo_ok X G (c.fact 29 rfl), rfl⟩, c_NoStake := ⟨_, He.glo_ok X G (c.fact 30 rfl), rfl⟩, c_NoText := ⟨_, He.glo_ok X G (c.fact 31 rfl), rfl⟩, c_TooMany := ⟨_, He.glo_ok X G (c.fact 32 rfl), rfl⟩, cl_Contest := He.cls_ok (c.fact 33 rfl), f_Contest_names := He.noat_ok (c.fact 34 rfl), cl_Portion := He.cls_ok (c.fact 35 rfl), f_Portion_share := He.noat_ok (c.fact 36 rfl), f_Portion_names := He.noat_ok (c.fact 37 rfl), cl_Most := He.cls_ok (c.fact 38 rfl), f_Most_seats := He.noat_ok (c.fact 39 rfl), f_Most_names := He.noat_ok (c.fact 40 rfl), gs_Contest___init__ := He.glo_ok X G (c.fact 41 rfl), me_Portion_named := (show He.ma K (He.ga K "Portion") "named" = He.ma K (He.ga K "Contest") "named" from of_decide_eq_true (xat cx 3 rfl)) ▸ He.meth_ok (c.fact 42 rfl), me_Most_named := (show He.ma K (He.ga K "Most") "named" = He.ma K (He.ga K "Contest") "named" from of_decide_eq_true (xat cx 4 rfl)) ▸ He.meth_ok (c.fact 43 rfl), mk_Most := He.mkr_ok (c.fact 44 rfl), gk_Most := He.glo_ok X G (c.fact 45 rfl), mk_Portion := He.mkr_ok (c.fact 46 rfl), gk_Portion := He.glo_ok X G (c.fact 47 rfl), g_NoText := He.glo_ok X G (c.fact 48 rfl), g_SureError := He.glo_ok X G (c.fact 49 rfl), m_NoText_SureError := He.exm_ok (c.fact 50 rfl), f_NoText_row := He.noat_ok (c.fact 51 rfl), o_NoText := oexB_ok (xat cx 0 rfl), oi_NoText := oinB_ok (xat cx 1 rfl), su_Contest___init__ := supmB_ok (xat cx 2 rfl), s_SureError := supB_ok (xat cx 5 rfl), xf_NoText := xfB_ok (xat cx 6 rfl), in_Contest := insB_ok (xat cx 7 rfl), in_Most := insB_ok (xat cx 8 rfl), in_Portion := insB_ok (xat cx 9 rfl), ii_Contest_Most := of_decide_eq_true (xat cx 10 rfl), ii_Most_Most := of_decide_eq_true (xat cx 11 rfl), ii_Portion_Most := of_decide_eq_true (xat cx 12 rfl), e_NoText := excB_ok (xat cx 13 rfl), i_NoText_Ended := of_decide_eq_true (xat cx 14 rfl), i_NoText_NoBallot := of_decide_eq_true (xat cx 15 rfl), i_NoText_NoFraction := of_decide_eq_true (xat cx 16 rfl), i_NoText_NoMargin := of_decide_eq_true (xat cx 17 rfl), i_NoText_NoName := of_decide_eq_true (xat cx 18 rfl), i_NoText_NoNumber := of_decide_eq_true (xat cx 19 rfl), i_NoText_NoOutcome := of_decide_eq_true (xat cx 20 rfl), i_NoText_NoRow := of_decide_eq_true (xat cx 21 rfl), i_NoText_NoStake := of_decide_eq_true (xat cx 22 rfl), i_NoText_NoText := of_decide_eq_true (xat cx 23 rfl), i_NoText_TooMany := of_decide_eq_true (xat cx 24 rfl), i_NoText_ValueError := of_decide_eq_true (xat cx 25 rfl) }
  have g_is_whole := He.glo_ok X G (c.fact 52 (f := .glo "is_whole") rfl)
  have g_in_common := He.glo_ok X G (c.fact 53 (f := .glo "in_common") rfl)
  have g_below := He.glo_ok X G (c.fact 54 (f := .glo "below") rfl)
  have g_is_fraction := He.glo_ok X G (c.fact 55 (f := .glo "is_fraction") rfl)
  have g_shown_fraction := He.glo_ok X G (c.fact 56 (f := .glo "shown_fraction") rfl)
  have g_number_by := He.glo_ok X G (c.fact 57 (f := .glo "number_by") rfl)
  have g_read_fraction := He.glo_ok X G (c.fact 58 (f := .glo "read_fraction") rfl)
  have g_is_name := He.glo_ok X G (c.fact 59 (f := .glo "is_name") rfl)
  have g_is_count := He.glo_ok X G (c.fact 60 (f := .glo "is_count") rfl)
  have g_are_names := He.glo_ok X G (c.fact 61 (f := .glo "are_names") rfl)
  have g_shown_contest := He.glo_ok X G (c.fact 62 (f := .glo "shown_contest") rfl)
  have g_read_most := He.glo_ok X G (c.fact 63 (f := .glo "read_most") rfl)
  have g_read_portion := He.glo_ok X G (c.fact 64 (f := .glo "read_portion") rfl)
  have g_read_contest := He.glo_ok X G (c.fact 65 (f := .glo "read_contest") rfl)
  have g__law_source := He.glo_ok X G (c.fact 66 (f := .glo "_law_source") rfl)
  have g__law_draw := He.glo_ok X G (c.fact 67 (f := .glo "_law_draw") rfl)
  have g__law_unlike := He.glo_ok X G (c.fact 68 (f := .glo "_law_unlike") rfl)
  have g__law_lowest := He.glo_ok X G (c.fact 69 (f := .glo "_law_lowest") rfl)
  have g__law_half := He.glo_ok X G (c.fact 70 (f := .glo "_law_half") rfl)
  have g__law_is_name := He.glo_ok X G (c.fact 71 (f := .glo "_law_is_name") rfl)
  have g__law_is_count := He.glo_ok X G (c.fact 72 (f := .glo "_law_is_count") rfl)
  have g__law_is_share := He.glo_ok X G (c.fact 73 (f := .glo "_law_is_share") rfl)
  have g__law_is_contest := He.glo_ok X G (c.fact 74 (f := .glo "_law_is_contest") rfl)
  have g__law_piece := He.glo_ok X G (c.fact 75 (f := .glo "_law_piece") rfl)
  have g__law_bent := He.glo_ok X G (c.fact 76 (f := .glo "_law_bent") rfl)
  have g__law_told := He.glo_ok X G (c.fact 77 (f := .glo "_law_told") rfl)
  have g_law := He.glo_ok X G (c.fact 78 (f := .glo "law") rfl)
  have e := hfa.symm.trans g_law
  cases e
  have b := FunD.bindsA (ps := ["_law_script"]) F31 fun _ _ _ _ _ _ us hl => match us, hl with | [_], _ => rfl
  refine ⟨fd31, fun s v => b s [v] rfl, fun base _ _ => ?_⟩
  have c_NoText___init__ : XCl P w K mg base 1 "NoText" ["self", "row"] (sp_NoText___init__ K) := ⟨fd0, T.o_NoText, T.oi_NoText.1, T.oi_NoText.2, ok_NoText___init__ F0 T, T.g_NoText, F0.bindsN fun _ _ _ _ _ _ us hl => match us, hl with | [_, _], _ => rfl⟩
  have c_is_whole : Cl P w K mg base 1 "is_whole" ["thing"] (sp_is_whole K) := ⟨_, fd1, ok_is_whole F1 T , g_is_whole, F1.kp, F1.bindsN fun _ _ _ _ _ _ us hl => match us, hl with | [_], _ => rfl⟩
  have c_in_common : Cl P w K mg base 1 "in_common" ["a", "b"] (sp_in_common K) := ⟨_, fd2, ok_in_common F2 T , g_in_common, F2.kp, F2.bindsN fun _ _ _ _ _ _ us hl => match us, hl with | [_, _], _ => rfl⟩
  have c_below : Cl P w K mg base 1 "below" ["x", "y"] (sp_below K) := ⟨_, fd3, ok_below F3 T , g_below, F3.kp, F3.bindsN fun _ _ _ _ _ _ us hl => match us, hl with | [_, _], _ => rfl⟩
  have c_shown_fraction : Cl P w K mg base 1 "shown_fraction" ["x"] (sp_shown_fraction K) := ⟨_, fd5, ok_shown_fraction F5 T , g_shown_fraction, F5.kp, F5.bindsN fun _ _ _ _ _ _ us hl => match us, hl with | [_], _ => rfl⟩
  have O_Contest___init__ := ok_Contest___init__ (P := P) (w := w) (mg := mg) (base := base) F8 T 
  have s_Contest___init__ : SCl P w K mg base 1 "Contest" "__init__" ["self", "names"] (sp_Contest___init__ K) := ⟨_, fd8, T.su_Contest___init__.1, T.su_Contest___init__.2.1, T.su_Contest___init__.2.2, O_Contest___init__, T.gs_Contest___init__, F8.bindsN fun _ _ _ _ _ _ us hl => match us, hl with | [_, _], _ => rfl⟩
  have O_Contest_named := ok_Contest_named (P := P) (w := w) (mg := mg) (base := base) F9 T 
  have m_Portion_named : MCl P w K mg base 1 "Portion" "named" ["self"] (sp_Contest_named K) := ⟨_, fd9, T.cl_Portion, T.me_Portion_named, O_Contest_named, F9.bindsN fun _ _ _ _ _ _ us hl => match us, hl with | [_], _ => rfl⟩
  have m_Most_named : MCl P w K mg base 1 "Most" "named" ["self"] (sp_Contest_named K) := ⟨_, fd9, T.cl_Most, T.me_Most_named, O_Contest_named, F9.bindsN fun _ _ _ _ _ _ us hl => match us, hl with | [_], _ => rfl⟩
  have c_is_name : Cl P w K mg base 1 "is_name" ["word"] (sp_is_name K) := ⟨_, fd12, ok_is_name F12 T , g_is_name, F12.kp, F12.bindsN fun _ _ _ _ _ _ us hl => match us, hl with | [_], _ => rfl⟩
  have c_is_count : Cl P w K mg base 1 "is_count" ["word"] (sp_is_count K) := ⟨_, fd13, ok_is_count F13 T , g_is_count, F13.kp, F13.bindsN fun _ _ _ _ _ _ us hl => match us, hl with | [_], _ => rfl⟩
  have c__law_source : Cl P w K mg base 1 "_law_source" ["_law_script"] (sp__law_source K) := ⟨_, fd19, ok__law_source F19 T , g__law_source, F19.kp, F19.bindsN fun _ _ _ _ _ _ us hl => match us, hl with | [_], _ => rfl⟩
  have c__law_draw : Cl P w K mg base 1 "_law_draw" ["_law_source_here", "_law_most"] (sp__law_draw K) := ⟨_, fd20, ok__law_draw F20 T , g__law_draw, F20.kp, F20.bindsN fun _ _ _ _ _ _ us hl => match us, hl with | [_, _], _ => rfl⟩
  have c__law_lowest : Cl P w K mg base 1 "_law_lowest" ["_law_a", "_law_b"] (sp__law_lowest K) := ⟨_, fd22, ok__law_lowest F22 T , g__law_lowest, F22.kp, F22.bindsN fun _ _ _ _ _ _ us hl => match us, hl with | [_, _], _ => rfl⟩
  have c__law_is_name : Cl P w K mg base 1 "_law_is_name" ["_law_word"] (sp__law_is_name K) := ⟨_, fd24, ok__law_is_name F24 T , g__law_is_name, F24.kp, F24.bindsN fun _ _ _ _ _ _ us hl => match us, hl with | [_], _ => rfl⟩
  have c__law_is_count : Cl P w K mg base 1 "_law_is_count" ["_law_word"] (sp__law_is_count K) := ⟨_, fd25, ok__law_is_count F25 T , g__law_is_count, F25.kp, F25.bindsN fun _ _ _ _ _ _ us hl => match us, hl with | [_], _ => rfl⟩
  have c_is_fraction : Cl P w K mg base 2 "is_fraction" ["thing"] (sp_is_fraction K) := ⟨_, fd4, ok_is_fraction F4 T c_in_common c_is_whole, g_is_fraction, F4.kp, F4.bindsN fun _ _ _ _ _ _ us hl => match us, hl with | [_], _ => rfl⟩
  have O_Most___init__ := ok_Most___init__ (P := P) (w := w) (mg := mg) (base := base) F10 T s_Contest___init__
  have k_Most : KCl P w K mg base 2 "Most" ["self", "names", "seats"] (sp_Most___init__ K) := ⟨_, fd10, T.mk_Most, O_Most___init__, T.gk_Most, F10.bindsN fun _ _ _ _ _ _ us hl => match us, hl with | [_, _, _], _ => rfl⟩
  have O_Portion___init__ := ok_Portion___init__ (P := P) (w := w) (mg := mg) (base := base) F11 T s_Contest___init__
  have k_Portion : KCl P w K mg base 2 "Portion" ["self", "names", "share"] (sp_Portion___init__ K) := ⟨_, fd11, T.mk_Portion, O_Portion___init__, T.gk_Portion, F11.bindsN fun _ _ _ _ _ _ us hl => match us, hl with | [_, _, _], _ => rfl⟩
  have c_are_names : Cl P w K mg base 2 "are_names" ["words"] (sp_are_names K) := ⟨_, fd14, ok_are_names F14 T c_is_name, g_are_names, F14.kp, F14.bindsN fun _ _ _ _ _ _ us hl => match us, hl with | [_], _ => rfl⟩
  have c_shown_contest : Cl P w K mg base 2 "shown_contest" ["contest"] (sp_shown_contest K) := ⟨_, fd15, ok_shown_contest F15 T c_shown_fraction m_Portion_named m_Most_named, g_shown_contest, F15.kp, F15.bindsN fun _ _ _ _ _ _ us hl => match us, hl with | [_], _ => rfl⟩
  have c__law_unlike : Cl P w K mg base 2 "_law_unlike" ["_law_source_here", "_law_many"] (sp__law_unlike K) := ⟨_, fd21, ok__law_unlike F21 T c__law_draw, g__law_unlike, F21.kp, F21.bindsN fun _ _ _ _ _ _ us hl => match us, hl with | [_, _], _ => rfl⟩
  have c__law_half : Cl P w K mg base 2 "_law_half" ["_law_source_here"] (sp__law_half K) := ⟨_, fd23, ok__law_half F23 T c__law_lowest c__law_draw, g__law_half, F23.kp, F23.bindsN fun _ _ _ _ _ _ us hl => match us, hl with | [_], _ => rfl⟩
  have c__law_is_share : Cl P w K mg base 2 "_law_is_share" ["_law_word"] (sp__law_is_share K) := ⟨_, fd26, ok__law_is_share F26 T c__law_lowest c__law_is_count, g__law_is_share, F26.kp, F26.bindsN fun _ _ _ _ _ _ us hl => match us, hl with | [_], _ => rfl⟩
  have c__law_piece : Cl P w K mg base 2 "_law_piece" ["_law_source_here"] (sp__law_piece K) := ⟨_, fd28, ok__law_piece F28 T c__law_draw, g__law_piece, F28.kp, F28.bindsN fun _ _ _ _ _ _ us hl => match us, hl with | [_], _ => rfl⟩
  have c_number_by : Cl P w K mg base 3 "number_by" ["word"] (sp_number_by K) := ⟨_, fd6, ok_number_by F6 T c_NoText___init__, g_number_by, F6.kp, F6.bindsN fun _ _ _ _ _ _ us hl => match us, hl with | [_], _ => rfl⟩
  have c__law_is_contest : Cl P w K mg base 3 "_law_is_contest" ["_law_text"] (sp__law_is_contest K) := ⟨_, fd27, ok__law_is_contest F27 T c__law_is_share c__law_is_count c__law_is_name, g__law_is_contest, F27.kp, F27.bindsN fun _ _ _ _ _ _ us hl => match us, hl with | [_], _ => rfl⟩
  have c__law_bent : Cl P w K mg base 3 "_law_bent" ["_law_source_here", "_law_text"] (sp__law_bent K) := ⟨_, fd29, ok__law_bent F29 T c__law_piece c__law_draw, g__law_bent, F29.kp, F29.bindsN fun _ _ _ _ _ _ us hl => match us, hl with | [_, _], _ => rfl⟩
  have c_read_fraction : Cl P w K mg base 4 "read_fraction" ["text"] (sp_read_fraction K) := ⟨_, fd7, ok_read_fraction F7 T c_shown_fraction c_is_fraction c_NoText___init__ c_number_by, g_read_fraction, F7.kp, F7.bindsN fun _ _ _ _ _ _ us hl => match us, hl with | [_], _ => rfl⟩
  have c_read_most : Cl P w K mg base 4 "read_most" ["word", "names"] (sp_read_most K) := ⟨_, fd16, ok_read_most F16 T k_Most c_is_count c_NoText___init__, g_read_most, F16.kp, F16.bindsN fun _ _ _ _ _ _ us hl => match us, hl with | [_, _], _ => rfl⟩
  have c_read_portion : Cl P w K mg base 5 "read_portion" ["word", "names"] (sp_read_portion K) := ⟨_, fd17, ok_read_portion F17 T k_Portion c_below c_NoText___init__ c_read_fraction, g_read_portion, F17.kp, F17.bindsN fun _ _ _ _ _ _ us hl => match us, hl with | [_, _], _ => rfl⟩
  have c_read_contest : Cl P w K mg base 6 "read_contest" ["text"] (sp_read_contest K) := ⟨_, fd18, ok_read_contest F18 T c_NoText___init__ c_read_portion c_read_most c_are_names, g_read_contest, F18.kp, F18.bindsN fun _ _ _ _ _ _ us hl => match us, hl with | [_], _ => rfl⟩
  have c__law_told : Cl P w K mg base 7 "_law_told" ["_law_thing"] (sp__law_told K) := ⟨_, fd30, ok__law_told F30 T c_shown_contest c_read_contest, g__law_told, F30.kp, F30.bindsN fun _ _ _ _ _ _ us hl => match us, hl with | [_], _ => rfl⟩
  exact ok_law F31 T c__law_told c__law_draw c__law_is_contest c__law_bent c__law_half c__law_unlike c__law_source
end Lw
open PySem PySem.W PySem.Calls PyProof.Rows
theorem PySem.Challenge.cw_surecount_k21_no_contests_holds : PySem.Challenge.rw_surecount_k21_no_contests.Holds := by
  w_on; o_law
  refine HandSHeadRun.head_any (r := OpenLaw.row PySem.Challenge.rw_surecount_k21_no_contests) (q := view (OpenLaw.row PySem.Challenge.rw_surecount_k21_no_contests).prog [53]) (H := Lw.hk) (ob := Lw.ob) (M := 12000) (loose := Lw.loose) (d := HandSHeadRun.topDef (OpenLaw.row PySem.Challenge.rw_surecount_k21_no_contests).prog 53) (kwd := []) Lw.ob_eq
    (by kernel_rfl) (fun s => by kernel_rfl) Lw.run (by kernel_rfl) (by kernel_rfl) (by kernel_rfl) (by rfl) (by first | assumption | decide +kernel) (by decide +kernel) ⟨rfl, rfl, rfl, rfl, rfl, by decide +kernel⟩ ?hw ?hc
  case hw => w_witness2
  case hc =>
    refine L2.walk_ofE (l := PySem.Challenge.rw_surecount_k21_no_contests) (n := 63) (k := 8) (x := "_law_script") (CX := L2.CX0) rfl (by decide) (by kernel_rfl) ⟨rfl, by decide, by decide⟩ ?F (fun _ _ _ _ z => z)
    case F =>
      intro w mg fa h Y G hmg0
      obtain ⟨K, KX, c⟩ := Y
      have hmg : mg ("law" : PySem.Str) = some (.ref fa) := by
        have e : (HandSHeadRun.topDef (OpenLaw.row PySem.Challenge.rw_surecount_k21_no_contests).prog 53).name = ("law" : PySem.Str) := by kernel_rfl
        rw [← e]
        exact hmg0
      obtain ⟨fd, hb, hF⟩ := Lw.facts (P := (PySem.Challenge.rw_surecount_k21_no_contests).prog) (w := w) KX G hmg c.1 c.2
      exact ⟨K, fd, Lw.sp_law K, KX, hb, fun H a ns hl _ hS => ⟨a, ns, rfl, hS, hl, fun _ => rfl⟩, hF⟩
