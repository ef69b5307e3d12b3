import PyProof.Rows.All
import Wide.All
import OpenK.AllK
import Wide.FinOn
import Lean
import HandS.ForMost
import HandS.ForExc
import HandS.Wide
import HandS.WideBits
import HandS.TupAny
import HandS.TupLe
import HandS.TryOnly
import HandS.TupMul
import HandS.Deep
import HandS.IsInst
import HandS.ExcIs
import KE.KExcIs
import KE.DataFind
import KE.GoesEnum
import KE.GoesMore
import KE.KxIndex
import KE.KeyNested
import HandS.ExcInit
import HandS.ExcField
import HandS.ClsMeth
import HandS.Style
import HandS.Codes
import HandS.Conv
import HandS.SetFor
import HandS.Zip
import HandS.More
import HandS.Replace
import HandS.RevRange
import HandS.Text
import HandS.Defaults
import HandS.Small
import HandS.HeadEnd
import HandS.HeadHook1
import HandS.HeadHook2
import HandS.HeadHook3
import HandS.HeadHook4
import HandS.Head0
import HandS.Head1
import HandS.Head2
import HandS.Lambda
import HandS.Nested
import HandS.EndTab
import HandS.HeadWalk
import PySem.Challenge.RW_surecount_k64_draws_alike
set_option Elab.async false
set_option linter.all false
set_option maxRecDepth 100000
set_option maxHeartbeats 16000000
/-! ### own short words over the hand layer -/
namespace Gx
open PySem PySem.Spec PyProof.Rows L2
/-- all but l stays -/
def But (l : Addr) (H H' : Hp) : Prop := ∀ a o, a ≠ l → H a = some o → H' a = some o
theorem But.of {H H' : Hp} {l : Addr} (e : Same H H') : But l H H' := fun a o _ h => e a o h
theorem But.trans {H H1 H2 : Hp} {l : Addr} (a : But l H H1) (b : But l H1 H2) : But l H H2 := fun c o n h => b c o n (a c o n h)
theorem But.upd {H : Hp} {l : Addr} {o : HO} : But l H (upd H l o) := fun a u n h => by
  rw [upd_ne n]
  exact h
theorem same_new {H : Hp} {p : Addr} {o : HO} (h : H p = none) : Same H (upd H p o) := fun b u q => by
  rw [upd_ne (ne_of_none q h)]
  exact q
theorem But.same {H H1 H2 : Hp} {l : Addr} (n : H l = none) (a : Same H H1) (b : But l H1 H2) : Same H H2 := fun c o h => b c o (ne_of_none h n) (a c o h)
/-! ### reading facts through heaps -/
theorem up_same {H H' : Hp} (e : Same H H') {a : Addr} {o : HO} (h : H a = some o) : H' a = some o := e a o h
theorem up_but {H H' : Hp} {l : Addr} (e : But l H H') {a : Addr} {o : HO} (n : a ≠ l) (h : H a = some o) : H' a = some o := e a o n h
theorem seqL_same {K : PySem.W.Frag} {H H' : Hp} (e : Same H H') {a : Addr} {xs : List V} (h : SqL K H a xs) : SqL K H' a xs := e.seq h
theorem seqT_same {K : PySem.W.Frag} {H H' : Hp} (e : Same H H') {a : Addr} {xs : List V} (h : SqT K H a xs) : SqT K H' a xs := by
  rcases h with (h | ⟨o, h⟩) | h
  · exact .inl (.inl (e _ _ h))
  · exact .inl (.inr ⟨o, e _ _ h⟩)
  · exact .inr h
/-- tuples stay while a list changes -/
theorem seqT_but {K : PySem.W.Frag} {H H' : Hp} {l : Addr} {ys : List V} (e : But l H H') (hl : H l = some (.lst ys)) {a : Addr} {xs : List V} (h : SqT K H a xs) : SqT K H' a xs := by
  rcases h with (h | ⟨o, h⟩) | h
  · exact .inl (.inl (e _ _ (ne_of h hl (by intro z; cases z)) h))
  · exact .inl (.inr ⟨o, e _ _ (ne_of h hl (by intro z; cases z)) h⟩)
  · exact .inr h
theorem seqL_mono {K : PySem.W.Frag} {H H' : Hp} {a : Addr} {xs : List V} (h : SqL K H a xs) (e : ∀ o, H a = some o → (∀ ps, o ≠ .tbl ps) → H' a = some o) : SqL K H' a xs := by
  rcases h with (h | ⟨o, h⟩) | h
  · exact .inl (.inl (e _ h (by intro ps z; cases z)))
  · exact .inl (.inr ⟨o, e _ h (by intro ps z; cases z)⟩)
  · exact .inr h
theorem seqL_but {K : PySem.W.Frag} {H H' : Hp} {l : Addr} (e : But l H H') {a : Addr} (n : a ≠ l) {xs : List V} (h : SqL K H a xs) : SqL K H' a xs := by
  rcases h with (h | ⟨o, h⟩) | h
  · exact .inl (.inl (e _ _ n h))
  · exact .inl (.inr ⟨o, e _ _ n h⟩)
  · exact .inr h
/-! ### data through heaps -/
mutual
theorem dp_same {K : PySem.W.Frag} {H H' : Hp} (e : Same H H') : ∀ {d : PyData} {v : V}, Dp K H v d → Dp K H' v d
  | _, _, .non => .non
  | _, _, .bl b => .bl b
  | _, _, .int i => .int i
  | _, _, .str x => .str x
  | _, _, .lst h a => .lst (seqL_same e h) (dpAll_same e a)
  | _, _, .tup h a => .tup (seqT_same e h) (dpAll_same e a)
theorem dpAll_same {K : PySem.W.Frag} {H H' : Hp} (e : Same H H') : ∀ {ds : List PyData} {vs : List V}, DpAll K H vs ds → DpAll K H' vs ds
  | _, _, .nil => .nil
  | _, _, .cons a r => .cons (dp_same e a) (dpAll_same e r)
end
/-! data without lists -/
mutual
def noL : PyData → Bool
  | .list _ => false
  | .tuple ds => noLs ds
  | _ => true
def noLs : List PyData → Bool
  | [] => true
  | d :: ds => noL d && noLs ds
end
mutual
theorem dp_but {K : PySem.W.Frag} {H H' : Hp} {l : Addr} {ys : List V} (e : But l H H') (hl : H l = some (.lst ys)) : ∀ {d : PyData} {v : V}, noL d = true → Dp K H v d → Dp K H' v d
  | _, _, _, .non => .non
  | _, _, _, .bl b => .bl b
  | _, _, _, .int i => .int i
  | _, _, _, .str x => .str x
  | _, _, n, .lst h a => by simp [noL] at n
  | _, _, n, .tup h a => .tup (seqT_but e hl h) (dpAll_but e hl (by simpa [noL] using n) a)
theorem dpAll_but {K : PySem.W.Frag} {H H' : Hp} {l : Addr} {ys : List V} (e : But l H H') (hl : H l = some (.lst ys)) : ∀ {ds : List PyData} {vs : List V}, noLs ds = true → DpAll K H vs ds → DpAll K H' vs ds
  | _, _, _, .nil => .nil
  | _, _, n, .cons a r => by
    simp [noLs] at n
    exact .cons (dp_but e hl n.1 a) (dpAll_but e hl n.2 r)
end
theorem tyof_same {K : PySem.W.Frag} {H H' : Hp} (e : Same H H') {x : V} {t : Value} (h : TyOf K H x t) : TyOf K H' x t := by
  cases h with
  | non => exact .non
  | bl x => exact .bl x
  | int i => exact .int i
  | str x => exact .str x
  | flt x => exact .flt x
  | lst h => exact .lst (e _ _ h)
  | frz h => exact .frz (e _ _ h)
  | tup h => exact .tup (e _ _ h)
  | dK h => exact .dK (e _ _ h)
  | dT h => exact .dT (e _ _ h)
  | ins h cl ha hn htk hm => exact .ins (e _ _ h) cl ha hn htk hm
theorem tyx_same {K : PySem.W.Frag} {H H' : Hp} (e : Same H H') {x : V} {t : Value} (h : TyX K H x t) : TyX K H' x t := by
  cases h with
  | base h => exact .base (tyof_same e h)
  | byt b => exact .byt b
  | set h => exact .set (e _ _ h)
  | kList h c => exact .kList h c
  | kTuple h c => exact .kTuple h c
  | kDict h c => exact .kDict h c
  | fTuple h => exact .fTuple (e _ _ h)
  | fDict h => exact .fDict (e _ _ h)
/-! ### a def that may be called -/
structure Cl (P : Program) (w : World) (K : PySem.W.Frag) (mg : Str → Option Value) (base : Heap) (k : Nat) (x : Str) (ps : List Str) (sp : Sp) : Prop where
  ex : ∃ f fd, FnOk P w K mg base (L2.CX P w) k f fd ps sp ∧ mg x = some (.ref f) ∧ PySem.W.keepIn K (.ref f) = true ∧ Binds K fd ps []
section
variable {X : Cx} {W : WX} {e : Expr} {es : List Expr} {p pos : Pos} {t : TA} {x : Str} {ps : List Str} {sp : Sp} {j k : Nat}
theorem pcall (c : Cl X.prog X.w X.K X.mg X.base k x ps sp) (hr : Room j X.A) (hk : k ≤ j) (tk : Takes X W) (ha : PA X (e :: es) t) (hg : Gl X x := by rfl)
    (he : starEach (e :: es) X.env = (false, eval e X.env) :: starEach es X.env := by rfl) (hpl : (backTo pos (starEach es X.env)).any (·.1) = false := by rfl) (hdb : (x == ("__debug__" : Str)) = false := by decide) :
    PE X (.Call (.Name x p) (e :: es) [] pos) (tCallS sp (WE W) t) := by
  obtain ⟨f, fd, F, m, kp, b⟩ := c.ex
  exact pe_callS F (hr.mono hk) hg m kp b (fun σ => passAt tk σ) ha hdb he hpl
theorem pcall0 (c : Cl X.prog X.w X.K X.mg X.base k x ps sp) (hr : Room j X.A) (hk : k ≤ j) (hg : Gl X x := by rfl) (hdb : (x == ("__debug__" : Str)) = false := by decide) :
    PE X (.Call (.Name x p) [] [] pos) (tCall sp [] E0 tNil) := by
  obtain ⟨f, fd, F, m, kp, b⟩ := c.ex
  exact pe_call0 F (hr.mono hk) hg m kp b .nil passL hdb
/-- where nothing may be raised -/
theorem pcallN (c : Cl X.prog X.w X.K X.mg X.base k x ps sp) (hr : Room j X.A) (hk : k ≤ j) (ha : PA X (e :: es) t) (hg : Gl X x := by rfl)
    (he : starEach (e :: es) X.env = (false, eval e X.env) :: starEach es X.env := by rfl) (hpl : (backTo pos (starEach es X.env)).any (·.1) = false := by rfl) (hdb : (x == ("__debug__" : Str)) = false := by decide) :
    PE X (.Call (.Name x p) (e :: es) [] pos) (tCall sp [] E0 t) := by
  obtain ⟨f, fd, F, m, kp, b⟩ := c.ex
  exact pe_call F (hr.mono hk) hg m kp b .nil passL ha hdb he hpl
end
/-- a recursion: nothing is promised at 0 -/
theorem fn_void {P : Program} {w : World} {K : PySem.W.Frag} {mg : Str → Option Value} {base : Heap} {CX : CXT} {k : Nat} {f : Addr} {fd : FuncData} {ps : List Str} {sp : Sp} (h : ∀ vs H Q E, ¬ sp vs H Q E) : FnOk P w K mg base CX k f fd ps sp :=
  ⟨fun vs H Q E z => (h vs H Q E z).elim, fun _ _ _ H _ _ vs Q E _ _ _ _ z => (h vs H Q E z).elim⟩
/-! ### exceptions with fields, their own __init__ walked -/
section
def oexB (K : PySem.W.Frag) (x : Str) : Bool := (match K.lookup (He.ga K x) with
  | some ⟨.type "type", _, .cls cd, sl⟩ => (match cd.mro, sl.toList with
    | .ref C' :: bm, [_, _, _, _, some (.builtin n), _] => C' == He.ga K x && n == "ValueError.__new__" && !cd.hasDel && cd.hasDict && PySem.HandSPX.refsVE bm
    | _, _ => false)
  | _ => false) && (He.eqO (PySem.W.findIn K (.ref (He.ga K x)) "__setattr__") (some (some (.builtin "object.__setattr__"))) && (decide (PySem.W.subIn K (.ref (He.ga K x)) (.type "BaseException") = some true) && (decide (PySem.W.typeIn K (.ref (He.ga K x)) = some (.type "type")) && PySem.W.keepIn K (.ref (He.ga K x)))))
theorem oexB_ok {K : PySem.W.Frag} {x : Str} (h : oexB K x = true) : OexC K (He.ga K x) := by
  unfold oexB at h
  obtain ⟨q, h⟩ := He.ba h
  obtain ⟨h1, h⟩ := He.ba h
  obtain ⟨h2, h⟩ := He.ba h
  obtain ⟨h3, h4⟩ := He.ba h
  refine ⟨?_, He.eqO_ok h1, of_decide_eq_true h2, of_decide_eq_true h3, h4⟩
  split at q
  · rename_i dd cd sl ho
    split at q
    · rename_i C' bm k0 k1 k2 k3 n k5 hm hs
      simp only [Bool.and_eq_true, beq_iff_eq, Bool.not_eq_true'] at q
      obtain ⟨⟨⟨⟨hC, hn⟩, hdel⟩, hdc⟩, hr⟩ := q
      obtain ⟨nm, bs, mro, ns, qn, hd, sn, sub, ab, col, del⟩ := cd
      dsimp only at hm hdel hdc
      subst hm hdel hdc hC hn
      have hsl : sl = #[k0, k1, k2, k3, some (.builtin "ValueError.__new__"), k5] := by
        obtain ⟨l⟩ := sl
        simp only at hs
        rw [hs]
      subst hsl
      exact ⟨_, _, _, _, _, _, _, _, _, _, _, _, _, _, _, ho, hr⟩
    · cases q
  · cases q
/-- the own __init__ of an exception -/
def oinB (K : PySem.W.Frag) (x : Str) : Bool := He.eqO (PySem.W.findIn K (.ref (He.ga K x)) "__init__") (some (some (.ref (He.ma K (He.ga K x) "__init__")))) && decide (PySem.W.typeIn K (.ref (He.ma K (He.ga K x) "__init__")) = some (.type "function"))
theorem oinB_ok {K : PySem.W.Frag} {x : Str} (h : oinB K x = true) : PySem.W.findIn K (.ref (He.ga K x)) "__init__" = some (some (.ref (He.ma K (He.ga K x) "__init__"))) ∧ PySem.W.typeIn K (.ref (He.ma K (He.ga K x) "__init__")) = some (.type "function") := by
  obtain ⟨h1, h2⟩ := He.ba h
  exact ⟨He.eqO_ok h1, of_decide_eq_true h2⟩
/-- Base.__init__(self, ..) of an exception class that has ValueError's -/
structure SupC (K : PySem.W.Frag) (C : Addr) : Prop where
  r : ClX.CRead K C (.type "type")
  at_ : PySem.W.findCls K (.ref C) (.type "type") "__init__" = some (.val (.builtin "ValueError.__init__"))
def supB (K : PySem.W.Frag) (x : Str) : Bool := PySem.W.readsIn K (He.ga K x) (.type "type") && (He.eqO (PySem.W.specialIn K (.ref (He.ga K x)) "__getattribute__") (some (some (.builtin "type.__getattribute__"))) && (match PySem.W.findCls K (.ref (He.ga K x)) (.type "type") "__init__" with
  | some (.val (.builtin n)) => n == "ValueError.__init__"
  | _ => false))
theorem supB_ok {K : PySem.W.Frag} {x : Str} (h : supB K x = true) : SupC K (He.ga K x) := by
  obtain ⟨h1, h⟩ := He.ba h
  obtain ⟨h2, h3⟩ := He.ba h
  refine ⟨⟨h1, He.eqO_ok h2⟩, ?_⟩
  split at h3
  · rename_i n e
    rw [e, beq_iff_eq.mp h3]
  · cases h3
theorem pe_svinit {X : Cx} {n : Str} {C : Addr} {e : Expr} {es : List Expr} {ta : TA} {p1 p2 pos : Pos} {pl : Sem Bool} (S : SupC X.K C) (hg : Gl X n) (hm : X.mg n = some (.ref C)) (ha : PA X (e :: es) ta)
    (hc : eval (.Call (.Attribute (.Name n p1) "__init__" p2) (e :: es) [] pos) X.env = (do
      let ov ← eval (.Name n p1) X.env
      standAt p2.atName
      let (f, first) ← holding [ov] (getMethod ov "__init__" pl)
      callWith pos f first (backTo pos (starEach (e :: es) X.env)) (backToKw pos (keywordEach [] X.env))) := by rfl)
    (he : starEach (e :: es) X.env = (false, eval e X.env) :: starEach es X.env := by rfl) (hpl : (backTo pos (starEach es X.env)).any (·.1) = false := by rfl) (hdb : (n == ("__debug__" : Str)) = false := by decide) :
    PE X (.Call (.Attribute (.Name n p1) "__init__" p2) (e :: es) [] pos) (tVeI X.K ta) := by
  refine ⟨fun pins s σ H Q I h => ?_⟩
  refine PySem.W.methodCall_KW (ld_glob I hg hm ?_ hdb) hc
  refine PySem.W.method_cls I.kIn S.r.ga (PySem.W.cls_value I.kIn S.r.rd S.at_ rfl ?_)
  show wpAny _ _ (callWith pos (Value.builtin "ValueError.__init__") [] (backTo pos (starEach (e :: es) X.env)) []) _ _ _
  refine PyProof.Rows.callWith_method1 (thn (ha.run pos pins _ σ H _ (I.tok _) h) fun us s1 ⟨vs, H1, I1, r1, a, C', ws, ev, hl, T, ea, q⟩ => ?_) he hpl
  subst ev
  cases r1 with
  | @cons _ u0 _ ur ra rw' =>
    obtain rfl : u0 = Value.ref a := ra
    have hlen : ur.length ≤ sizeLine := by
      rw [← Paired.length rw', sizeLine_eq]
      omega
    exact oinit_ok T I1 ea hlen fun s' J => ⟨.non, H1, J, rfl, q⟩
/-- what the __init__ of an exception with one field keeps -/
def spXI (C : Addr) (f : Str) : Sp := fun vs H Q _ => ∃ (a : Addr) (v : V), vs = [.ref a, v] ∧ H a = some (exo a C none) ∧ ∀ d, H d = none → d ≠ a → Q .non (upd (upd H d (exd d [(f, v)])) a (exo a C (some d)))
structure XCl (P : Program) (w : World) (K : PySem.W.Frag) (mg : Str → Option Value) (base : Heap) (k : Nat) (x : Str) (ps : List Str) (sp : Sp) : Prop where
  ex : ∃ fd, OexC K (He.ga K x) ∧ PySem.W.findIn K (.ref (He.ga K x)) "__init__" = some (some (.ref (He.ma K (He.ga K x) "__init__"))) ∧ PySem.W.typeIn K (.ref (He.ma K (He.ga K x) "__init__")) = some (.type "function") ∧
    FnOk P w K mg base (L2.CX P w) k (He.ma K (He.ga K x) "__init__") fd ps sp ∧ mg x = some (.ref (He.ga K x)) ∧ Binds K fd ps []
theorem pmkO {X : Cx} {e : Expr} {es : List Expr} {ta : TA} {p pos : Pos} {x : Str} {ps : List Str} {sp : Sp} {j k : Nat} (c : XCl X.prog X.w X.K X.mg X.base k x ps sp) (hr : Room j X.A) (hk : k + 1 ≤ j) (ha : PA X (e :: es) ta) (hg : Gl X x := by rfl)
    (hdb : (x == ("__debug__" : Str)) = false := by decide) (he : starEach (e :: es) X.env = (false, eval e X.env) :: starEach es X.env := by rfl) (hpl : (backTo pos (starEach es X.env)).any (·.1) = false := by rfl) :
    PMk X (.Call (.Name x p) (e :: es) [] pos) (tMkO (He.ga X.K x) sp [] ta) := by
  obtain ⟨fd, T, iC, tI, F, m, b⟩ := c.ex
  exact pmk_oex T iC tI F (hr.mono hk) b .nil passL hg m ha hdb he hpl
def rMkO (C : Addr) (sp : Sp) (vs : List V) (H1 : Hp) (E : XK) : Prop := vs.length ≤ 1000 ∧ ∀ a, H1 a = none → sp (.ref a :: (vs ++ [])) (upd H1 a (exo a C none))
  (fun v H2 => v = .non ∧ ∃ (d : Addr) (fs : List (Str × V)), H2 a = some (exo a C (some d)) ∧ H2 d = some (exd d fs) ∧ H1 d = none ∧ E (.ref C) (some d) (upd (del H2 a) d (.xd fs))) (fun _ _ _ => False)
theorem k_mk0 {C : Addr} {sp : Sp} {ta : TA} {σ : L2.St} {H : Hp} {E : XK} (q : ta σ H fun vs H1 => rMkO C sp vs H1 E) : tMkO C sp [] ta σ H E := q
theorem k_mkx {C : Addr} {f : Str} {v : V} {H1 : Hp} {E : XK} (k : ∀ d H2, H1 d = none → Same H1 H2 → H2 d = some (.xd [(f, v)]) → E (.ref C) (some d) H2) : rMkO C (spXI C f) [v] H1 E :=
  ⟨by simp, fun a ha => ⟨a, v, rfl, upd_same, fun d hd hda => ⟨rfl, d, [(f, v)], upd_same, by rw [upd_ne hda, upd_same], by rw [upd_ne hda] at hd; exact hd, by
      have hd1 : H1 d = none := by rw [upd_ne hda] at hd; exact hd
      have e : upd (del (upd (upd (upd H1 a (exo a C none)) d (exd d [(f, v)])) a (exo a C (some d))) a) d (.xd [(f, v)]) = upd H1 d (.xd [(f, v)]) := by
        funext b
        by_cases h1 : b = d
        · rw [h1, upd_same, upd_same]
        · rw [upd_ne h1, upd_ne h1]
          by_cases h2 : b = a
          · rw [h2, del_same, ha]
          · rw [del_ne h2, upd_ne h2, upd_ne h1, upd_ne h2]
      rw [e]
      exact k d _ hd1 (same_new hd1) upd_same⟩⟩⟩
def rVeI (K : PySem.W.Frag) (vs : List V) (H1 : Hp) (Q : VK) : Prop := ∃ (a C : Addr) (ws : List V), vs = .ref a :: ws ∧ ws.length ≤ 1000 ∧ OexC K C ∧ H1 a = some (exo a C none) ∧ Q .non H1
theorem k_veI {K : PySem.W.Frag} {ta : TA} {σ : L2.St} {H : Hp} {Q : VK} (q : ta σ H fun vs H1 => rVeI K vs H1 Q) : tVeI K ta σ H Q := q
theorem k_veIx {K : PySem.W.Frag} {a C : Addr} {ws : List V} {H : Hp} {Q : VK} (T : OexC K C) (h : H a = some (exo a C none)) (q : Q .non H) (hl : ws.length ≤ 1000) : rVeI K (.ref a :: ws) H Q := ⟨a, C, ws, rfl, hl, T, h, q⟩
def rOst (K : PySem.W.Frag) (f : Str) (x y : V) (H2 : Hp) (Q : Hp → Prop) : Prop := ∃ a C : Addr, x = .ref a ∧ OexC K C ∧ PySem.W.findIn K (.ref C) f = some none ∧
  ((H2 a = some (exo a C none) ∧ ∀ dx, H2 dx = none → dx ≠ a → Q (upd (upd H2 dx (exd dx [(f, y)])) a (exo a C (some dx)))) ∨
    ∃ (dx : Addr) (fs : List (Str × V)), H2 a = some (exo a C (some dx)) ∧ H2 dx = some (exd dx fs) ∧ fs.length ≤ 900 ∧ Q (upd H2 dx (exd dx ((f, y) :: fs))))
theorem k_ost {K : PySem.W.Frag} {f : Str} {to te : TE} {D : Ends} {σ : L2.St} {H : Hp} (q : te σ H fun y H1 => to σ H1 fun x H2 => rOst K f x y H2 fun H3 => D.nx σ H3) : tOst K f to te D σ H := q
theorem k_ostx {K : PySem.W.Frag} {f : Str} {a C : Addr} {y : V} {H : Hp} {Q : Hp → Prop} (T : OexC K C) (hn : PySem.W.findIn K (.ref C) f = some none) (h : H a = some (exo a C none)) (q : ∀ d, H d = none → d ≠ a → Q (upd (upd H d (exd d [(f, y)])) a (exo a C (some d)))) : rOst K f (.ref a) y H Q := ⟨a, C, rfl, T, hn, .inl ⟨h, q⟩⟩
/-- a field of the error that a suite holds -/
def rXf (a : Addr) (cls : Value) (d : Option Addr) (C : Addr) (f : Str) (x : V) (H1 : Hp) (Q : VK) : Prop := x = .ref a ∧ cls = .ref C ∧ ∃ (dd : Addr) (fs : List (Str × V)) (v : V), d = some dd ∧ H1 dd = some (.xd fs) ∧ fs.lookup f = some v ∧ Q v H1
theorem k_xf {a C : Addr} {cls : Value} {d : Option Addr} {f : Str} {te : TE} {σ : L2.St} {H : Hp} {Q : VK} (q : te σ H fun x H1 => rXf a cls d C f x H1 Q) : tXf a cls d C f te σ H Q := q
theorem k_xfx {a C dd : Addr} {f : Str} {v : V} {H : Hp} {Q : VK} (h : H dd = some (.xd [(f, v)])) (q : Q v H) : rXf a (.ref C) (some dd) C f (.ref a) H Q := ⟨rfl, rfl, dd, _, v, rfl, h, by simp [List.lookup], q⟩
end
/-! ### classes -/
structure MCl (P : Program) (w : World) (K : PySem.W.Frag) (mg : Str → Option Value) (base : Heap) (k : Nat) (C m : Str) (ps : List Str) (sp : Sp) : Prop where
  ex : ∃ f fd, Cls K (He.ga K C) ∧ Meth K (He.ga K C) m f ∧ FnOk P w K mg base (L2.CX P w) k f fd ps sp ∧ Binds K fd ps []
structure KCl (P : Program) (w : World) (K : PySem.W.Frag) (mg : Str → Option Value) (base : Heap) (k : Nat) (C : Str) (ps : List Str) (sp : Sp) : Prop where
  ex : ∃ f fd, Mk K (He.ga K C) f ∧ FnOk P w K mg base (L2.CX P w) k f fd ps sp ∧ mg C = some (.ref (He.ga K C)) ∧ Binds K fd ps []
/-- a class's def, called through the class: C.m(self, ..) -/
structure SCl (P : Program) (w : World) (K : PySem.W.Frag) (mg : Str → Option Value) (base : Heap) (k : Nat) (C m : Str) (ps : List Str) (sp : Sp) : Prop where
  ex : ∃ f fd, ClX.CRead K (He.ga K C) (.type "type") ∧ PySem.W.findCls K (.ref (He.ga K C)) (.type "type") m = some (.val (.ref f)) ∧ PySem.W.keepIn K (.ref f) = true ∧ FnOk P w K mg base (L2.CX P w) k f fd ps sp ∧ mg C = some (.ref (He.ga K C)) ∧ Binds K fd ps []
def tMethS (C : Addr) (m : Str) (sp : Sp) (E : L2.St → XK) (ta : TE) (t : TA) : TE := fun σ H Q => ta σ H fun x H1 => ∃ a dx fs, x = .ref a ∧ H1 a = some (.ins C dx fs) ∧ fs.lookup m = none ∧ t σ H1 fun vs H2 => sp (x :: vs) H2 Q (E σ)
def tOr2 (t u : TE) : TE := fun σ H Q => t σ H Q ∨ u σ H Q
section
variable {X : Cx} {W : WX} {e o : Expr} {es : List Expr} {p pos apos : Pos} {ta : TE} {t : TA} {C m x : Str} {ps : List Str} {sp : Sp} {j k : Nat}
theorem pe_or2 {e : Expr} {t u : TE} (a : PE X e t) (b : PE X e u) : PE X e (tOr2 t u) := ⟨fun pins s σ H Q I h => h.elim (a.run pins s σ H Q I) (b.run pins s σ H Q I)⟩
theorem pmeth {pl : Sem Bool} {K : PySem.W.Frag} (hK : X.K = K) (c : MCl X.prog X.w K X.mg X.base k C m ps sp) (hr : Room j X.A) (hk : k ≤ j) (tk : Takes X W) (he : PE X o ta) (ha : PA X (e :: es) t)
    (hst : starEach (e :: es) X.env = (false, eval e X.env) :: starEach es X.env := by rfl) (hpl : (backTo pos (starEach es X.env)).any (·.1) = false := by rfl)
    (ht : eval (.Call (.Attribute o m apos) (e :: es) [] pos) X.env = (do
      let ov ← eval o X.env
      standAt apos.atName
      let (f, first) ← holding [ov] (getMethod ov m pl)
      callWith pos f first (backTo pos (starEach (e :: es) X.env)) (backToKw pos (keywordEach [] X.env))) := by rfl) :
    PE X (.Call (.Attribute o m apos) (e :: es) [] pos) (tMethS (He.ga K C) m sp (WE W) ta t) := by
  subst hK
  obtain ⟨f, fd, hc, hm, F, b⟩ := c.ex
  refine ⟨fun pins s σ H Q I h => ?_⟩
  refine PySem.W.methodCall_KW (pl := pl) (thn (he.run pins s σ H _ I h) fun u s1 ⟨x, H1, I1, rx, a, dx, fs, ex, ea, l, q⟩ => ?_) ht
  subst ex
  obtain rfl : u = Value.ref a := rx
  refine getmeth_ok I1 ea hc hm l ?_
  refine PySem.W.callWith_K (first := [.ref a]) (h₀ := X.base) I.ok.mod.kin hm.kp (thn (ha.run pos pins s1 σ H1 _ I1 q) fun us s2 ⟨vs, H2, I2, r, q2⟩ => ⟨I2.kIn, ?_⟩) hst hpl
  exact run_fnS (us := .ref a :: us) (vs := .ref a :: vs) (E := WE W) F (hr.mono hk) b (passAt tk σ) I2 (.cons rfl r) q2
theorem pmeth0 {pl : Sem Bool} {K : PySem.W.Frag} (hK : X.K = K) (c : MCl X.prog X.w K X.mg X.base k C m ps sp) (hr : Room j X.A) (hk : k ≤ j) (tk : Takes X W) (he : PE X o ta)
    (ht : eval (.Call (.Attribute o m apos) [] [] pos) X.env = (do
      let ov ← eval o X.env
      standAt apos.atName
      let (f, first) ← holding [ov] (getMethod ov m pl)
      callWith pos f first (backTo pos (starEach [] X.env)) (backToKw pos (keywordEach [] X.env))) := by rfl) :
    PE X (.Call (.Attribute o m apos) [] [] pos) (tMethS (He.ga K C) m sp (WE W) ta tNil) := by
  subst hK
  obtain ⟨f, fd, hc, hm, F, b⟩ := c.ex
  refine ⟨fun pins s σ H Q I h => ?_⟩
  refine PySem.W.methodCall_KW (pl := pl) (thn (he.run pins s σ H _ I h) fun u s1 ⟨x, H1, I1, rx, a, dx, fs, ex, ea, l, q⟩ => ?_) ht
  subst ex
  obtain rfl : u = Value.ref a := rx
  refine getmeth_ok I1 ea hc hm l ?_
  exact PySem.W.callWith_K0 (first := [.ref a]) I1.kIn hm.kp (run_fnS (us := [.ref a]) (vs := [.ref a]) (E := WE W) F (hr.mono hk) b (passAt tk σ) I1 (.cons rfl .nil) q)
/-- where nothing may be raised -/
theorem pmethN {pl : Sem Bool} {K : PySem.W.Frag} (hK : X.K = K) (c : MCl X.prog X.w K X.mg X.base k C m ps sp) (hr : Room j X.A) (hk : k ≤ j) (he : PE X o ta) (ha : PA X (e :: es) t)
    (hst : starEach (e :: es) X.env = (false, eval e X.env) :: starEach es X.env := by rfl) (hpl : (backTo pos (starEach es X.env)).any (·.1) = false := by rfl)
    (ht : eval (.Call (.Attribute o m apos) (e :: es) [] pos) X.env = (do
      let ov ← eval o X.env
      standAt apos.atName
      let (f, first) ← holding [ov] (getMethod ov m pl)
      callWith pos f first (backTo pos (starEach (e :: es) X.env)) (backToKw pos (keywordEach [] X.env))) := by rfl) :
    PE X (.Call (.Attribute o m apos) (e :: es) [] pos) (tMethS (He.ga K C) m sp (fun _ => E0) ta t) := by
  subst hK
  obtain ⟨f, fd, hc, hm, F, b⟩ := c.ex
  refine ⟨fun pins s σ H Q I h => (pe_meth (pl := pl) he hc hm F (hr.mono hk) b .nil passL ha hst hpl ht).run pins s σ H Q I ?_⟩
  simp only [tMeth, List.append_nil]
  exact h
theorem pmethN0 {pl : Sem Bool} {K : PySem.W.Frag} (hK : X.K = K) (c : MCl X.prog X.w K X.mg X.base k C m ps sp) (hr : Room j X.A) (hk : k ≤ j) (he : PE X o ta)
    (ht : eval (.Call (.Attribute o m apos) [] [] pos) X.env = (do
      let ov ← eval o X.env
      standAt apos.atName
      let (f, first) ← holding [ov] (getMethod ov m pl)
      callWith pos f first (backTo pos (starEach [] X.env)) (backToKw pos (keywordEach [] X.env))) := by rfl) :
    PE X (.Call (.Attribute o m apos) [] [] pos) (tMethS (He.ga K C) m sp (fun _ => E0) ta tNil) := by
  subst hK
  obtain ⟨f, fd, hc, hm, F, b⟩ := c.ex
  refine ⟨fun pins s σ H Q I h => (pe_meth0 (pl := pl) he hc hm F (hr.mono hk) b .nil passL ht).run pins s σ H Q I ?_⟩
  simp only [tMeth, List.append_nil]
  exact h
theorem pmake {K : PySem.W.Frag} (hK : X.K = K) (c : KCl X.prog X.w K X.mg X.base k C ps sp) (hr : Room j X.A) (hk : k + 1 ≤ j) (ha : PA X (e :: es) t) (hg : Gl X C := by rfl)
    (hdb : (C == ("__debug__" : Str)) = false := by decide) (he : starEach (e :: es) X.env = (false, eval e X.env) :: starEach es X.env := by rfl) (hpl : (backTo pos (starEach es X.env)).any (·.1) = false := by rfl) :
    PE X (.Call (.Name C p) (e :: es) [] pos) (tMake (He.ga K C) sp [] E0 t) := by
  subst hK
  obtain ⟨f, fd, M, F, hm, b⟩ := c.ex
  exact pe_make M F (hr.mono hk) hg hm b .nil passL ha hdb he hpl
/-- C.m(self, ..) -/
theorem psup {pl : Sem Bool} (c : SCl X.prog X.w X.K X.mg X.base k C m ps sp) (hr : Room j X.A) (hk : k ≤ j) (ha : PA X (e :: es) t) (hg : Gl X C := by rfl)
    (hc : eval (.Call (.Attribute (.Name C p) m apos) (e :: es) [] pos) X.env = (do
      let ov ← eval (.Name C p) X.env
      standAt apos.atName
      let (f, first) ← holding [ov] (getMethod ov m pl)
      callWith pos f first (backTo pos (starEach (e :: es) X.env)) (backToKw pos (keywordEach [] X.env))) := by rfl)
    (he : starEach (e :: es) X.env = (false, eval e X.env) :: starEach es X.env := by rfl) (hpl : (backTo pos (starEach es X.env)).any (·.1) = false := by rfl) (hdb : (C == ("__debug__" : Str)) = false := by decide) :
    PE X (.Call (.Attribute (.Name C p) m apos) (e :: es) [] pos) (tCall sp [] E0 t) := by
  obtain ⟨f, fd, cr, ca, kp, F, hm, b⟩ := c.ex
  refine ⟨fun pins s σ H Q I h => ?_⟩
  refine PySem.W.methodCall_KW (ld_glob I hg hm ?_ hdb) hc
  refine PySem.W.method_cls I.kIn cr.ga (PySem.W.cls_value I.kIn cr.rd ca rfl ?_)
  refine PySem.W.callWith_K (first := []) (h₀ := X.base) I.ok.mod.kin kp (thn (ha.run pos pins _ σ H _ (I.tok _) h) fun us s2 ⟨vs, H2, I2, r, q2⟩ => ⟨I2.kIn, ?_⟩) he hpl
  exact run_fn F (hr.mono hk) b .nil passL I2 r q2
/-- C(), C without an __init__ -/
structure MbC (K : PySem.W.Frag) (mg : Str → Option Value) (C : Str) : Prop where
  mks : PySem.W.makesIn K (He.ga K C) = true
  ini : PySem.W.findIn K (.ref (He.ga K C)) "__init__" = some (some (.builtin "object.__init__"))
  kp : PySem.W.keepIn K (.ref (He.ga K C)) = true
  ob : PySem.W.mroIn K (He.ga K C) (.type "object") = some true
def mbB (K : PySem.W.Frag) (C : Str) : Bool := PySem.W.makesIn K (He.ga K C) && (He.eqO (PySem.W.findIn K (.ref (He.ga K C)) "__init__") (some (some (.builtin "object.__init__"))) && (PySem.W.keepIn K (.ref (He.ga K C)) && decide (PySem.W.mroIn K (He.ga K C) (.type "object") = some true)))
theorem mbB_ok {K : PySem.W.Frag} {mg : Str → Option Value} {C : Str} (h : mbB K C = true) : MbC K mg C := by
  obtain ⟨h1, h⟩ := He.ba h
  obtain ⟨h2, h⟩ := He.ba h
  obtain ⟨h3, h4⟩ := He.ba h
  exact ⟨h1, He.eqO_ok h2, h3, of_decide_eq_true h4⟩
def tMakeB (C : Addr) : TE := fun _ H Q => ∀ x dx, H x = none → H dx = none → dx ≠ x → Q (.ref x) (upd (upd H dx (.own x)) x (.ins C dx []))
theorem pmakeB {K : PySem.W.Frag} (hK : X.K = K) (c : MbC K X.mg C) (hm : X.mg C = some (.ref (He.ga K C))) (hg : Gl X C := by rfl) (hdb : (C == ("__debug__" : Str)) = false := by decide) : PE X (.Call (.Name C p) [] [] pos) (tMakeB (He.ga K C)) := by
  subst hK
  refine ⟨fun pins s σ H Q I h => ?_⟩
  refine wpAny_Call_Name_kw (ld_glob I hg hm ?_ hdb)
  refine PySem.W.callWith_K0 I.kIn c.kp ?_
  have q := h (s.heap.objs.size + 1) s.heap.objs.size (I.hok.fresh (Nat.le_succ _)) (I.hok.fresh (Nat.le_refl _)) (Nat.ne_of_lt (Nat.lt_succ_self _))
  have I2 := Inv.made (C := He.ga X.K C) I
  refine wpAny_call (make_map0 I.kIn c.mks c.ini (fun self => PySem.W.Looks.of_pure (PySem.W.oi_bind self)) ?_)
  have hx : ((s.heap.push PySem.W.emptyDict).push (PySem.W.instObj (He.ga X.K C) s.heap.objs.size)).get? (s.heap.objs.size + 1) = some (PySem.W.instObj (He.ga X.K C) s.heap.objs.size) := by
    have := Heap.get?_push_size (s.heap.push PySem.W.emptyDict) (o := PySem.W.instObj (He.ga X.K C) s.heap.objs.size) rfl
    rwa [Heap.size_push] at this
  have t1 : PySem.W.Looks (model X.prog X.w) ((s.heap.push PySem.W.emptyDict).push (PySem.W.instObj (He.ga X.K C) s.heap.objs.size)) (typeOf (.ref (s.heap.objs.size + 1))) (.ref (He.ga X.K C)) := (PySem.W.Looks.ld hx).andThen .now
  have t2 : PySem.W.Looks (model X.prog X.w) ((s.heap.push PySem.W.emptyDict).push (PySem.W.instObj (He.ga X.K C) s.heap.objs.size)) (isInstance (.ref (s.heap.objs.size + 1)) (.type "object")) true := t1.andThen (PySem.W.looks_mroIn (M := model X.prog X.w) I2.kIn c.ob)
  refine codeAny_call_builtin PySem.W.oi_plain PySem.W.entry_oi (@PySem.W.check_slot (model X.prog X.w) _ _ _ "object.__init__" "object" "__init__" (.ref (s.heap.objs.size + 1)) [] [] _ PySem.W.oi_kind PySem.W.oi_split t2 (PySem.W.oi_args (.ref (s.heap.objs.size + 1))) ?_)
  rw [PySem.W.oi_run]
  exact wpAny_pure (And.intro rfl ⟨V.ref (s.heap.objs.size + 1), _, I2, rfl, q⟩)
end
section
variable {σ : L2.St} {H : Hp} {Q : VK} {ta tv : TE} {K : PySem.W.Frag} {a C dx : Addr} {fs : List (Str × V)} {f m : Str} {v : V} {sp : Sp} {t : TA} {D : Ends} {E : XK}
def rFld (K : PySem.W.Frag) (f : Str) (x : V) (H1 : Hp) (Q : VK) : Prop := ∃ a C dx fs v, x = .ref a ∧ H1 a = some (.ins C dx fs) ∧ Cls K C ∧ NoAttr K C f ∧ fs.lookup f = some v ∧ Q v H1
theorem k_fld (q : ta σ H fun x H1 => rFld K f x H1 Q) : tFld K ta f σ H Q := q
theorem k_fldx (h : H a = some (.ins C dx fs)) (c : Cls K C) (n : NoAttr K C f) (l : fs.lookup f = some v) (q : Q v H) : rFld K f (.ref a) H Q := ⟨a, C, dx, fs, v, rfl, h, c, n, l, q⟩
def rSFld (K : PySem.W.Frag) (f : Str) (x y : V) (H2 : Hp) (Q : Hp → Prop) : Prop := ∃ a C dx fs, x = .ref a ∧ H2 a = some (.ins C dx fs) ∧ Cls K C ∧ NoAttr K C f ∧ fs.length < 1000 ∧ Q (upd H2 a (.ins C dx (putF f y fs)))
theorem k_sfld (q : tv σ H fun y H1 => ta σ H1 fun x H2 => rSFld K f x y H2 fun H3 => D.nx σ H3) : sFld K ta tv f D σ H := q
theorem k_sfldx {y : V} {Q : Hp → Prop} (h : H a = some (.ins C dx fs)) (c : Cls K C) (n : NoAttr K C f) (q : ∀ H', But a H H' → H' a = some (.ins C dx (putF f y fs)) → Q H') (l : fs.length < 1000) : rSFld K f (.ref a) y H Q := ⟨a, C, dx, fs, rfl, h, c, n, l, q _ But.upd upd_same⟩
def rMeth (C : Addr) (m : Str) (x : V) (H1 : Hp) (P : Prop) : Prop := ∃ a dx fs, x = .ref a ∧ H1 a = some (.ins C dx fs) ∧ fs.lookup m = none ∧ P
theorem k_meth {E : L2.St → XK} (q : ta σ H fun x H1 => rMeth C m x H1 (t σ H1 fun vs H2 => sp (x :: vs) H2 Q (E σ))) : tMethS C m sp E ta t σ H Q := q
theorem k_methx {P : Prop} (h : H a = some (.ins C dx fs)) (l : fs.lookup m = none) (q : P) : rMeth C m (.ref a) H P := ⟨a, dx, fs, rfl, h, l, q⟩
theorem k_o1 {t u : TE} (q : t σ H Q) : tOr2 t u σ H Q := .inl q
theorem k_o2 {t u : TE} (q : u σ H Q) : tOr2 t u σ H Q := .inr q
def rMake (C : Addr) (sp : Sp) (vs : List V) (H1 : Hp) (Q : VK) (E : XK) : Prop := ∀ x dx, H1 x = none → H1 dx = none → dx ≠ x → sp (.ref x :: vs) (upd (upd H1 dx (.own x)) x (.ins C dx [])) (fun v H2 => v = .non ∧ Q (.ref x) H2) E
theorem k_make (q : t σ H fun vs H1 => rMake C sp vs H1 Q E) : tMake C sp [] E t σ H Q := by
  unfold tMake
  simp only [List.append_nil]
  exact q
theorem k_makex {vs : List V} (q : ∀ x dx H2, H x = none → H dx = none → Same H H2 → H2 x = some (.ins C dx []) → H2 dx = some (.own x) → sp (.ref x :: vs) H2 (fun v H3 => v = .non ∧ Q (.ref x) H3) E) : rMake C sp vs H Q E := fun x dx hx hd ne =>
  q x dx _ hx hd ((same_new hd).trans (same_new (by rw [upd_ne (Ne.symm ne)]; exact hx))) upd_same (by rw [upd_ne ne, upd_same])
def rMakeB (C : Addr) (H : Hp) (Q : VK) : Prop := ∀ x dx, H x = none → H dx = none → dx ≠ x → Q (.ref x) (upd (upd H dx (.own x)) x (.ins C dx []))
theorem k_makeB (q : rMakeB C H Q) : tMakeB C σ H Q := q
theorem k_makeBx (q : ∀ x dx H2, H x = none → Same H H2 → H2 x = some (.ins C dx []) → Q (.ref x) H2) : rMakeB C H Q := fun x dx hx hd ne =>
  q x dx _ hx ((same_new hd).trans (same_new (by rw [upd_ne (Ne.symm ne)]; exact hx))) upd_same
end
/-! fields by name -/
section
variable {f g : Str} {u v : V} {r : List (Str × V)}
theorem lk1 : List.lookup f ((f, v) :: r) = some v := by simp [List.lookup]
theorem lkn (h : (f == g) = false) (k : List.lookup f r = some v) : List.lookup f ((g, u) :: r) = some v := by
  show (match f == g with | true => some u | false => List.lookup f r) = _
  rw [h]
  exact k
theorem lk0 : List.lookup f ([] : List (Str × V)) = none := rfl
theorem lkz (h : (f == g) = false) (k : List.lookup f r = none) : List.lookup f ((g, u) :: r) = none := by
  show (match f == g with | true => some u | false => List.lookup f r) = _
  rw [h]
  exact k
theorem pfl0 : ([] : List (Str × V)).length < 1 := by decide
theorem pfl : ∀ {r : List (Str × V)} {n : Nat}, r.length < n → (putF f v r).length < n + 1
  | [], n, h => by show 1 < n + 1; simp at h; omega
  | (g, u) :: r, n, h => by
    show (if g = f then (g, v) :: r else (g, u) :: putF f v r).length < n + 1
    cases n with
    | zero => simp at h
    | succ n =>
      split
      · simp at h ⊢; omega
      · have := pfl (r := r) (n := n) (by simpa using h)
        simp only [List.length_cons]
        omega
theorem pf0 : putF f v [] = [(f, v)] := rfl
theorem pf1 : putF f v ((f, u) :: r) = (f, v) :: r := if_pos rfl
theorem pfn (h : g ≠ f) : putF f v ((g, u) :: r) = (g, u) :: putF f v r := if_neg h
end
/-- what a class says, read through -/
def supmB (K : PySem.W.Frag) (C m : Str) : Bool := PySem.W.readsIn K (He.ga K C) (.type "type") && (He.eqO (PySem.W.specialIn K (.ref (He.ga K C)) "__getattribute__") (some (some (.builtin "type.__getattribute__"))) && (PySem.W.keepIn K (.ref (He.ma K (He.ga K C) m)) && (match PySem.W.findCls K (.ref (He.ga K C)) (.type "type") m with
  | some (.val (.ref f)) => f == He.ma K (He.ga K C) m
  | _ => false)))
theorem supmB_ok {K : PySem.W.Frag} {C m : Str} (h : supmB K C m = true) : ClX.CRead K (He.ga K C) (.type "type") ∧ PySem.W.findCls K (.ref (He.ga K C)) (.type "type") m = some (.val (.ref (He.ma K (He.ga K C) m))) ∧ PySem.W.keepIn K (.ref (He.ma K (He.ga K C) m)) = true := by
  obtain ⟨h1, h⟩ := He.ba h
  obtain ⟨h2, h⟩ := He.ba h
  obtain ⟨h3, h4⟩ := He.ba h
  refine ⟨⟨h1, He.eqO_ok h2⟩, ?_, h3⟩
  split at h4
  · rename_i f e
    rw [e, beq_iff_eq.mp h4]
  · cases h4
/-! ### operators, joined -/
section
variable {X : Cx}
/-! a given list + a list -/
section
theorem addL_any (l : Addr) (xs : Array Value) (n : Nat) (dd : Option Addr) (sl : Array (Option Value)) (b : Addr) (ys : Array Value) (m : Nat) (de : Option Addr) (sk : Array (Option Value)) (hz : xs.size + ys.size ≤ sizeLine) :
    Meets (Builtin.«list.__add__» ⟨[.ref l, .ref b], []⟩) (fun _ R s => s.heap.get? l = some ⟨.type "list", dd, .seq xs n, sl⟩ ∧ s.heap.get? b = some ⟨.type "list", de, .seq ys m, sk⟩ ∧ R (.ok (.ret (Value.ref s.heap.objs.size))) { s with heap := s.heap.push ⟨Value.type "list", none, Data.seq (xs ++ ys) 0, #[]⟩, toks := s.toks }) :=
  .of_wp fun prog w A R st z => by
    obtain ⟨h0, g0, d0, t0, o0⟩ := st
    obtain ⟨z1, z2, z3⟩ := z
    have t1 := AutoSeq1.idx_int; have t2 := AutoSeq1.sub_tuple_tuple; have t3 := AutoSeq1.sub_list_list; have t4 := AutoSeq1.sub_tuple_list; have t5 := AutoSeq1.sub_list_tuple
    wp_walk using AutoSeq1.wpAny_loadPart' z1, AutoSeq1.wpAny_loadPart' z2
    exact ⟨_, rfl, z3⟩
def rCatL (K : PySem.W.Frag) : R2 := fun x y H Q => ∃ l b xs zs, x = .ref l ∧ y = .ref b ∧ SqL K H l xs ∧ SqL K H b zs ∧ xs.length + zs.length ≤ sizeLine ∧ ∀ p, H p = none → Q (.ref p) (upd H p (.lst (xs ++ zs)))
theorem op_catL {X : Cx} : OpR X (binaryOp .Add) (rCatL X.K) := by
  rintro pins s σ H x y v u Q I rx ry ⟨l, b, xs, zs, rfl, rfl, hx, hy, hz, q⟩
  cases rx
  cases ry
  obtain ⟨as, r1, ⟨o1, n1, e1, c1, d1, k1⟩, z1⟩ := I.list hx
  obtain ⟨bs, r2, ⟨o2, n2, e2, c2, d2, k2⟩, z2⟩ := I.list hy
  obtain ⟨oc1, od1, ot1, os1⟩ := o1
  obtain ⟨oc2, od2, ot2, os2⟩ := o2
  simp only at c1 c2 k1 k2
  subst c1 c2 k1 k2
  have l1 := r1.length
  have l2 := r2.length
  refine PySem.concat_meets ⟨_, e1, rfl⟩ ⟨_, e2, rfl⟩ PySem.noFill_list_add PySem.seq_list_add PySem.F.slot_list_add PySem.F.entry_list_add (PySem.F.args_list_add_2 _ _) (addL_any l as.toArray n1 od1 os1 b bs.toArray n2 od2 os2 (by simp only [List.size_toArray]; omega)) ⟨e1, e2, ?_⟩
  have ea : as.toArray ++ bs.toArray = (as ++ bs).toArray := by simp
  rw [ea]
  exact ⟨.ref _, _, I.lnew (t' := s.toks) (r1.append r2) (by rw [List.length_append]; omega), rfl, q _ I.fresh⟩
end
def rAddU (K : PySem.W.Frag) : R2 := fun x y H Q => (∃ i j, x = .int i ∧ y = .int j ∧ Q (.int (i + j)) H) ∨ (∃ i j, x = .str i ∧ y = .str j ∧ i.length + j.length ≤ sizeLine ∧ Q (.str (i ++ j)) H) ∨ rCat x y H Q ∨ rCatA K x y H Q ∨ rCatL K x y H Q
theorem op_addU : OpR X (binaryOp .Add) (rAddU X.K) := op_add.or (op_add_str.or (op_cat.or (op_catA.or op_catL)))
theorem tuple_mul1 (l : Addr) (items : Array Value) (n : Nat) (dd : Option Addr) (sl : Array (Option Value)) (u : Tok) :
    Meets (Builtin.«tuple.__mul__» ⟨[.ref l, .int 1 u], []⟩) (fun _ R s => s.heap.get? l = some { cls := .type "tuple", dict := dd, data := .seq items n, slots := sl } ∧ R (.ok (.ret (Value.ref l))) s) :=
  .of_wp fun prog w A R s h => by
    obtain ⟨hp, g, d, tk, os⟩ := s
    obtain ⟨hl, h⟩ := h
    have f1 := AutoSeq1.idx_int
    have c0 : (decide ((1 : Int) < -(2 ^ 63)) || decide ((1 : Int) ≥ 2 ^ 63)) = false := by decide
    have c1 : (items.isEmpty || (1 : Int) == 1) = true := by simp
    wp_walk using wpAny_loadPart' hl
    repeat (first
      | (refine wpAny_ite_false (decide_eq_false (by rw [c0]; exact Bool.false_ne_true)) ?_; wp_walk using wpAny_loadPart' hl)
      | (refine wpAny_ite_true (decide_eq_true c1) ?_; wp_walk using wpAny_loadPart' hl))
    exact ⟨_, rfl, h⟩
def rRep1 (K : PySem.W.Frag) : R2 := fun x y H Q => ∃ l xs, x = .ref l ∧ y = .int 1 ∧ SqT K H l xs ∧ Q (.ref l) H
theorem op_rep1 {X : Cx} : OpR X (binaryOp .Mult) (rRep1 X.K) := by
  intro pins s σ H x y v u Q I rx ry h
  obtain ⟨l, xs, rfl, rfl, hT, q⟩ := h
  cases rx
  obtain ⟨t, rfl⟩ := ry
  obtain ⟨its, r, ⟨⟨cls, dd, data, sl⟩, ho, hc, n, hd⟩, hs⟩ := I.tuple hT
  simp only at hc hd
  subst hc hd
  refine wpAny_binaryOp_repeat_ref (T := "tuple") (U := "int") (by decide) ⟨_, ho, rfl⟩ (fun s' => typeIs_int s' 1 t) noFill_tuple_mul F.fills_int_mul F.slot_int_rmul repeat_tuple F.slot_int_index.lookup
    (call_meets F.slot_int_rmul (typeIs_int s 1 t) F.entry_int_rmul (F.args_int_rmul_2 _ _) (int_rmul_tuple 1 t l its.toArray n dd sl)
      ⟨ho, rfl, ⟨_, ho, rfl⟩, call_meets F.slot_tuple_mul ⟨_, ho, rfl⟩ F.entry_tuple_mul (F.args_tuple_mul_2 _ _) (tuple_mul1 l its.toArray n dd sl t) ⟨ho, ?_⟩⟩)
  exact ⟨.ref l, H, I, rfl, q⟩
/-- a short text, repeated -/
def rMulS : R2 := fun x y H Q => ∃ (z : Str) (i : Int), x = .str z ∧ y = .int i ∧ z.length ≤ 16 ∧ 0 ≤ i ∧ i ≤ 1048576 ∧ ∀ u : Str, (u.length : Int) = z.length * i → Q (.str u) H
theorem op_mulS : OpR X (binaryOp .Mult) rMulS := by
  rintro pins s σ H x y v u Q I rx ry ⟨z, i, rfl, rfl, hz, h0, h1, q⟩
  obtain ⟨t, rfl⟩ := rx
  obtain ⟨k, rfl⟩ := ry
  exact PySem.W.KXi.mul rfl hz (by omega) h1 fun t' m _ hl => ⟨.str _, H, I.tok _, ⟨_, rfl⟩, q _ (hl h0)⟩
def rMulU (K : PySem.W.Frag) : R2 := fun x y H Q => (∃ i j, x = .int i ∧ y = .int j ∧ CMulX i j ∧ Q (.int (i * j)) H) ∨ rRep x y H Q ∨ rRepT K x y H Q ∨ rMulS x y H Q ∨ rRep1 K x y H Q
theorem op_mulU : OpR X (binaryOp .Mult) (rMulU X.K) := op_mulX.or (op_rep.or (op_repT.or (op_mulS.or op_rep1)))
/-- lists that are not as long -/
def rEqL (K : PySem.W.Frag) : R2 := fun x y H Q => ∃ a b xs ys, x = .ref a ∧ y = .ref b ∧ SqL K H a xs ∧ SqL K H b ys ∧ xs.length ≠ ys.length ∧ Q (.bl false) H
theorem op_eqL {X : Cx} (hu : X.A.units < cLine) : OpR X (compareOp .Eq) (rEqL X.K) := by
  rintro pins s σ H x y v u Q I rx ry ⟨a, b, xs, ys, rfl, rfl, hx, hy, ne, q⟩
  cases rx
  cases ry
  obtain ⟨us, ru, pu, _⟩ := I.list hx
  obtain ⟨vs, rv, pv, _⟩ := I.list hy
  refine PySem.SeqAt.eq_list_lengthsAt pu.isList pv.isList ?_ hu ⟨.bl false, H, I, rfl, q⟩
  have h1 := ru.length
  have h2 := rv.length
  simp
  omega
def rEqU (K : PySem.W.Frag) : R2 := fun x y H Q => rEq x y H Q ∨ rEqD K x y H Q ∨ rEqL K x y H Q
def rNeL (K : PySem.W.Frag) : R2 := fun x y H Q => ∃ a b xs ys, x = .ref a ∧ y = .ref b ∧ SqL K H a xs ∧ SqL K H b ys ∧ xs.length ≠ ys.length ∧ Q (.bl true) H
theorem op_neL {X : Cx} (hu : X.A.units < cLine) : OpR X (compareOp .NotEq) (rNeL X.K) := by
  rintro pins s σ H x y v u Q I rx ry ⟨a, b, xs, ys, rfl, rfl, hx, hy, ne, q⟩
  cases rx
  cases ry
  obtain ⟨us, ru, pu, _⟩ := I.list hx
  obtain ⟨vs, rv, pv, _⟩ := I.list hy
  refine PySem.SeqAt.RcNeAt.lists_lengths pu.isList pv.isList ?_ hu X.prog X.w _ _ ⟨.bl true, H, I, rfl, q⟩
  have h1 := ru.length
  have h2 := rv.length
  simp
  omega
def rNeU (K : PySem.W.Frag) : R2 := fun x y H Q => rNe x y H Q ∨ rNeD K x y H Q ∨ rNeL K x y H Q
theorem op_eqU {k : Nat} (hr : Room k X.A) : OpR X (compareOp .Eq) (rEqU X.K) := op_eq.or ((op_eqD hr.units).or (op_eqL (by have := hr.units; omega)))
theorem op_neU {k : Nat} (hr : Room k X.A) : OpR X (compareOp .NotEq) (rNeU X.K) := op_ne.or ((op_neD hr.units).or (op_neL (by have := hr.units; omega)))
def CDivG (i j : Int) : Prop := j ≠ 0 ∧ Builtin.divisionGoesByPylong i j = false
theorem noPy_low {i j : Int} (h : j.natAbs < 2 ^ 9000) : Builtin.divisionGoesByPylong i j = false := PyProof.noPylong_of_log2 (PySem.Flt.log2_lt_of (by decide) h)
theorem noPy_mid {i j : Int} (h : i.natAbs < 2 ^ 13500) : Builtin.divisionGoesByPylong i j = false := by
  have e := PySem.Flt.log2_lt_of (by decide) h
  unfold Builtin.divisionGoesByPylong
  simp only [Bool.and_eq_false_iff, decide_eq_false_iff_not]
  by_cases c : j = 0
  · left; simp [c]
  · by_cases c2 : i = 0
    · right; simp [c2]
    · simp [c, c2]; omega
theorem op_fdivG : OpR X (binaryOp .FloorDiv) (rI CDivG fun i j => .int (i.fdiv j)) := opI fun i j _ _ _ _ _ hc q => floordiv_int hc.1 q (.inl hc.2)
end
/-- walking a list or a tuple -/
def rItU (K : PySem.W.Frag) (x : V) (H : Hp) (R : It → Hp → Prop) : Prop := ∃ a, x = .ref a ∧ (((∃ xs, SqL K H a xs) ∧ R (Itl K a) H) ∨ ((∃ xs, SqT K H a xs) ∧ R (Itt K a) H))
def iSeqU (K : PySem.W.Frag) (tl : TE) : TI := fun σ H R => tl σ H fun x H1 => rItU K x H1 R
theorem pi_seqU {X : Cx} {tg l : Expr} {tl : TE} (hl : PE X l tl) : PI X tg l (iSeqU X.K tl) :=
  ⟨fun pins s σ H R I h => thn (hl.run pins s σ H _ I h) fun v s1 z => by
    obtain ⟨x, H1, I1, r1, a, e, z⟩ := z
    cases e
    cases r1
    have fp : ∀ b ∈ [s1.heap.objs.size], FpOk X pins H1 b := fun b hb => by
      obtain rfl : b = s1.heap.objs.size := by simpa using hb
      exact I1.fpOk (Nat.le_refl _) (I1.hok.fresh (Nat.le_refl _))
    rcases z with ⟨⟨xs, hq⟩, q⟩ | ⟨⟨xs, hq⟩, q⟩
    · obtain ⟨its, _, pl, _⟩ := I1.list hq
      exact wpAny_pyIter_list pl.isList ⟨_, [s1.heap.objs.size], _, _, H1, rfl, I1.kept (t' := s1.toks) (fun b o w => Heap.get?_push_of_some _ w), turn_list a _, ⟨_, Heap.get?_push_size _ rfl, rfl, rfl⟩, fp, q⟩
    · obtain ⟨its, _, pt, _⟩ := I1.tuple hq
      exact wpAny_pyIter_tuple (show s1.heap.IsTuple a its.toArray from pt) ⟨_, [s1.heap.objs.size], _, _, H1, rfl, I1.kept (t' := s1.toks) (fun b o w => Heap.get?_push_of_some _ w), turn_tuple a _, ⟨_, Heap.get?_push_size _ rfl, rfl, rfl⟩, fp, q⟩⟩
/-- a tuple's type, a list's type -/
theorem pi_seqUK {X : Cx} {K : PySem.W.Frag} {tg l : Expr} {tl : TE} (h : X.K = K) (hl : PE X l tl) : PI X tg l (iSeqU K tl) := h ▸ pi_seqU hl
theorem ty_tup {K : PySem.W.Frag} {H : Hp} {p : Addr} {xs : List V} (h : SqT K H p xs) : TyX K H (.ref p) (.type "tuple") := by
  rcases h with (h | ⟨o, h⟩) | ⟨o, its, n, h, c, _⟩
  · exact .base (.tup h)
  · exact .fTuple h
  · exact .kTuple h c
theorem ty_lst {K : PySem.W.Frag} {H : Hp} {p : Addr} {xs : List V} (h : SqL K H p xs) : TyX K H (.ref p) (.type "list") := by
  rcases h with (h | ⟨o, h⟩) | ⟨o, its, n, h, c, _⟩
  · exact .base (.lst h)
  · exact .base (.frz h)
  · exact .kList h c
/-- isinstance(e, c), e the error that a suite holds, its class cls, its dict d -/
def rIsEU (K : PySem.W.Frag) (a : Addr) (cls : Value) (d : Option Addr) : List V → Hp → VK → Prop := fun xs H Q => ∃ D : Addr, cls = .ref D ∧ (d = none ∨ ∃ dd fs, d = some dd ∧ H dd = some (.xd fs)) ∧ ExcC K D ∧ rIsE K D a xs H Q
theorem call_isEU {X : Cx} {a : Addr} {cls : Value} {d : Option Addr} {oe : Obj} {pn : List (Addr × Obj)} (hz : Zc cls d oe) (hf : ∃ vs, oe.data = .fields vs) : CallR (X.suite a ((a, oe) :: pn)) (.builtin "isinstance") (rIsEU X.K a cls d) := by
  intro pins s σ H xs us Q I r h
  obtain ⟨D, rfl, hd, C, h⟩ := h
  rcases hd with rfl | ⟨dd, fs, rfl, hdd⟩
  · exact call_isE C hz hf pins s σ H xs us Q I r h
  · obtain ⟨c, cv, b, rfl, hcv, e, q⟩ := h
    cases r with
    | cons rx rr =>
      cases rr with
      | cons rt rr =>
        cases rr
        cases rx
        have ec := hcv _ rt
        subst ec
        obtain ⟨hget, _⟩ := I.pin (a, oe) (List.mem_append.mpr (.inl List.mem_cons_self))
        obtain ⟨vs, hv⟩ := hf
        have hx : ObjOk X.prog X.w H s.heap dd (.xd fs) := I.hok dd _ hdd
        obtain ⟨mA, hns, hr⟩ := hx
        obtain ⟨od, ho, hl⟩ := lookIn_ns hns
        have J : PySem.W.InstAt s.heap a oe D (some od) := ⟨hget, hz.1, by unfold PySem.W.notCls; rw [hv] <;> rfl, by rw [hz.2]; exact ho⟩
        exact PySem.W.kia_one (PySem.W.kitx_exc (by obtain ⟨cd, hc, _⟩ := PySem.W.any_some C.hd; rw [hc]; rfl) C.hg C.hk C.hs C.ha C.hn C.ht C.hm) I.kIn J e (fun z => nomatch z) fun tk => ⟨.bl b, H, I.kept (t' := tk) fun _ _ z => z, rfl, q⟩
theorem k_isE {K : PySem.W.Frag} {H : Hp} {Q : VK} {a D : Addr} {c : V} {cv : Value} {b : Bool} (C : ExcC K D) (hk : PySem.W.kitOne K (.ref D) cv = some b) (hc : ∀ u, RelV c u → u = cv) (q : Q (.bl b) H) : rIsEU K a (.ref D) none [.ref a, c] H Q := ⟨D, rfl, .inl rfl, C, c, cv, b, rfl, hc, hk, q⟩
theorem k_isED {K : PySem.W.Frag} {H : Hp} {Q : VK} {a D dd : Addr} {fs : List (Str × V)} {c : V} {cv : Value} {b : Bool} (h : H dd = some (.xd fs)) (C : ExcC K D) (hk : PySem.W.kitOne K (.ref D) cv = some b) (hc : ∀ u, RelV c u → u = cv) (q : Q (.bl b) H) : rIsEU K a (.ref D) (some dd) [.ref a, c] H Q := ⟨D, rfl, .inr ⟨dd, fs, rfl, h⟩, C, c, cv, b, rfl, hc, hk, q⟩
def excB (K : PySem.W.Frag) (x : Str) : Bool := He.eqO (PySem.W.findIn K (.ref (He.ga K x)) "__getattribute__") (some (some (.builtin "BaseException.__getattribute__"))) && (He.eqO (PySem.W.findIn K (.ref (He.ga K x)) "__getattr__") (some none) &&
  (decide (PySem.W.subIn K (.ref (He.ga K x)) (.type "BaseException") = some true) && (PySem.W.hasDictIn K (He.ga K x) && (He.eqO (PySem.W.findIn K (.ref (He.ga K x)) "__class__") (some (some (.builtin "object.__class__"))) &&
  (He.eqO (PySem.W.specialIn K (.builtin "object.__class__") "__get__") (some (some (.builtin "getset_descriptor.__get__"))) && (decide (PySem.W.takesIn K (.builtin "object.__class__") = some true) && decide (PySem.W.mroIn K (He.ga K x) (.type "object") = some true)))))))
theorem excB_ok {K : PySem.W.Frag} {x : Str} (h : excB K x = true) : ExcC K (He.ga K x) := by
  unfold excB at h
  obtain ⟨h1, h⟩ := He.ba h
  obtain ⟨h2, h⟩ := He.ba h
  obtain ⟨h3, h⟩ := He.ba h
  obtain ⟨h4, h⟩ := He.ba h
  obtain ⟨h5, h⟩ := He.ba h
  obtain ⟨h6, h⟩ := He.ba h
  obtain ⟨h7, h8⟩ := He.ba h
  exact ⟨He.eqO_ok h1, He.eqO_ok h2, of_decide_eq_true h3, h4, He.eqO_ok h5, He.eqO_ok h6, of_decide_eq_true h7, of_decide_eq_true h8⟩
def kitB2 (K : PySem.W.Frag) (x : Str) (c : Value) (b : Bool) : Bool := decide (PySem.W.kitOne K (.ref (He.ga K x)) c = some b)
theorem xat {K : PySem.W.Frag} {l : List (PySem.W.Frag → Bool)} (h : (l.all fun f => f K) = true) (i : Nat) {f : PySem.W.Frag → Bool} (e : l[i]? = some f) : f K = true := List.all_eq_true.mp h f (List.mem_of_getElem? e)
/-! ### readings, step by step -/
section
variable {σ : L2.St} {H : Hp} {Q : VK} {v : V} {ta tb tc te : TE} {tt tu : TT} {K : PySem.W.Frag} {i j : Nat}
theorem k_var (h : σ[i]? = some (some v)) (q : Q v H) : tVar i σ H Q := ⟨v, h, q⟩
theorem k_c (q : Q v H) : tC v σ H Q := q
theorem k_op {r : R2} (q : ta σ H fun x H1 => tb σ H1 fun y H2 => r x y H2 Q) : tOp r ta tb σ H Q := q
theorem k_un {r : V → Hp → VK → Prop} (q : ta σ H fun x H1 => r x H1 Q) : tUn r ta σ H Q := q
theorem k_neg {a : Int} (q : Q (.int (-a)) H) : rU (fun i => .int (-i)) (.int a) H Q := ⟨a, rfl, q⟩
theorem k_I0 {g : Int → Int → V} {a b : Int} (q : Q (g a b) H) : rI0 g (.int a) (.int b) H Q := ⟨a, b, rfl, rfl, q⟩
theorem k_I {C : Int → Int → Prop} {g : Int → Int → V} {a b : Int} (q : Q (g a b) H) (c : C a b) : rI C g (.int a) (.int b) H Q := ⟨a, b, rfl, rfl, c, q⟩
theorem k_addI {a b : Int} (q : Q (.int (a + b)) H) : rAddU K (.int a) (.int b) H Q := .inl ⟨a, b, rfl, rfl, q⟩
theorem k_addS {a b : Str} (q : Q (.str (a ++ b)) H) (c : a.length + b.length ≤ sizeLine) : rAddU K (.str a) (.str b) H Q := .inr (.inl ⟨a, b, rfl, rfl, c, q⟩)
theorem k_addL {a b : Addr} {xs ys : List V} (ha : H a = some (.lst xs)) (hb : H b = some (.lst ys)) (q : ∀ p H', H p = none → Same H H' → H' p = some (.lst (xs ++ ys)) → Q (.ref p) H') (c : xs.length + ys.length ≤ sizeLine) : rAddU K (.ref a) (.ref b) H Q :=
  .inr (.inr (.inl ⟨a, b, xs, ys, rfl, rfl, ha, hb, c, fun p hp => q p _ hp (same_new hp) upd_same⟩))
theorem k_addT {a b : Addr} {xs ys : List V} (ha : SqT K H a xs) (hb : SqT K H b ys) (hx : xs ≠ []) (hy : ys ≠ []) (q : ∀ p H', H p = none → Same H H' → H' p = some (.tup (xs ++ ys)) → Q (.ref p) H') (c : xs.length + ys.length ≤ sizeLine) : rAddU K (.ref a) (.ref b) H Q :=
  .inr (.inr (.inr (.inl ⟨a, b, xs, ys, rfl, rfl, ha, hb, c, fun e => absurd e hx, fun _ e => absurd e hy, fun _ _ p hp => q p _ hp (same_new hp) upd_same⟩)))
theorem k_mulI {a b : Int} (q : Q (.int (a * b)) H) (c : CMulX a b) : rMulU K (.int a) (.int b) H Q := .inl ⟨a, b, rfl, rfl, c, q⟩
theorem k_mulS {z : Str} {i : Int} (hz : z.length ≤ 16) (h0 : 0 ≤ i) (h1 : i ≤ 1048576) (q : ∀ u : Str, (u.length : Int) = z.length * i → Q (.str u) H) : rMulU K (.str z) (.int i) H Q := .inr (.inr (.inr (.inl ⟨z, i, rfl, rfl, hz, h0, h1, q⟩)))
/-- a tuple of one, repeated -/
theorem k_mulRT {l : Addr} {y : V} {k : Nat} (h : SqT K H l [y]) (h1 : 1 ≤ k) (h2 : k ≤ 1000) (q : ∀ p H', Same H H' → SqT K H' p (List.replicate k y) → Q (.ref p) H') : rMulU K (.ref l) (.int (k : Int)) H Q := by
  by_cases e : k = 1
  · subst e
    exact .inr (.inr (.inr (.inr ⟨l, _, rfl, rfl, h, q l H (Same.refl H) h⟩)))
  · refine .inr (.inr (.inl ⟨l, _, _, rfl, rfl, h, by simp, by omega, by omega, by simp, fun p hp => q p _ (same_new hp) ?_⟩))
    have e2 : ∀ n : Nat, (List.replicate n [y]).flatten = List.replicate n y := fun n => by
      induction n with
      | zero => rfl
      | succ n ih => rw [List.replicate_succ, List.flatten_cons, ih, List.replicate_succ]; rfl
    rw [show ((k : Int)).toNat = k from rfl, e2]
    exact SqT.of upd_same
theorem k_eqS {x y : V} (h : scal x y = true) (q : Q (.bl (decide (x = y))) H) : rEqU K x y H Q := .inl ⟨h, q⟩
theorem k_neS {x y : V} (h : scal x y = true) (q : Q (.bl (!decide (x = y))) H) : rNeU K x y H Q := .inl ⟨h, q⟩
theorem dec_int {a b : Int} : decide (V.int a = V.int b) = decide (a = b) := by
  by_cases h : a = b
  · rw [h] <;> simp
  · rw [decide_eq_false h, decide_eq_false (fun e => h (V.int.inj e))]
theorem dec_str {a b : Str} : decide (V.str a = V.str b) = decide (a = b) := by
  by_cases h : a = b
  · rw [h] <;> simp
  · rw [decide_eq_false h, decide_eq_false (fun e => h (V.str.inj e))]
theorem dec_bl {a b : Bool} : decide (V.bl a = V.bl b) = decide (a = b) := by
  cases a <;> cases b <;> decide
theorem k_eqI {a b : Int} (q : Q (.bl (decide (a = b))) H) : rEqU K (.int a) (.int b) H Q := k_eqS rfl (by rw [dec_int]; exact q)
theorem k_neI {a b : Int} (q : Q (.bl (!decide (a = b))) H) : rNeU K (.int a) (.int b) H Q := k_neS rfl (by rw [dec_int]; exact q)
theorem k_eqT {a b : Str} (q : Q (.bl (decide (a = b))) H) : rEqU K (.str a) (.str b) H Q := k_eqS rfl (by rw [dec_str]; exact q)
theorem k_neT {a b : Str} (q : Q (.bl (!decide (a = b))) H) : rNeU K (.str a) (.str b) H Q := k_neS rfl (by rw [dec_str]; exact q)
theorem k_eqB {a b : Bool} (q : Q (.bl (decide (a = b))) H) : rEqU K (.bl a) (.bl b) H Q := k_eqS rfl (by rw [dec_bl]; exact q)
theorem k_neB {a b : Bool} (q : Q (.bl (!decide (a = b))) H) : rNeU K (.bl a) (.bl b) H Q := k_neS rfl (by rw [dec_bl]; exact q)
theorem k_eqD {x y : V} {d e : PyData} (hx : Dp K H x d) (hy : Dp K H y e) (q : Q (.bl (PyData.eqv d e)) H) (s1 : SeqAt.shaped d = true) (s2 : SeqAt.shaped e = true) : rEqU K x y H Q := .inr (.inl ⟨d, e, hx, hy, s1, s2, q⟩)
theorem k_eqNil {a b : Addr} {xs : List V} (hx : SqL K H a xs) (hb : H b = some (.lst [])) (q : Q (.bl xs.isEmpty) H) : rEqU K (.ref a) (.ref b) H Q := by
  cases xs with
  | nil => exact .inr (.inl ⟨.list [], .list [], .lst hx .nil, .lst (SqL.of hb) .nil, rfl, rfl, by simpa [PyData.eqv, PyData.eqvAll] using q⟩)
  | cons x r => exact .inr (.inr ⟨a, b, _, [], rfl, rfl, hx, SqL.of hb, by simp, q⟩)
theorem k_neD {x y : V} {d e : PyData} (hx : Dp K H x d) (hy : Dp K H y e) (q : Q (.bl (!PyData.eqv d e)) H) (s1 : SeqAt.shaped d = true) (s2 : SeqAt.shaped e = true) : rNeU K x y H Q := .inr (.inl ⟨d, e, hx, hy, s1, s2, q⟩)
theorem k_neNil {a b : Addr} {xs : List V} (hx : SqL K H a xs) (hb : H b = some (.lst [])) (q : Q (.bl (!xs.isEmpty)) H) : rNeU K (.ref a) (.ref b) H Q := by
  cases xs with
  | nil => exact .inr (.inl ⟨.list [], .list [], .lst hx .nil, .lst (SqL.of hb) .nil, rfl, rfl, by simpa [PyData.eqv, PyData.eqvAll] using q⟩)
  | cons x r => exact .inr (.inr ⟨a, b, _, [], rfl, rfl, hx, SqL.of hb, by simp, q⟩)
theorem k_in0 {x : V} {p : Addr} {xs : List V} {b : Bool} (h : SqL K H p xs ∨ SqT K H p xs) (hx : flatV x = true) (ha : xs.all flatV = true) (e : inV x xs = b) (q : Q (.bl b) H) : rIn K false x (.ref p) H Q := ⟨p, xs, rfl, h, hx, ha, by rw [e]; exact q⟩
theorem k_ni0 {x : V} {p : Addr} {xs : List V} {b : Bool} (h : SqL K H p xs ∨ SqT K H p xs) (hx : flatV x = true) (ha : xs.all flatV = true) (e : inV x xs = b) (q : Q (.bl (!b)) H) : rIn K true x (.ref p) H Q := ⟨p, xs, rfl, h, hx, ha, by rw [e]; exact q⟩
/-- True stands in no list of False -/
theorem k_notIn {p : Addr} {xs : List V} (h : SqL K H p xs) (ha : xs.all flatV = true) (e : inV (.bl true) xs = false) (q : Q (.bl true) H) : rIn K true (.bl true) (.ref p) H Q := k_ni0 (.inl h) rfl ha e q
/-- tests -/
theorem k_tst {Q : Bool → Hp → Prop} (q : te σ H fun x H' => ∃ k, x = .bl k ∧ Q k H') : tTest te σ H Q := q
theorem k_B {Q : Bool → Hp → Prop} (q : te σ H fun x H' => ∃ k, x = .bl k ∧ Q k H') : tB te σ H Q := q
theorem k_bl {Q : Bool → Prop} {b : Bool} (q : Q b) : ∃ k, V.bl b = .bl k ∧ Q k := ⟨b, rfl, q⟩
theorem k_and {Q : Bool → Hp → Prop} (q : tt σ H fun c H1 => if c = true then tu σ H1 Q else Q false H1) : tAnd tt tu σ H Q := q
theorem k_or {Q : Bool → Hp → Prop} (q : tt σ H fun c H1 => if c = true then Q true H1 else tu σ H1 Q) : tOr tt tu σ H Q := q
theorem k_not {Q : Bool → Hp → Prop} (q : tt σ H fun c H1 => Q (!c) H1) : tNot tt σ H Q := q
theorem k_andV (q : ta σ H fun x H1 => ∃ c, x = .bl c ∧ if c = true then tb σ H1 Q else Q (.bl false) H1) : tAndV ta tb σ H Q := q
theorem k_orV (q : ta σ H fun x H1 => ∃ c, x = .bl c ∧ if c = true then Q (.bl true) H1 else tb σ H1 Q) : tOrV ta tb σ H Q := q
theorem k_notV (q : ta σ H fun x H1 => ∃ c, x = .bl c ∧ Q (.bl (!c)) H1) : tNotV ta σ H Q := q
theorem k_ife (q : tt σ H fun c H1 => if c = true then ta σ H1 Q else tb σ H1 Q) : tIf tt ta tb σ H Q := q
theorem k_chain {r r' : R2} (q : ta σ H fun x H1 => tb σ H1 fun y H2 => r x y H2 fun z H3 => ∃ k, z = .bl k ∧ (if k = true then tc σ H3 fun w' H4 => r' y w' H4 Q else Q (.bl false) H3)) : tChain r r' ta tb tc σ H Q := q
theorem k_tru {Q : Bool → Hp → Prop} {x : V} {b : Bool} (h : TruV K x H b) (q : Q b H) : ∃ k, TruV K x H k ∧ Q k H := ⟨b, h, q⟩
/-- a branch -/
theorem k_if {c : Prop} [Decidable c] {A B : Prop} (h1 : c → A) (h2 : ¬ c → B) : if decide c = true then A else B := by
  by_cases h : c
  · rw [if_pos (decide_eq_true h)]
    exact h1 h
  · rw [if_neg (by rw [decide_eq_false h]; decide)]
    exact h2 h
theorem k_ifn {c : Prop} [Decidable c] {A B : Prop} (h1 : ¬ c → A) (h2 : c → B) : if (!decide c) = true then A else B := by
  by_cases h : c
  · rw [if_neg (by rw [decide_eq_true h]; decide)]
    exact h2 h
  · rw [if_pos (by rw [decide_eq_false h]; decide)]
    exact h1 h
theorem k_ifb {b : Bool} {A B : Prop} (h1 : b = true → A) (h2 : b = false → B) : if b = true then A else B := by
  cases b with
  | true => exact h1 rfl
  | false => exact h2 rfl
theorem k_ifnb {b : Bool} {A B : Prop} (h1 : b = false → A) (h2 : b = true → B) : if (!b) = true then A else B := by
  cases b with
  | true => exact h2 rfl
  | false => exact h1 rfl
theorem k_ifnd {c : Prop} [Decidable c] {A B : Prop} (h1 : ¬ c → A) (h2 : c → B) : if (!decide c) = true then A else B := k_ifn h1 h2
theorem k_ifT {A B : Prop} (h : A) : if true = true then A else B := iteT h
theorem k_ifF {A B : Prop} (h : B) : if false = true then A else B := iteF h
theorem k_ifnT {A B : Prop} (h : B) : if (!true) = true then A else B := iteF h
theorem k_ifnF {A B : Prop} (h : A) : if (!false) = true then A else B := iteT h
/-- calls, arguments, displays -/
theorem k_cb {r : List V → Hp → VK → Prop} {t : TA} (q : t σ H fun vs H1 => r vs H1 Q) : tCB r t σ H Q := q
theorem k_cons {t : TA} {Q : List V → Hp → Prop} (q : ta σ H fun x H1 => t σ H1 fun xs H2 => Q (x :: xs) H2) : tCons ta t σ H Q := q
theorem k_nil {Q : List V → Hp → Prop} (q : Q [] H) : tNil σ H Q := q
theorem k_callS {sp : Sp} {W : WX} {t : TA} (q : t σ H fun vs H1 => sp vs H1 Q (WE W σ)) : tCallS sp (WE W) t σ H Q := q
theorem k_call {sp : Sp} {t : TA} {E : XK} (q : t σ H fun vs H1 => sp vs H1 Q E) : tCall sp [] E t σ H Q := by
  show t σ H fun vs H1 => sp (vs ++ []) H1 Q E
  simp only [List.append_nil]
  exact q
def rTupX (xs : List V) (H : Hp) (Q : VK) : Prop := xs.length ≤ sizeLine ∧ ∀ p, H p = none → Q (.ref p) (upd H p (.tup xs))
def rLstX (xs : List V) (H : Hp) (Q : VK) : Prop := xs.length ≤ sizeLine ∧ ∀ p, H p = none → Q (.ref p) (upd H p (.lst xs))
theorem k_tupx {xs : List V} (q : ∀ p H2, H p = none → Same H H2 → H2 p = some (.tup xs) → Q (.ref p) H2) (c : xs.length ≤ sizeLine) : rTupX xs H Q := ⟨c, fun p hp => q p _ hp (same_new hp) upd_same⟩
theorem k_lstx {xs : List V} (q : ∀ p H2, H p = none → Same H H2 → H2 p = some (.lst xs) → Q (.ref p) H2) (c : xs.length ≤ sizeLine) : rLstX xs H Q := ⟨c, fun p hp => q p _ hp (same_new hp) upd_same⟩
theorem k_tup0 {t : TA} (q : t σ H fun xs H1 => rTupX xs H1 Q) : tTup t σ H Q := q
theorem k_lst0 {t : TA} (q : t σ H fun xs H1 => rLstX xs H1 Q) : tLst t σ H Q := q
/-- subscripts -/
theorem k_ixL {p : Addr} {xs : List V} {i : Int} (h : SqL K H p xs) (ha : atI xs i = some v) (q : Q v H) : rIx K (.ref p) (.int i) H Q := .inl ⟨p, xs, i, v, rfl, rfl, h, ha, q⟩
theorem k_ixT {p : Addr} {xs : List V} {i : Int} (h : SqT K H p xs) (ha : atI xs i = some v) (q : Q v H) : rIx K (.ref p) (.int i) H Q := .inr (.inl ⟨p, xs, i, v, rfl, rfl, h, ha, q⟩)
/-! statements -/
variable {D : Ends} {t u : TS} {g : TG}
theorem k_seq (q : t { D with nx := u D } σ H) : tSeq t u D σ H := q
theorem k_asg  (q : te σ H fun x H1 => g x σ H1 D.nx) : tAsg te g D σ H := q
theorem k_gn {Q : L2.St → Hp → Prop} (q : Q (σ.set i (some v)) H) : gName i v σ H Q := q
theorem k_gtup {a : Addr} {xs : List V} {n : Nat} {t : TGs} {Q : L2.St → Hp → Prop} (h : SqT K H a xs) (hl : xs.length = n) (q : t xs σ H Q) : gTup K n t (.ref a) σ H Q := ⟨a, xs, rfl, h, hl, q⟩
theorem k_gcons {t : TG} {u : TGs} {r : List V} {Q : L2.St → Hp → Prop} (q : t v σ H fun σ' H' => u r σ' H' Q) : gCons t u (v :: r) σ H Q := ⟨v, r, rfl, q⟩
theorem k_gnil {Q : L2.St → Hp → Prop} (q : Q σ H) : gNil [] σ H Q := ⟨rfl, q⟩
theorem k_drop (q : te σ H fun _ H1 => D.nx σ H1) : tDrop te D σ H := q
theorem k_ret (q : te σ H D.rt) : tRet te D σ H := q
theorem k_ifs (q : tt σ H fun c H1 => if c = true then t D σ H1 else u D σ H1) : tIfS tt t u D σ H := q
theorem k_next (q : D.nx σ H) : tNext D σ H := q
theorem k_par {ta : TA} (q : ta σ H fun vs H1 => ∃ v w, vs = [v, w] ∧ D.nx ((σ.set i (some v)).set j (some w)) H1) : tPar i j ta D σ H := q
theorem k_two {v w : V} {P : V → V → Prop} (q : P v w) : ∃ a b, [v, w] = [a, b] ∧ P a b := ⟨v, w, rfl, q⟩
theorem k_app {l : Addr} {xs : List V} {y : V} (h : H l = some (.lst xs)) (q : ∀ H', But l H H' → H' l = some (.lst (xs ++ [y])) → Q .non H') (c : xs.length < sizeLine) : tyV K "list" (.ref l) H ∧ rAppend (.ref l) [y] H Q :=
  ⟨.inl ⟨rfl, _, SqL.of h⟩, l, xs, y, rfl, rfl, h, c, q _ But.upd upd_same⟩
end
/-! ### the same, the written part by its name -/
section
variable {X : Cx} {K : PySem.W.Frag}
theorem op_addK (h : X.K = K) : OpR X (binaryOp .Add) (rAddU K) := h ▸ op_addU
theorem op_mulK (h : X.K = K) : OpR X (binaryOp .Mult) (rMulU K) := h ▸ op_mulU
theorem op_eqK {k : Nat} (h : X.K = K) (hr : Room k X.A) : OpR X (compareOp .Eq) (rEqU K) := h ▸ op_eqU hr
theorem op_neK {k : Nat} (h : X.K = K) (hr : Room k X.A) : OpR X (compareOp .NotEq) (rNeU K) := h ▸ op_neU hr
theorem op_inK (h : X.K = K) : OpR X (compareOp .In) (rIn K false) := h ▸ op_in_seq
theorem op_niK (h : X.K = K) : OpR X (compareOp .NotIn) (rIn K true) := h ▸ op_notIn_seq
def rSlU (K : PySem.W.Frag) : V → Option Int → Option Int → Hp → VK → Prop := fun x lo hi H Q => rSlL K x lo hi H Q ∨ rSlS x lo hi H Q ∨ rSlA K x lo hi H Q
theorem sl_U {X : Cx} : SlR X (rSlU X.K) := sl_list.or (sl_str.or sl_tupA)
theorem sl_K (h : X.K = K) : SlR X (rSlU K) := h ▸ sl_U
theorem ix_K (h : X.K = K) : IxR X (rIx K) := h ▸ ix_seq
end
section
variable {σ : L2.St} {H : Hp} {Q : VK} {te : TE} {K : PySem.W.Frag}
/-! slices, an empty dict -/
theorem k_sl {r : V → Option Int → Option Int → Hp → VK → Prop} {tl th : TO} (q : te σ H fun x H1 => tl σ H1 fun lo H2 => th σ H2 fun hi H3 => r x lo hi H3 Q) : tSl r te tl th σ H Q := q
theorem k_part {Q : Option Int → Hp → Prop} (q : te σ H fun x H1 => ∃ i, x = .int i ∧ Q (some i) H1) : tPart te σ H Q := q
theorem k_noPart {Q : Option Int → Hp → Prop} (q : Q none H) : tNoPart σ H Q := q
theorem k_int {a : Int} {Q : Int → Prop} (q : Q a) : ∃ i, V.int a = .int i ∧ Q i := ⟨a, rfl, q⟩
theorem k_slL {a : Addr} {xs : List V} {lo hi : Option Int} (h : SqL K H a xs) (q : ∀ p H2, H p = none → Same H H2 → H2 p = some (.lst (cutV xs lo hi)) → Q (.ref p) H2) : rSlU K (.ref a) lo hi H Q := .inl ⟨a, xs, rfl, h, fun p hp => q p _ hp (same_new hp) upd_same⟩
theorem k_slS {z : Str} {lo hi : Option Int} (q : Q (.str (cutS z lo hi)) H) (c : z.length ≤ sizeLine) : rSlU K (.str z) lo hi H Q := .inr (.inl ⟨z, rfl, c, q⟩)
theorem k_slT {a : Addr} {xs : List V} {lo hi : Option Int} (h : SqT K H a xs) (c : ¬ (HT.sIx xs.length 0 lo = 0 ∧ HT.sIx xs.length xs.length hi = xs.length)) (q : ∀ p H2, H p = none → Same H H2 → H2 p = some (.tup (cutV xs lo hi)) → Q (.ref p) H2) : rSlU K (.ref a) lo hi H Q :=
  .inr (.inr ⟨a, xs, rfl, h, fun z => absurd z c, fun _ p hp => q p _ hp (same_new hp) upd_same⟩)
def rDictX (H : Hp) (Q : VK) : Prop := ∀ p, H p = none → Q (.ref p) (upd H p (.dK []))
theorem k_dict0 (q : rDictX H Q) : tDNewK σ H Q := q
theorem k_dict1 (q : ∀ p H2, H p = none → Same H H2 → H2 p = some (.dK []) → Q (.ref p) H2) : rDictX H Q := fun p hp => q p _ hp (same_new hp) upd_same
end
/-! ### built-ins by name -/
section
variable {X : Cx}
def rLenU (K : PySem.W.Frag) : List V → Hp → VK → Prop := fun xs H Q => ∃ x n, xs = [x] ∧ LenV K x H n ∧ Q (.int n) H
theorem call_lenU : CallR X (.builtin "len") (rLenU X.K) := call_len
def rAbsU : List V → Hp → VK → Prop := fun xs H Q => ∃ i, xs = [.int i] ∧ Q (.int (if i < 0 then -i else i)) H
theorem call_absU : CallR X (.builtin "abs") rAbsU := call_abs
def rMaxU : List V → Hp → VK → Prop := fun xs H Q => ∃ i j, xs = [.int i, .int j] ∧ Q (.int (if j > i then j else i)) H
theorem call_maxU (hc : X.calm = true) : CallR X (.builtin "max") rMaxU := call_max2 hc
def rMinU : List V → Hp → VK → Prop := fun xs H Q => ∃ i j, xs = [.int i, .int j] ∧ Q (.int (if j < i then j else i)) H
theorem call_minU (hc : X.calm = true) : CallR X (.builtin "min") rMinU := call_min2 hc
def rIntU : List V → Hp → VK → Prop := fun xs H Q => ((∃ i, xs = [.int i] ∧ Q (.int i) H) ∨ ∃ k, xs = [.bl k] ∧ Q (.int (if k then 1 else 0)) H) ∨ ∃ a n, xs = [.str a] ∧ PySem.intText? a = some n ∧ a.length ≤ 640 ∧ Q (.int n) H
theorem call_intU : CallR X (.type "int") rIntU := fun pins s σ H xs us Q I r h => h.elim (call_int1 pins s σ H xs us Q I r) (call_int_str pins s σ H xs us Q I r)
def rBoolU : List V → Hp → VK → Prop := fun xs H Q => (∃ i, xs = [.int i] ∧ Q (.bl (i != 0)) H) ∨ ∃ k, xs = [.bl k] ∧ Q (.bl k) H
theorem call_boolU : CallR X (.type "bool") rBoolU := call_bool1
def rStrU : List V → Hp → VK → Prop := fun xs H Q => ∃ i, xs = [.int i] ∧ i.natAbs.log2 < 1920 ∧ Q (.str (toString i)) H
theorem call_strU : CallR X (.type "str") rStrU := call_str_int
def rTupU (K : PySem.W.Frag) : List V → Hp → VK → Prop := fun xs H Q => ∃ p ys, xs = [.ref p] ∧ ((SqL K H p ys ∧ ∀ l, H l = none → Q (.ref l) (upd H l (.tup ys))) ∨ (SqT K H p ys ∧ Q (.ref p) H))
theorem call_tupU : CallR X (.type "tuple") (rTupU X.K) := call_tuple_of
def rLstU (K : PySem.W.Frag) : List V → Hp → VK → Prop := fun xs H Q => ∃ p ys, xs = [.ref p] ∧ (SqL K H p ys ∨ SqT K H p ys) ∧ ∀ l, H l = none → Q (.ref l) (upd H l (.lst ys))
theorem call_lstU : CallR X (.type "list") (rLstU X.K) := call_list_of
def rIsN : R2 := fun x y H Q => y = .non ∧ Q (.bl (decide (x = .non))) H
def rNotN : R2 := fun x y H Q => y = .non ∧ Q (.bl (!decide (x = .non))) H
theorem op_isNU : OpR X (compareOp .Is) rIsN := op_isN
theorem op_notNU : OpR X (compareOp .IsNot) rNotN := op_notN
end
section
variable {σ : L2.St} {H : Hp} {Q : VK} {K : PySem.W.Frag}
theorem k_lenL {p : Addr} {xs : List V} (q : Q (.int xs.length) H) (h : SqL K H p xs) : rLenU K [.ref p] H Q := ⟨.ref p, xs.length, rfl, .inl ⟨xs, h, rfl⟩, q⟩
theorem k_lenT {p : Addr} {xs : List V} (q : Q (.int xs.length) H) (h : SqT K H p xs) : rLenU K [.ref p] H Q := ⟨.ref p, xs.length, rfl, .inr ⟨xs, h, rfl⟩, q⟩
theorem k_lenS {x : Str} (q : Q (.int x.length) H) (h : x.length ≤ sizeLine) : rLenU K [.str x] H Q := ⟨.str x, x.length, rfl, ⟨h, rfl⟩, q⟩
theorem k_abs {a : Int} (q : Q (.int (a.natAbs : Int)) H) : rAbsU [.int a] H Q := ⟨a, rfl, by
  have e : (if a < 0 then -a else a) = (a.natAbs : Int) := by split <;> omega
  rw [e]
  exact q⟩
theorem k_max {a b : Int} (q : Q (.int (max a b)) H) : rMaxU [.int a, .int b] H Q := ⟨a, b, rfl, by
  have e : (if b > a then b else a) = max a b := by split <;> omega
  rw [e]
  exact q⟩
theorem k_min {a b : Int} (q : Q (.int (min a b)) H) : rMinU [.int a, .int b] H Q := ⟨a, b, rfl, by
  have e : (if b < a then b else a) = min a b := by split <;> omega
  rw [e]
  exact q⟩
theorem k_intI {a : Int} (q : Q (.int a) H) : rIntU [.int a] H Q := .inl (.inl ⟨a, rfl, q⟩)
theorem k_intB {b : Bool} (q : Q (.int (if b then 1 else 0)) H) : rIntU [.bl b] H Q := .inl (.inr ⟨b, rfl, q⟩)
theorem k_intS {a : Str} {n : Int} (h : PySem.intText? a = some n) (c : a.length ≤ 640) (q : Q (.int n) H) : rIntU [.str a] H Q := .inr ⟨a, n, rfl, h, c, q⟩
theorem k_boolI {a : Int} (q : Q (.bl (a != 0)) H) : rBoolU [.int a] H Q := .inl ⟨a, rfl, q⟩
theorem k_boolB {b : Bool} (q : Q (.bl b) H) : rBoolU [.bl b] H Q := .inr ⟨b, rfl, q⟩
theorem k_strI {a : Int} (q : Q (.str (toString a)) H) (c : a.natAbs.log2 < 1920) : rStrU [.int a] H Q := ⟨a, rfl, c, q⟩
theorem k_lstL {p : Addr} {xs : List V} (h : SqL K H p xs) (q : ∀ l H', H l = none → Same H H' → H' l = some (.lst xs) → Q (.ref l) H') : rLstU K [.ref p] H Q := ⟨p, xs, rfl, .inl h, fun l hl => q l _ hl (same_new hl) upd_same⟩
theorem k_lstT {p : Addr} {xs : List V} (h : SqT K H p xs) (q : ∀ l H', H l = none → Same H H' → H' l = some (.lst xs) → Q (.ref l) H') : rLstU K [.ref p] H Q := ⟨p, xs, rfl, .inr h, fun l hl => q l _ hl (same_new hl) upd_same⟩
theorem k_isN {x : V} (q : Q (.bl (decide (x = .non))) H) : rIsN x .non H Q := ⟨rfl, q⟩
theorem k_notN {x : V} (q : Q (.bl (!decide (x = .non))) H) : rNotN x .non H Q := ⟨rfl, q⟩
theorem k_powc {a b c : Int} (e : a ^ b.toNat = c) (hc : CPow a b) (q : Q (.int c) H) : rI CPow (fun i j => .int (i ^ j.toNat)) (.int a) (.int b) H Q := ⟨a, b, rfl, rfl, hc, by show Q (.int (a ^ b.toNat)) H; rw [e]; exact q⟩
theorem cpow {a b : Int} (h : 0 ≤ b) (h1 : b ≤ 1000000) (h2 : a.natAbs < 2 ^ 64) : CPow a b := ⟨h, h1, h2⟩
theorem k_mod {a b : Int} (hb : 0 < b) (q : Q (.int (a % b)) H) : rI (fun _ j => j ≠ 0) (fun i j => .int (i.fmod j)) (.int a) (.int b) H Q := ⟨a, b, rfl, rfl, by omega, by show Q (.int (a.fmod b)) H; rw [Int.fmod_eq_emod_of_nonneg a (by omega)]; exact q⟩
theorem k_log {b : Int} (h : b.natAbs < 2 ^ 64) : b.natAbs.log2 < 9000 := Nat.lt_of_lt_of_le (PySem.Flt.log2_lt_of (by decide) h) (by decide)
theorem k_div {a b : Int} (hb : 0 < b) (hl : b.natAbs.log2 < 9000) (q : Q (.int (a / b)) H) : rI CDivG (fun i j => .int (i.fdiv j)) (.int a) (.int b) H Q := ⟨a, b, rfl, rfl, ⟨by omega, PyProof.noPylong_of_log2 hl⟩, by show Q (.int (a.fdiv b)) H; rw [Int.fdiv_eq_ediv_of_nonneg a (by omega)]; exact q⟩
theorem k_mulB {a b : Int} {m n : Nat} (ha : a.natAbs < 2 ^ m) (hb : b.natAbs < 2 ^ n) (h : m + n ≤ 134217728) (q : Q (.int (a * b)) H) : rMulU K (.int a) (.int b) H Q := k_mulI q (mulx_ok ha hb h)
theorem k_pop {l : Addr} {xs : List V} {y : V} (h : H l = some (.lst (xs ++ [y]))) (q : ∀ H', But l H H' → H' l = some (.lst xs) → Q y H') : tyV K "list" (.ref l) H ∧ rPop (.ref l) [] H Q :=
  ⟨.inl ⟨rfl, _, SqL.of h⟩, l, _, y, rfl, rfl, h, by simp, q _ But.upd (by rw [List.dropLast_concat]; exact upd_same)⟩
theorem k_bm0 {T : String} {r : V → List V → Hp → VK → Prop} {te : TE} (q : te σ H fun x H1 => tyV K T x H1 ∧ r x [] H1 Q) : tBM0 K T r te σ H Q := q
theorem k_bm {T : String} {r : V → List V → Hp → VK → Prop} {te : TE} {t : TA} (q : te σ H fun x H1 => tyV K T x H1 ∧ t σ H1 fun xs H2 => r x xs H2 Q) : tBM K T r te t σ H Q := q
theorem k_app0 {l : Addr} {xs : List V} (h : H l = some (.lst xs)) : tyV K "list" (.ref l) H := .inl ⟨rfl, _, SqL.of h⟩
theorem k_app1 {l : Addr} {xs : List V} {y : V} (h : H l = some (.lst xs)) (c : xs.length < sizeLine) (q : ∀ H', But l H H' → H' l = some (.lst (xs ++ [y])) → Q .non H') : rAppend (.ref l) [y] H Q := ⟨l, xs, y, rfl, rfl, h, c, q _ But.upd upd_same⟩
def rRevX (K : PySem.W.Frag) (x : V) (H : Hp) (Q : VK) : Prop := ∃ a xs, x = .ref a ∧ SqL K H a xs ∧ ∀ p, H p = none → Q (.ref p) (upd H p (.lst xs.reverse))
theorem k_rev {te : TE} (q : te σ H fun x H1 => rRevX K x H1 Q) : tRevL K te σ H Q := q
theorem k_rev1 {p : Addr} {xs : List V} (h : SqL K H p xs) (q : ∀ l H', H l = none → Same H H' → H' l = some (.lst xs.reverse) → Q (.ref l) H') : rRevX K (.ref p) H Q := ⟨p, xs, rfl, h, fun l hl => q l _ hl (same_new hl) upd_same⟩
/-- isinstance -/
theorem k_isi {x c : V} {t u : Value} {b : Bool} (hc : ClsV c u) (ht : TyX K H x t) (hk : PySem.W.kitOne K t u = some b) (q : Q (.bl b) H) : rIsi K [x, c] H Q := ⟨x, c, t, u, b, rfl, hc, ht, hk, q⟩
theorem k_cut {t u : TS} {D : Ends} (M : L2.St → Hp → Prop) (h : t { D with nx := M } σ H) (k : ∀ σ' H', M σ' H' → u D σ' H') : C8.tCut t u D σ H := ⟨M, h, k⟩
theorem k_cut0 {t u : TS} {D : Ends} (h : t { D with nx := u D } σ H) : C8.tCut t u D σ H := ⟨_, h, fun _ _ q => q⟩
/-! loops -/
variable {D : Ends} {g : TG} {tb : TS} {j : Nat} {wi : TI}
def LoopI (J : It) (g : TG) (tb : TS) (D : Ends) (σ : L2.St) (H : Hp) : Prop := ∃ W : Nat → Nat → L2.St → Hp → Prop, (∃ m, W 0 m σ H) ∧ ∀ i m σ H, W i m σ H →
  (J.stop i H ∧ D.nx σ H) ∨ (J.go i H ∧ ∃ N : L2.St → Hp → Prop, (∀ σ' H', N σ' H' → ∃ m', m' < m ∧ W (i + 1) m' σ' H') ∧ ∀ x H', J.yld i H x H' → g x σ H' fun σ2 H2 => tb { D with nx := N, ct := N, bk := D.nx } σ2 H2)
theorem k_for (q : wi σ H fun J H1 => LoopI J g tb D σ H1) : tFor wi g tb D σ H := q
def rRng1 (vs : List V) (H : Hp) (R : It → Hp → Prop) : Prop := ∃ j : Int, vs = [.int j] ∧ -(2 ^ 62) ≤ j ∧ j < 2 ^ 62 ∧ R (Itr 0 j.toNat) H
def rRng2 (vs : List V) (H : Hp) (R : It → Hp → Prop) : Prop := ∃ i j : Int, vs = [.int i, .int j] ∧ (-(2 ^ 62) ≤ i ∧ i < 2 ^ 62 ∧ -(2 ^ 62) ≤ j ∧ j < 2 ^ 62) ∧ R (Itr i (j - i).toNat) H
def rItL (K : PySem.W.Frag) (x : V) (H : Hp) (R : It → Hp → Prop) : Prop := ∃ a, x = .ref a ∧ (∃ xs, SqL K H a xs) ∧ R (Itl K a) H
def rItT (K : PySem.W.Frag) (x : V) (H : Hp) (R : It → Hp → Prop) : Prop := ∃ a, x = .ref a ∧ (∃ xs, SqT K H a xs) ∧ R (Itt K a) H
theorem k_iRng1 {ta : TA} {R : It → Hp → Prop} (q : ta σ H fun vs H1 => rRng1 vs H1 R) : iRng1 ta σ H R := q
theorem k_iRng2 {ta : TA} {R : It → Hp → Prop} (q : ta σ H fun vs H1 => rRng2 vs H1 R) : iRng2 ta σ H R := q
theorem k_iList {tl : TE} {R : It → Hp → Prop} (q : tl σ H fun x H1 => rItL K x H1 R) : iList K tl σ H R := q
theorem k_iSeqU {tl : TE} {R : It → Hp → Prop} (q : tl σ H fun x H1 => rItU K x H1 R) : iSeqU K tl σ H R := q
theorem k_itUL {a : Addr} {xs : List V} {R : It → Hp → Prop} (h : SqL K H a xs) (q : R (Itl K a) H) : rItU K (.ref a) H R := ⟨a, rfl, .inl ⟨⟨xs, h⟩, q⟩⟩
theorem k_itUT {a : Addr} {xs : List V} {R : It → Hp → Prop} (h : SqT K H a xs) (q : R (Itt K a) H) : rItU K (.ref a) H R := ⟨a, rfl, .inr ⟨⟨xs, h⟩, q⟩⟩
theorem k_iTup {tl : TE} {R : It → Hp → Prop} (q : tl σ H fun x H1 => rItT K x H1 R) : iTup K tl σ H R := q
theorem k_rng1 {n : Int} {R : It → Hp → Prop} (c : -(2 ^ 62) ≤ n ∧ n < 2 ^ 62) (q : R (Itr 0 n.toNat) H) : rRng1 [.int n] H R := ⟨n, rfl, c.1, c.2, q⟩
theorem k_rng2 {m n : Int} {R : It → Hp → Prop} (c : -(2 ^ 62) ≤ m ∧ m < 2 ^ 62 ∧ -(2 ^ 62) ≤ n ∧ n < 2 ^ 62) (q : R (Itr m (n - m).toNat) H) : rRng2 [.int m, .int n] H R := ⟨m, n, rfl, c, q⟩
theorem k_itL {a : Addr} {xs : List V} {R : It → Hp → Prop} (h : SqL K H a xs) (q : R (Itl K a) H) : rItL K (.ref a) H R := ⟨a, rfl, ⟨xs, h⟩, q⟩
theorem k_itT {a : Addr} {xs : List V} {R : It → Hp → Prop} (h : SqT K H a xs) (q : R (Itt K a) H) : rItT K (.ref a) H R := ⟨a, rfl, ⟨xs, h⟩, q⟩
/-- for x in range(..) -/
theorem k_loopR {n : Nat} (P : Nat → L2.St → Hp → Prop) (h0 : P 0 σ H) (hs : ∀ (i : Nat) σ H, i < n → P i σ H → tb { D with nx := P (i + 1), ct := P (i + 1), bk := D.nx } (σ.set j (some (.int (i : Int)))) H)
    (hd : ∀ σ H, P n σ H → D.nx σ H) : LoopI (Itr 0 n) (gName j) tb D σ H := for_range P h0 (fun i σ H hi p => by
      show tb _ (σ.set j (some (.int (0 + (i : Int))))) H
      rw [Int.zero_add]
      exact hs i σ H hi p) hd
theorem k_loopR2 {lo : Int} {n : Nat} (P : Nat → L2.St → Hp → Prop) (h0 : P 0 σ H) (hs : ∀ (i : Nat) σ H, i < n → P i σ H → tb { D with nx := P (i + 1), ct := P (i + 1), bk := D.nx } (σ.set j (some (.int (lo + (i : Int))))) H)
    (hd : ∀ σ H, P n σ H → D.nx σ H) : LoopI (Itr lo n) (gName j) tb D σ H := for_range P h0 hs hd
theorem k_loopL {a : Addr} {xs : List V} (P : Nat → L2.St → Hp → Prop) (h0 : P 0 σ H) (hl : ∀ i σ H, i ≤ xs.length → P i σ H → SqL K H a xs)
    (hs : ∀ (i : Nat) x σ H, xs[i]? = some x → P i σ H → g x σ H fun σ2 H2 => tb { D with nx := P (i + 1), ct := P (i + 1), bk := D.nx } σ2 H2) (hd : ∀ σ H, P xs.length σ H → D.nx σ H) : LoopI (Itl K a) g tb D σ H := for_list P h0 hl hs hd
theorem k_loopT {a : Addr} {xs : List V} (P : Nat → L2.St → Hp → Prop) (h0 : P 0 σ H) (hl : ∀ i σ H, i ≤ xs.length → P i σ H → SqT K H a xs)
    (hs : ∀ (i : Nat) x σ H, xs[i]? = some x → P i σ H → g x σ H fun σ2 H2 => tb { D with nx := P (i + 1), ct := P (i + 1), bk := D.nx } σ2 H2) (hd : ∀ σ H, P xs.length σ H → D.nx σ H) : LoopI (Itt K a) g tb D σ H := for_tup P h0 hl hs hd
theorem k_loopU {a : Addr} {xs : List V} (hS : SqL K H a xs ∨ SqT K H a xs) (P : Nat → L2.St → Hp → Prop) (h0 : P 0 σ H) (hl : ∀ i σ' H', P i σ' H' → Same H H')
    (hs : ∀ (i : Nat) x σ H, xs[i]? = some x → P i σ H → g x σ H fun σ2 H2 => tb { D with nx := P (i + 1), ct := P (i + 1), bk := D.nx } σ2 H2) (hd : ∀ σ H, P xs.length σ H → D.nx σ H) : rItU K (.ref a) H fun J H1 => LoopI J g tb D σ H1 := by
  rcases hS with hS | hS
  · exact k_itUL hS (k_loopL P h0 (fun i σ' H' _ p => seqL_same (hl i σ' H' p) hS) hs hd)
  · exact k_itUT hS (k_loopT P h0 (fun i σ' H' _ p => seqT_same (hl i σ' H' p) hS) hs hd)
/-- while: P with a number that falls -/
def Less (P : Nat → L2.St → Hp → Prop) (m : Nat) : L2.St → Hp → Prop := fun σ H => ∃ m', m' < m ∧ P m' σ H
theorem k_while {tc : TT} (P : Nat → L2.St → Hp → Prop) (m : Nat) (h0 : P m σ H)
    (hs : ∀ m σ H, P m σ H → tc σ H fun b H1 => if b = true then ∃ N : L2.St → Hp → Prop, (∀ σ' H', N σ' H' → ∃ m', m' < m ∧ P m' σ' H') ∧ tb { D with nx := N, ct := N, bk := D.nx } σ H1 else D.nx σ H1) : tWhile tc tb D σ H := ⟨P, ⟨m, h0⟩, hs⟩
theorem k_wN {P : Nat → L2.St → Hp → Prop} {m : Nat} (q : tb { D with nx := Less P m, ct := Less P m, bk := D.nx } σ H) : ∃ N : L2.St → Hp → Prop, (∀ σ' H', N σ' H' → ∃ m', m' < m ∧ P m' σ' H') ∧ tb { D with nx := N, ct := N, bk := D.nx } σ H := ⟨_, fun _ _ h => h, q⟩
end
/-! more steps -/
section
variable {σ : L2.St} {H : Hp} {Q : VK} {v : V} {te to ti : TE} {K : PySem.W.Frag} {D : Ends} {i : Nat}
theorem k_aug {ip : TIp} (h : σ[i]? = some (some v)) (q : te σ H fun y H1 => ip v y H1 fun z H2 => D.nx (σ.set i (some z)) H2) : tAug i te ip D σ H := ⟨v, h, q⟩
theorem k_ip {f : Int → Int → Int} {a b : Int} (q : Q (.int (f a b)) H) : ipI f (.int a) (.int b) H Q := ⟨a, b, rfl, rfl, q⟩
theorem k_gsub {t : TSet} {Q : L2.St → Hp → Prop} (q : to σ H fun o H1 => ti σ H1 fun i H2 => t o i v H2 fun H3 => Q σ H3) : gSub to ti t v σ H Q := q
theorem k_setL {p : Addr} {xs : List V} {k : Int} {j : Nat} {Q : Hp → Prop} (h : H p = some (.lst xs)) (hj : ixN xs.length k = some j) (q : ∀ H', But p H H' → H' p = some (.lst (xs.set j v)) → Q H') : rSetL (.ref p) (.int k) v H Q := ⟨p, xs, k, j, rfl, rfl, h, hj, q _ But.upd upd_same⟩
theorem ixN_nat {n j : Nat} (h : j < n) : ixN n (j : Int) = some j := by
  unfold ixN
  rw [if_pos (by omega), if_pos (by omega)]
  rfl
theorem k_m1 {r : V → List V → Hp → VK → Prop} (q : to σ H fun x H1 => (∃ a, x = .str a) ∧ te σ H1 fun y H2 => r x [y] H2 Q) : tM1 r to te σ H Q := q
theorem k_m0 {r : V → List V → Hp → VK → Prop} (q : to σ H fun x H1 => (∃ a, x = .str a) ∧ r x [] H1 Q) : tM0 r to σ H Q := q
theorem k_isS {a : Str} {B : Prop} (q : B) : (∃ b, V.str a = .str b) ∧ B := ⟨⟨a, rfl⟩, q⟩
def rJoinU (K : PySem.W.Frag) : V → List V → Hp → VK → Prop := fun x xs H Q => ∃ a p, ∃ ys : List Str, x = .str a ∧ xs = [.ref p] ∧ (SqL K H p (ys.map V.str) ∨ SqT K H p (ys.map V.str)) ∧ (ys.map (·.length)).sum + ys.length * a.length ≤ 16777216 ∧ Q (.str (Txt.join a ys)) H
theorem mt_joinK {X : Cx} (h : X.K = K) : MtR X "str.join" (rJoinU K) := h ▸ mt_join
theorem k_join {a : Str} {p : Addr} {ys : List Str} (h : SqL K H p (ys.map V.str) ∨ SqT K H p (ys.map V.str)) (c : (ys.map (·.length)).sum + ys.length * a.length ≤ 16777216) (q : Q (.str (Txt.join a ys)) H) : rJoinU K (.str a) [.ref p] H Q := ⟨a, p, ys, rfl, rfl, h, c, q⟩
theorem k_ixS {z : Str} {i : Int} {c : Nat} (hz : z.length ≤ sizeLine) (h : atI z.cps.toList i = some c) (q : Q (.str ⟨#[c]⟩) H) : rIx K (.str z) (.int i) H Q := .inr (.inr ⟨z, i, c, rfl, rfl, hz, h, q⟩)
theorem k_sum {a : Addr} {ns : List Int} (h : SqL K H a (ns.map V.int)) (q : Q (.int ns.sum) H) : rSum K [.ref a] H Q := ⟨a, ns, rfl, h, q⟩
end
/-- in, not in: of flat things, of data, of a text in a text -/
def rInU (K : PySem.W.Frag) : R2 := fun x y H Q => rIn K false x y H Q ∨ rInD K x y H Q ∨ (∃ i j, x = .str i ∧ y = .str j ∧ Q (.bl (!(Builtin.Str.occurrences j i 0 j.length 1).isEmpty)) H)
def rNiU (K : PySem.W.Frag) : R2 := fun x y H Q => rIn K true x y H Q ∨ rNotInD K x y H Q ∨ (∃ i j, x = .str i ∧ y = .str j ∧ Q (.bl (!(!(Builtin.Str.occurrences j i 0 j.length 1).isEmpty))) H)
theorem Room.un65 {k : Nat} {A : Around} (r : Room k A) : A.units + 65 < cLine := by have := r.un; omega
theorem op_inUK {X : Cx} {K : PySem.W.Frag} {k : Nat} (h : X.K = K) (hr : Room k X.A) : OpR X (compareOp .In) (rInU K) := h ▸ op_in_seq.or ((op_inD (Room.un65 hr)).or op_in_str)
theorem op_niUK {X : Cx} {K : PySem.W.Frag} {k : Nat} (h : X.K = K) (hr : Room k X.A) : OpR X (compareOp .NotIn) (rNiU K) := h ▸ op_notIn_seq.or ((op_notInD (Room.un65 hr)).or op_notIn_str)
section
variable {H : Hp} {Q : VK} {K : PySem.W.Frag}
theorem k_in {x : V} {p : Addr} {xs : List V} {b : Bool} (h : SqL K H p xs ∨ SqT K H p xs) (hx : flatV x = true) (ha : xs.all flatV = true) (e : inV x xs = b) (q : Q (.bl b) H) : rInU K x (.ref p) H Q := .inl (k_in0 h hx ha e q)
theorem k_ni {x : V} {p : Addr} {xs : List V} {b : Bool} (h : SqL K H p xs ∨ SqT K H p xs) (hx : flatV x = true) (ha : xs.all flatV = true) (e : inV x xs = b) (q : Q (.bl (!b)) H) : rNiU K x (.ref p) H Q := .inl (k_ni0 h hx ha e q)
theorem k_inD {x y : V} {d : PyData} {ds : List PyData} (hx : Dp K H x d) (hy : Dp K H y (.list ds)) (s1 : SeqAt.shaped d = true) (s2 : SeqAt.shaped (.list ds) = true) (q : Q (.bl (ds.any fun z => PyData.eqv z d)) H) : rInU K x y H Q := .inr (.inl ⟨d, ds, hx, hy, s1, s2, q⟩)
theorem k_niD {x y : V} {d : PyData} {ds : List PyData} (hx : Dp K H x d) (hy : Dp K H y (.list ds)) (s1 : SeqAt.shaped d = true) (s2 : SeqAt.shaped (.list ds) = true) (q : Q (.bl (!ds.any fun z => PyData.eqv z d)) H) : rNiU K x y H Q := .inr (.inl ⟨d, ds, hx, hy, s1, s2, q⟩)
theorem k_inS {x y : Str} (q : Q (.bl (!(Builtin.Str.occurrences y x 0 y.length 1).isEmpty)) H) : rInU K (.str x) (.str y) H Q := .inr (.inr ⟨x, y, rfl, rfl, q⟩)
theorem k_niS {x y : Str} (q : Q (.bl (!(!(Builtin.Str.occurrences y x 0 y.length 1).isEmpty))) H) : rNiU K (.str x) (.str y) H Q := .inr (.inr ⟨x, y, rfl, rfl, q⟩)
end
/-- a dict of one pair, its key a text -/
def rDisp1 (p : Addr) (x y : V) (H : Hp) (Q : VK) : Prop := H p = some (.dK []) ∧ ∃ kvs : List (Key × V), [(x, y)] = kvs.map (fun kv => (kV kv.1, kv.2)) ∧ kvs.length ≤ 15 ∧ Q (.ref p) (upd H p (.dK (mergeK [] kvs)))
theorem k_disp1 {σ : L2.St} {H : Hp} {Q : VK} {tk tv : TE} (q : ∀ p H1, H p = none → Same H H1 → H1 p = some (.dK []) → tk σ H1 fun x H2 => tv σ H2 fun y H3 => rDisp1 p x y H3 Q) : tDisp [(tk, tv)] σ H Q := fun p hp => q p _ hp (same_new hp) upd_same
theorem k_disp1x {p : Addr} {z : Str} {y : V} {H : Hp} {Q : VK} (h : H p = some (.dK [])) (q : ∀ H', But p H H' → H' p = some (.dK [(.inr z, y)]) → Q (.ref p) H') : rDisp1 p (.str z) y H Q := ⟨h, [(.inr z, y)], rfl, by simp, q _ But.upd upd_same⟩
theorem k_ev {te : TE} {g : TG} {D : Ends} {σ : L2.St} {H : Hp} (P : V → Hp → Prop) (h : ∀ Q : VK, (∀ v H', P v H' → Q v H') → te σ H Q) (q : ∀ v H', P v H' → g v σ H' D.nx) : tAsg te g D σ H := h _ q
theorem k_evT {tt : TT} {t u : TS} {D : Ends} {σ : L2.St} {H : Hp} (P : Bool → Hp → Prop) (h : ∀ Q : Bool → Hp → Prop, (∀ b H', P b H' → Q b H') → tt σ H Q) (q : ∀ b H', P b H' → if b = true then t D σ H' else u D σ H') : tIfS tt t u D σ H := h _ q
/-! ### list comprehensions -/
section
variable {σ : L2.St} {H : Hp} {Q : VK} {K : PySem.W.Frag} {g : TG} {tt : TT} {te : TE} {vs : List Nat} {wi : TI}
def LcB (D : Addr) (g : TG) (tt : TT) (te : TE) (vs : List Nat) (σ : L2.St) (x : V) (H : Hp) (N : Hp → Prop) : Prop := g x (wipe σ vs) H fun σ2 H2 => wipe σ2 vs = wipe σ vs ∧ tt σ2 H2 fun b H3 =>
  if b = true then te σ2 H3 fun y H4 => ∃ acc, H4 D = some (.lst acc) ∧ acc.length < sizeLine ∧ N (upd H4 D (.lst (acc ++ [y]))) else N H3
def LcX (J : It) (g : TG) (tt : TT) (te : TE) (vs : List Nat) (σ : L2.St) (H : Hp) (Q : VK) : Prop := ∀ D, H D = none → ∃ W : Nat → Nat → Hp → Prop, (∃ m, W 0 m (upd H D (.lst []))) ∧ ∀ i m H, W i m H →
  (J.stop i H ∧ Q (.ref D) H) ∨ (J.go i H ∧ ∃ Nx : Hp → Prop, (∀ H', Nx H' → ∃ m', m' < m ∧ W (i + 1) m' H') ∧ ∀ x H', J.yld i H x H' → LcB D g tt te vs σ x H' Nx)
theorem k_lc (q : wi σ H fun J H1 => LcX J g tt te vs σ H1 Q) : tLc wi g tt te vs σ H Q := q
/-- one turn: the element kept, or not -/
theorem k_lcY {y : V} {D : Addr} {acc : List V} {P : Hp → Prop} (h : H D = some (.lst acc)) (hz : acc.length < sizeLine) (q : ∀ H', But D H H' → H' D = some (.lst (acc ++ [y])) → P H') : ∃ acc, H D = some (.lst acc) ∧ acc.length < sizeLine ∧ P (upd H D (.lst (acc ++ [y]))) :=
  ⟨acc, h, hz, q _ But.upd upd_same⟩
theorem k_lcU {a : Addr} {xs : List V} (hS : SqL K H a xs ∨ SqT K H a xs) (P : Addr → Nat → List V → Hp → Prop) (h0 : ∀ D H', H D = none → Same H H' → H' D = some (.lst []) → P D 0 [] H') (hl : ∀ D i ys H', H D = none → P D i ys H' → Same H H')
    (hs : ∀ D (i : Nat) x ys H', H D = none → xs[i]? = some x → P D i ys H' → H' D = some (.lst ys) → LcB D g tt te vs σ x H' fun H'' => ∃ zs, P D (i + 1) zs H'' ∧ H'' D = some (.lst zs))
    (hd : ∀ D ys H', H D = none → P D xs.length ys H' → H' D = some (.lst ys) → Q (.ref D) H') : rItU K (.ref a) H fun J H1 => LcX J g tt te vs σ H1 Q := by
  rcases hS with hS | hS
  · exact k_itUL hS fun D hD => lc_list (fun i H' => ∃ ys, P D i ys H' ∧ H' D = some (.lst ys)) ⟨[], h0 D _ hD (same_new hD) upd_same, upd_same⟩ (fun i H' _ ⟨ys, p, _⟩ => seqL_same (hl D i ys H' hD p) hS)
      (fun i x H' hx ⟨ys, p, e⟩ => hs D i x ys H' hD hx p e) fun H' ⟨ys, p, e⟩ => hd D ys H' hD p e
  · exact k_itUT hS fun D hD => lc_tup (fun i H' => ∃ ys, P D i ys H' ∧ H' D = some (.lst ys)) ⟨[], h0 D _ hD (same_new hD) upd_same, upd_same⟩ (fun i H' _ ⟨ys, p, _⟩ => seqT_same (hl D i ys H' hD p) hS)
      (fun i x H' hx ⟨ys, p, e⟩ => hs D i x ys H' hD hx p e) fun H' ⟨ys, p, e⟩ => hd D ys H' hD p e
/-- a list walked while other things change -/
theorem k_lcLb {σ : L2.St} {H : Hp} {Q : VK} {K : PySem.W.Frag} {g : TG} {tt : TT} {te : TE} {vs : List Nat} {a : Addr} {xs : List V} {P : Addr → Nat → List V → Hp → Prop} (h0 : ∀ D H', H D = none → Same H H' → H' D = some (.lst []) → P D 0 [] H') (hl : ∀ D i ys H', H D = none → P D i ys H' → SqL K H' a xs)
    (hs : ∀ D (i : Nat) x ys H', H D = none → xs[i]? = some x → P D i ys H' → H' D = some (.lst ys) → LcB D g tt te vs σ x H' fun H'' => ∃ zs, P D (i + 1) zs H'' ∧ H'' D = some (.lst zs))
    (hd : ∀ D ys H', H D = none → P D xs.length ys H' → H' D = some (.lst ys) → Q (.ref D) H') : LcX (Itl K a) g tt te vs σ H Q := fun D hD =>
  lc_list (fun i H' => ∃ ys, P D i ys H' ∧ H' D = some (.lst ys)) ⟨[], h0 D _ hD (same_new hD) upd_same, upd_same⟩ (fun i H' _ ⟨ys, p, _⟩ => hl D i ys H' hD p)
    (fun i x H' hx ⟨ys, p, e⟩ => hs D i x ys H' hD hx p e) fun H' ⟨ys, p, e⟩ => hd D ys H' hD p e
theorem k_lcR {lo : Int} {n : Nat} (P : Addr → Nat → List V → Hp → Prop) (h0 : ∀ D H', H D = none → Same H H' → H' D = some (.lst []) → P D 0 [] H')
    (hs : ∀ D (i : Nat) ys H', H D = none → i < n → P D i ys H' → H' D = some (.lst ys) → LcB D g tt te vs σ (.int (lo + (i : Int))) H' fun H'' => ∃ zs, P D (i + 1) zs H'' ∧ H'' D = some (.lst zs))
    (hd : ∀ D ys H', H D = none → P D n ys H' → H' D = some (.lst ys) → Q (.ref D) H') : LcX (Itr lo n) g tt te vs σ H Q := fun D hD =>
  lc_range (fun i H' => ∃ ys, P D i ys H' ∧ H' D = some (.lst ys)) ⟨[], h0 D _ hD (same_new hD) upd_same, upd_same⟩ (fun i H' hi ⟨ys, p, e⟩ => hs D i ys H' hD hi p e) fun H' ⟨ys, p, e⟩ => hd D ys H' hD p e
/-- a turn begins: the target a name -/
theorem k_lcB {D : Addr} {j : Nat} {x : V} {N : Hp → Prop} (hw : wipe ((wipe σ vs).set j (some x)) vs = wipe σ vs) (q : tt ((wipe σ vs).set j (some x)) H fun b H3 => if b = true then te ((wipe σ vs).set j (some x)) H3 fun y H4 => ∃ acc, H4 D = some (.lst acc) ∧ acc.length < sizeLine ∧ N (upd H4 D (.lst (acc ++ [y]))) else N H3) :
    LcB D (gName j) tt te vs σ x H N := ⟨hw, q⟩
/-- a comprehension's turn, its target a tuple -/
theorem k_lcT {D : Addr} {x : V} {N : Hp → Prop} (q : g x (wipe σ vs) H fun σ2 H2 => wipe σ2 vs = wipe σ vs ∧ tt σ2 H2 fun b H3 =>
    if b = true then te σ2 H3 fun y H4 => ∃ acc, H4 D = some (.lst acc) ∧ acc.length < sizeLine ∧ N (upd H4 D (.lst (acc ++ [y]))) else N H3) : LcB D g tt te vs σ x H N := q
/-- no test -/
theorem k_yes {Q : Bool → Hp → Prop} (q : Q true H) : tYes σ H Q := q
def rRgX (a b : Int) (H : Hp) (Q : VK) : Prop := RgOk a b ∧ ∀ q, H q = none → Q (.ref q) (upd H q (.lst (rgV a b)))
theorem k_listRg {tr : L2.St → Hp → (Int → Int → Hp → Prop) → Prop} (q : tr σ H fun a b H1 => rRgX a b H1 Q) : tLstRg tr σ H Q := q
theorem k_rg1 {ta : TE} {R : Int → Int → Hp → Prop} (q : ta σ H fun x H1 => ∃ n, x = .int n ∧ R 0 n H1) : tRg1 ta σ H R := q
theorem k_rgX {a b : Int} (c : 0 ≤ a ∧ a ≤ 1000000 ∧ 0 ≤ b ∧ b ≤ 1000000) (q : ∀ l H', H l = none → Same H H' → H' l = some (.lst (rgV a b)) → Q (.ref l) H') : rRgX a b H Q := ⟨RgOk.of_le (by omega) (by omega) (by omega) (by omega), fun l hl => q l _ hl (same_new hl) upd_same⟩
end
def rIsBl : R2 := fun x y H Q => ∃ a b, x = .bl a ∧ y = .bl b ∧ Q (.bl (decide (a = b))) H
def rNotBl : R2 := fun x y H Q => ∃ a b, x = .bl a ∧ y = .bl b ∧ Q (.bl (!decide (a = b))) H
theorem op_isBlU {X : Cx} : OpR X (compareOp .Is) rIsBl := op_is_bl
theorem op_notBlU {X : Cx} : OpR X (compareOp .IsNot) rNotBl := op_isnot_bl
theorem k_isBl {a b : Bool} {H : Hp} {Q : VK} (q : Q (.bl (decide (a = b))) H) : rIsBl (.bl a) (.bl b) H Q := ⟨a, b, rfl, rfl, q⟩
theorem k_notBl {a b : Bool} {H : Hp} {Q : VK} (q : Q (.bl (!decide (a = b))) H) : rNotBl (.bl a) (.bl b) H Q := ⟨a, b, rfl, rfl, q⟩
theorem k_glst {K : PySem.W.Frag} {a : Addr} {xs : List V} {n : Nat} {t : TGs} {σ : L2.St} {H : Hp} {Q : L2.St → Hp → Prop} (h : SqL K H a xs) (hl : xs.length = n) (q : t xs σ H Q) : gLst K n t (.ref a) σ H Q := ⟨a, xs, rfl, h, hl, q⟩
theorem k_ext1 {l b : Addr} {xs zs : List V} {H : Hp} {Q : VK} (h : H l = some (.lst xs)) (g : H b = some (.lst zs)) (c : xs.length + zs.length ≤ sizeLine) (q : ∀ H', But l H H' → H' l = some (.lst (xs ++ zs)) → Q .non H') : rExtend (.ref l) [.ref b] H Q := ⟨l, b, xs, zs, rfl, rfl, h, g, c, q _ But.upd upd_same⟩
/-- a tuple and one more -/
theorem k_addT1 {K : PySem.W.Frag} {H : Hp} {Q : VK} {a b : Addr} {xs : List V} {y : V} (ha : SqT K H a xs) (hb : SqT K H b [y]) (c : xs.length + 1 ≤ sizeLine) (q : ∀ p H', Same H H' → SqT K H' p (xs ++ [y]) → Q (.ref p) H') : rAddU K (.ref a) (.ref b) H Q :=
  .inr (.inr (.inr (.inl ⟨a, b, xs, [y], rfl, rfl, ha, hb, c, fun e => by subst e; exact q b H (Same.refl H) hb, fun _ e => (by cases e), fun _ _ p hp => q p _ (same_new hp) (SqT.of upd_same)⟩)))
/-! len(set(t)), t a tuple of ints, none twice -/
def tLenSetT (K : PySem.W.Frag) (ta : TE) : TE := fun σ H Q => ta σ H fun x H1 => ∃ (l : Addr) (ns : List Int), x = .ref l ∧ SqT K H1 l (ns.map V.int) ∧ ns.Nodup ∧ ns.length ≤ 4000 ∧ Q (.int (ns.length : Nat)) H1
theorem ints_vals : ∀ {ns : List Int} {us : List Value}, Vals (ns.map V.int) us → PyProof.Rows.IntsAre us ns
  | [], _, .nil => .nil
  | n :: ns, _, .cons r t => by
    obtain ⟨k, rfl⟩ := r
    exact .cons n k (ints_vals t)
theorem pe_lenSetT {X : Cx} {K : PySem.W.Frag} {a : Expr} {ta : TE} {p p2 q pos : Pos} (hK : X.K = K) (hg : Gl X "len") (hm : X.mg "len" = none) (hg2 : Gl X "set") (hm2 : X.mg "set" = none) (ha : PE X a ta) (hc : X.calm = true := by rfl)
    (na : starEach [a] X.env = (false, eval a X.env) :: starEach [] X.env := by rfl) : PE X (.Call (.Name "len" p) [.Call (.Name "set" p2) [a] [] q] [] pos) (tLenSetT K ta) := by
  subst hK
  refine ⟨fun pins s σ H Q I h => ?_⟩
  refine Call_ (ld_blt I hg hm boot_len ?_)
  refine PyProof.Rows.callWith_builtin1 (PyProof.Rows.args_cons ?_ rfl) rfl rfl
  refine Call_ (ld_blt I hg2 hm2 boot_set ?_)
  refine PyProof.Rows.callWith_type1 (PyProof.Rows.args_cons (thn (ha.run pins s σ H _ I h) fun v s1 ⟨x, H1, I1, r1, q1⟩ => PyProof.Rows.args_nil ?_) na) na rfl
  obtain ⟨l, ns, rfl, hq, hnd, hl, q1⟩ := q1
  cases r1
  obtain ⟨its, r, pt, hz⟩ := I1.tuple hq
  refine call_set_tupI ns (I1.ok.hd hc) pt (by simpa using ints_vals r) (by unfold scanBound; omega) fun h' tk c hS _ hk => ?_
  refine PyProof.Rows.args_nil ?_
  obtain ⟨o, es, ep, t, ho, hex, hd, g, nd, hm3, hb, hf, hn, _⟩ := hS
  have I2 : Inv X pins σ H1 { s1 with heap := h', toks := tk } := I1.kept hk
  have hp : (es.toList.map keyOf).Perm ns := (List.perm_ext_iff_of_nodup nd hnd).mpr fun k => by
    have := hm3 k
    rw [← this]
    simp
  have hlen : es.size = ns.length := by
    have := hp.length_eq
    rw [List.length_map, Array.length_toList] at this
    exact this
  exact call_len_set ho hex hd hf (by rw [hlen]; omega) ⟨.int ns.length, H1, I2.tok _, ⟨_, by rw [hlen]⟩, q1⟩
def rLenSetT (K : PySem.W.Frag) (x : V) (H1 : Hp) (Q : VK) : Prop := ∃ (l : Addr) (ns : List Int), x = .ref l ∧ SqT K H1 l (ns.map V.int) ∧ ns.Nodup ∧ ns.length ≤ 4000 ∧ Q (.int (ns.length : Nat)) H1
theorem k_lenSetT {K : PySem.W.Frag} {ta : TE} {σ : L2.St} {H : Hp} {Q : VK} (q : ta σ H fun x H1 => rLenSetT K x H1 Q) : tLenSetT K ta σ H Q := q
theorem k_lenSetTx {K : PySem.W.Frag} {H : Hp} {Q : VK} {l : Addr} {ns : List Int} (h : SqT K H l (ns.map V.int)) (nd : ns.Nodup) (c : ns.length ≤ 4000) (q : Q (.int (ns.length : Nat)) H) : rLenSetT K (.ref l) H Q := ⟨l, ns, rfl, h, nd, c, q⟩
/-! count of data -/
def rCntL (K : PySem.W.Frag) : V → List V → Hp → VK → Prop := fun x xs H Q => ∃ (p : Addr) (y : V) (d : PyData) (ds : List PyData), x = .ref p ∧ xs = [y] ∧ Dp K H (.ref p) (.list ds) ∧ Dp K H y d ∧ PyData.plainAll ds = true ∧ d.plain = true ∧ PyData.depthAll ds ≤ 32 ∧
  Q (.int ((ds.countP fun z => PyData.eqv z d : Nat) : Int)) H
theorem mt_cntL {X : Cx} {k : Nat} {K : PySem.W.Frag} (h : X.K = K) (hr : Room k X.A) : MtR X "list.count" (rCntL K) := by
  subst h
  intro pins s σ H x xs v us Q I rx rxs h
  obtain ⟨p, y, d, ds, rfl, rfl, hl, hy, pl, pd, dp, q⟩ := h
  cases rx
  cases rxs with
  | cons ry rt =>
    rename_i uy ut
    cases rt
    obtain ⟨bs, r1⟩ := Dp.reads I d y uy hy ry
    cases hl with
    | lst hs ha =>
      obtain ⟨its, rv, pl2, hlen⟩ := I.list hs
      obtain ⟨as, h4⟩ := Dp.readsAll I ds _ its ha rv
      refine PySem.SeqAt.count_list_data pl2.isList (show ReadsAll s.heap its.toArray.toList ds as from h4) r1 pl pd (by have := hr.units; omega) ⟨.int ((ds.countP fun z => PyData.eqv z d : Nat) : Int), H, I.tok _, ⟨_, rfl⟩, q⟩
theorem k_cntL {H : Hp} {Q : VK} {K : PySem.W.Frag} {p : Addr} {y : V} {d : PyData} {ds : List PyData} (hl : Dp K H (.ref p) (.list ds)) (hy : Dp K H y d) (pl : PyData.plainAll ds = true) (pd : d.plain = true) (dp : PyData.depthAll ds ≤ 32)
    (q : Q (.int ((ds.countP fun z => PyData.eqv z d : Nat) : Int)) H) : rCntL K (.ref p) [y] H Q := ⟨p, y, d, ds, rfl, rfl, hl, hy, pl, pd, dp, q⟩
/-- a list, repeated -/
theorem k_mulR {H : Hp} {Q : VK} {K : PySem.W.Frag} {l : Addr} {k : Int} {xs : List V} (h : H l = some (.lst xs)) (c : -(2 ^ 63) ≤ k ∧ k < 2 ^ 63 ∧ xs.length * k.toNat ≤ sizeLine) (q : ∀ p H', H p = none → Same H H' → H' p = some (.lst (List.replicate k.toNat xs).flatten) → Q (.ref p) H') : rMulU K (.ref l) (.int k) H Q :=
  .inr (.inl ⟨l, k, xs, rfl, rfl, h, c.1, c.2.1, c.2.2, fun p hp => q p _ hp (same_new hp) upd_same⟩)
/-! ### walks that lay a new pair at each turn: enumerate, zip -/
structure PairIt (J : It) (n : Nat) (u v : Nat → V) (Ok : Hp → Prop) : Prop where
  go : ∀ i H, Ok H → i < n → J.go i H
  stop : ∀ H, Ok H → J.stop n H
  yld : ∀ i H x H', Ok H → i < n → J.yld i H x H' → ∃ T, x = .ref T ∧ H T = none ∧ H' = upd H T (.tup [u i, v i])
section
variable {σ : L2.St} {H : Hp} {Q : VK} {K : PySem.W.Frag} {g : TG} {tt : TT} {te : TE} {vs : List Nat} {J : It} {n : Nat} {u v : Nat → V} {Ok : Hp → Prop} {D : Ends} {tb : TS} {ta : TA}
theorem k_loopP (pi : PairIt J n u v Ok) (P : Nat → L2.St → Hp → Prop) (h0 : P 0 σ H) (hl : ∀ i σ' H', P i σ' H' → Ok H')
    (hs : ∀ (i : Nat) T σ' H1 H2, i < n → P i σ' H1 → H1 T = none → Same H1 H2 → H2 T = some (.tup [u i, v i]) → g (.ref T) σ' H2 fun σ2 H2 => tb { D with nx := P (i + 1), ct := P (i + 1), bk := D.nx } σ2 H2) (hd : ∀ σ' H', P n σ' H' → D.nx σ' H') : LoopI J g tb D σ H := by
  refine ⟨fun i m σ' H' => m = n - i ∧ i ≤ n ∧ P i σ' H', ⟨n, by simp, Nat.zero_le _, h0⟩, ?_⟩
  rintro i m σ' H' ⟨rfl, hi, p⟩
  have ok := hl i σ' H' p
  by_cases c : i < n
  · refine .inr ⟨pi.go i H' ok c, P (i + 1), fun σ2 H2 q => ⟨n - (i + 1), by omega, rfl, c, q⟩, fun x H2 y => ?_⟩
    obtain ⟨T, rfl, hT, rfl⟩ := pi.yld i H' x H2 ok c y
    exact hs i T σ' H' _ c p hT (same_new hT) upd_same
  · have e : i = n := by omega
    subst e
    exact .inl ⟨pi.stop H' ok, hd σ' H' p⟩
theorem k_lcP (pi : PairIt J n u v Ok) (P : Addr → Nat → List V → Hp → Prop) (h0 : ∀ D H', H D = none → Same H H' → H' D = some (.lst []) → P D 0 [] H') (hl : ∀ D i ys H', H D = none → P D i ys H' → Ok H')
    (hs : ∀ D (i : Nat) T ys H1 H2, H D = none → i < n → P D i ys H1 → H1 T = none → Same H1 H2 → H2 T = some (.tup [u i, v i]) → H2 D = some (.lst ys) → LcB D g tt te vs σ (.ref T) H2 fun H'' => ∃ zs, P D (i + 1) zs H'' ∧ H'' D = some (.lst zs))
    (hd : ∀ D ys H', H D = none → P D n ys H' → H' D = some (.lst ys) → Q (.ref D) H') : LcX J g tt te vs σ H Q := fun D hD => by
  refine ⟨fun i m H' => m = n - i ∧ i ≤ n ∧ ∃ ys, P D i ys H' ∧ H' D = some (.lst ys), ⟨n, by simp, Nat.zero_le _, [], h0 D _ hD (same_new hD) upd_same, upd_same⟩, ?_⟩
  rintro i m H' ⟨rfl, hi, ys, p, e⟩
  have ok := hl D i ys H' hD p
  by_cases c : i < n
  · refine .inr ⟨pi.go i H' ok c, fun H'' => ∃ zs, P D (i + 1) zs H'' ∧ H'' D = some (.lst zs), fun H2 ⟨zs, q, e2⟩ => ⟨n - (i + 1), by omega, rfl, c, zs, q, e2⟩, fun x H2 y => ?_⟩
    obtain ⟨T, rfl, hT, rfl⟩ := pi.yld i H' x H2 ok c y
    exact hs D i T ys H' _ hD c p hT (same_new hT) upd_same (same_new hT _ _ e)
  · have ei : i = n := by omega
    subst ei
    exact .inl ⟨pi.stop H' ok, hd D ys H' hD p e⟩
theorem get_some {xs : List V} {i : Nat} (h : i < xs.length) : xs[i]? = some (xs.getD i .non) := by
  rw [List.getElem?_eq_getElem h]
  simp [h]
theorem enum_it {a : Addr} {xs : List V} : PairIt (Ite K a) xs.length (fun i => .int (i : Nat)) (fun i => xs.getD i .non) (fun H => SqL K H a xs) where
  go := fun i H h c => ⟨xs, _, h, get_some c⟩
  stop := fun H h => ⟨xs, h, Nat.le_refl _⟩
  yld := fun i H x H' h c ⟨T, y, e, hT, eH, hy⟩ => ⟨T, e, hT, by
    have := hy xs h
    rw [get_some c] at this
    rw [eH, Option.some.inj this]⟩
theorem zip_it {a b : Addr} {xs ys : List V} (hl : xs.length = ys.length) : PairIt (Itz K a b) xs.length (fun i => xs.getD i .non) (fun i => ys.getD i .non) (fun H => SqL K H a xs ∧ SqL K H b ys) where
  go := fun i H h c => ⟨xs, ys, _, _, h.1, h.2, get_some c, get_some (by omega)⟩
  stop := fun H h => ⟨xs, ys, h.1, h.2, .inl (Nat.le_refl _)⟩
  yld := fun i H x H' h c ⟨T, y, z, e, hT, eH, hy, hz⟩ => ⟨T, e, hT, by
    have e1 := hy xs h.1
    have e2 := hz ys h.2
    rw [get_some c] at e1
    rw [get_some (by omega)] at e2
    rw [eH, Option.some.inj e1, Option.some.inj e2]⟩
def rEnum (K : PySem.W.Frag) (vs : List V) (H1 : Hp) (R : It → Hp → Prop) : Prop := ∃ a xs, vs = [.ref a] ∧ SqL K H1 a xs ∧ R (Ite K a) H1
theorem k_iEnum {R : It → Hp → Prop} (q : ta σ H fun vs H1 => rEnum K vs H1 R) : iEnum K ta σ H R := q
theorem k_enumx {a : Addr} {xs : List V} {R : It → Hp → Prop} (h : SqL K H a xs) (q : R (Ite K a) H) : rEnum K [.ref a] H R := ⟨a, xs, rfl, h, q⟩
end
/-! the written part by its name, in comprehensions too -/
section
variable {X : Cx} {K : PySem.W.Frag}
theorem callK {f : Value} {r : PySem.W.Frag → List V → Hp → VK → Prop} (h : X.K = K) (c : CallR X f (r X.K)) : CallR X f (r K) := h ▸ c
theorem pe_fldK {e : Expr} {ta : TE} {f : Str} {pos : Pos} (h : X.K = K) (he : PE X e ta) (hb : attributeBase e f X.env (eval e X.env) = eval e X.env) : PE X (.Attribute e f pos) (tFld K ta f) := h ▸ pe_fld he hb
theorem pe_bm0K {T id : String} {name : Str} {o : Expr} {to : TE} {r : V → List V → Hp → VK → Prop} {apos cpos : Pos} (h : X.K = K) (pa : PlainAttrs T) (slot : Slot T name id) (hty : typeOf (.builtin id) = pure (.type "method_descriptor")) (hm : MtR X id r) (ho : PE X o to)
    (hbase : attributeBase o name X.env (eval o X.env) = eval o X.env := by rfl) (hline : (apos.endLine == cpos.line) = true := by rfl) : PE X (.Call (.Attribute o name apos) [] [] cpos) (tBM0 K T r to) := h ▸ pe_bm0 pa slot hty hm ho hbase hline
theorem pe_bmK {T id : String} {name : Str} {o e : Expr} {es : List Expr} {to : TE} {t : TA} {r : V → List V → Hp → VK → Prop} {apos cpos : Pos} (h : X.K = K) (pa : PlainAttrs T) (slot : Slot T name id) (hty : typeOf (.builtin id) = pure (.type "method_descriptor")) (hm : MtR X id r) (ho : PE X o to) (ha : PA X (e :: es) t)
    (hbase : attributeBase o name X.env (eval o X.env) = eval o X.env := by rfl)
    (hfew : ((backTo cpos (starEach (e :: es) X.env)).all (fun x => !x.1) && (backToKw cpos (keywordEach [] X.env)).all (fun x => x.1.isSome)
      && decide ((e :: es).length + ([] : List Keyword).length + (if ([] : List Keyword).isEmpty then 0 else 1) < 30)) = true := by rfl)
    (hline : (apos.endLine == cpos.line) = true := by rfl) (hs : starEach (e :: es) X.env = (false, eval e X.env) :: starEach es X.env := by rfl) (hplain : (backTo cpos (starEach es X.env)).any (·.1) = false := by rfl) :
    PE X (.Call (.Attribute o name apos) (e :: es) [] cpos) (tBM K T r to t) := h ▸ pe_bm pa slot hty hm ho ha hbase hfew hline hs hplain
end
/-! X(e).f, X an exception with a field -/
section
variable {X : Cx} {e : Expr} {t : L2.St → Hp → XK → Prop} {C : Addr} {f : Str} {pos : Pos}
def tMkF (C : Addr) (f : Str) (t : L2.St → Hp → XK → Prop) : TE := fun σ H Q => t σ H fun cls d H1 => ∃ (dd : Addr) (fs : List (Str × V)) (v : V), cls = .ref C ∧ d = some dd ∧ H1 dd = some (.xd fs) ∧ fs.lookup f = some v ∧ Q v H1
theorem pe_mkF (T : XfC X.K C) (hno : PySem.W.findIn X.K (.ref C) f = some none) (he : PMk X e t) (hb : attributeBase e f X.env (eval e X.env) = eval e X.env := by rfl) : PE X (.Attribute e f pos) (tMkF C f t) := by
  refine ⟨fun pins s σ H Q I h => ?_⟩
  refine attr_of hb (thn (he pins s σ H _ I h) fun u s1 hh => ?_)
  obtain ⟨a, oe, vs, sI, H1, cls, d, ex, J, k, hne, ha, hz, hd, h1, na, os, ag, r, dd, fs, v, ec, ed, ea, l, q⟩ := hh
  subst ex
  subst ec
  subst ed
  have J2 := J.kept (h' := s1.heap) (t' := s1.toks) k
  have I1 : Inv X pins σ H1 s1 := ⟨J2.ok, os.trans J2.os, ag, J2.base, J2.loc, J2.cell, J2.free, J2.freeC, J2.pin, J2.hok, J2.len⟩
  have hx : ObjOk X.prog X.w H1 s1.heap dd (.xd fs) := I1.hok dd _ ea
  obtain ⟨mA, hns, hr⟩ := hx
  obtain ⟨od, ho, hl⟩ := lookIn_ns hns
  obtain ⟨u, hu, ru⟩ := RelO.some_of (v := v) (o := mA f) (by rw [← l]; exact hr f)
  have J : PySem.W.InstAt s1.heap a oe C (some od) := ⟨ha, hz.1, by unfold PySem.W.notCls; rw [hd] <;> rfl, by rw [hz.2]; exact ho⟩
  exact HandSPX.exc_get I1.kIn J T.ga T.gg T.exC (PySem.W.findObj_own T.hdC hno rfl (by rw [hl, hu])) (handed_of ru) ⟨v, H1, I1.tok _, ru, q⟩
theorem k_mkF {sp : Sp} {ta : TA} {σ : L2.St} {H : Hp} {Q : VK} (q : ta σ H fun vs H1 => rMkO C sp vs H1 fun cls d H1 => ∃ (dd : Addr) (fs : List (Str × V)) (v : V), cls = .ref C ∧ d = some dd ∧ H1 dd = some (.xd fs) ∧ fs.lookup f = some v ∧ Q v H1) : tMkF C f (tMkO C sp [] ta) σ H Q := q
theorem k_mkFx {v : V} {H1 : Hp} {Q : VK} (k : ∀ H2, Same H1 H2 → Q v H2) : rMkO C (spXI C f) [v] H1 fun cls d H1 => ∃ (dd : Addr) (fs : List (Str × V)) (v : V), cls = .ref C ∧ d = some dd ∧ H1 dd = some (.xd fs) ∧ fs.lookup f = some v ∧ Q v H1 :=
  k_mkx fun d H2 _ s hd => ⟨d, _, v, rfl, rfl, hd, by simp [List.lookup], k H2 s⟩
/-- tuples of ints, < -/
theorem op_ltTK {K : PySem.W.Frag} {k : Nat} (h : X.K = K) (hr : Room k X.A) : OpR X (compareOp .Lt) (rLtT K) := h ▸ op_ltT (by have := hr.units; omega)
theorem k_ltT {K : PySem.W.Frag} {H : Hp} {Q : VK} {a b : Addr} {ns ms : List Int} (ha : SqT K H a (ns.map V.int)) (hb : SqT K H b (ms.map V.int)) (q : Q (.bl (HT.lexLt ns ms)) H) : rLtT K (.ref a) (.ref b) H Q := ⟨a, b, ns, ms, rfl, rfl, ha, hb, q⟩
theorem k_clear {H : Hp} {Q : VK} {l : Addr} {xs : List V} (h : H l = some (.lst xs)) (q : ∀ H', But l H H' → H' l = some (.lst []) → Q .non H') : rClear (.ref l) [] H Q := ⟨l, xs, rfl, rfl, h, q _ But.upd upd_same⟩
end
/-- while, its test by what it gives -/
theorem k_whileT {tc : TT} {tb : TS} {D : Ends} {σ : L2.St} {H : Hp} (P : Nat → L2.St → Hp → Prop) (R : Nat → L2.St → Bool → Hp → Prop) (m : Nat) (h0 : P m σ H) (ht : ∀ m σ H, P m σ H → ∀ Q : Bool → Hp → Prop, (∀ b H', R m σ b H' → Q b H') → tc σ H Q)
    (hb : ∀ m σ H, R m σ true H → tb { D with nx := Less P m, ct := Less P m, bk := D.nx } σ H) (hd : ∀ m σ H, R m σ false H → D.nx σ H) : tWhile tc tb D σ H := k_while P m h0 fun m σ H p => ht m σ H p _ fun b H' r => by
  cases b with
  | true => exact k_ifT (k_wN (hb m σ H' r))
  | false => exact k_ifF (hd m σ H' r)
/-! a tuple and a list walked side by side -/
def Itm (K : PySem.W.Frag) (a b : Addr) : It where
  go i H := ∃ xs ys x y, SqT K H a xs ∧ SqL K H b ys ∧ xs[i]? = some x ∧ ys[i]? = some y
  yld i H v H' := ∃ T x y, v = .ref T ∧ H T = none ∧ H' = upd H T (.tup [x, y]) ∧ (∀ xs, SqT K H a xs → xs[i]? = some x) ∧ ∀ ys, SqL K H b ys → ys[i]? = some y
  stop i H := ∃ xs ys, SqT K H a xs ∧ SqL K H b ys ∧ xs.length = i ∧ ys.length = i
def ZmSt (z TI TO i1 i2 a b : Addr) (i : Nat) (h : Heap) : Prop := IsZip h z TI TO .none ∧ IsTupOf2 h TI (.ref i1) (.ref i2) ∧ (∃ x y, IsTupOf2 h TO x y) ∧ h.IsTupleIter i1 a i ∧ h.IsListIter i2 b i
theorem zm_obj {z TI TO i1 i2 a b : Addr} {i : Nat} {h : Heap} (st : ZmSt z TI TO i1 i2 a b i h) {c : Addr} (hc : c ∈ [z, TI, TO, i1, i2]) : ∃ o, h.get? c = some o ∧ ∀ v, o.data ≠ .cell v := by
  obtain ⟨s1, s2, ⟨_, _, s3⟩, ⟨o4, e4, _, d4⟩, ⟨o5, e5, _, d5⟩⟩ := st
  simp only [List.mem_cons, List.not_mem_nil, or_false] at hc
  rcases hc with rfl | rfl | rfl | rfl | rfl
  · exact ⟨_, s1, fun _ => nofun⟩
  · exact ⟨_, s2, fun _ => nofun⟩
  · exact ⟨_, s3, fun _ => nofun⟩
  · exact ⟨o4, e4, fun _ z => by rw [d4] at z; cases z⟩
  · exact ⟨o5, e5, fun _ z => by rw [d5] at z; cases z⟩
theorem turn_zipM {P : Program} {w : World} {K : PySem.W.Frag} {elts : List Expr} {kk : Nat} {tpos : Pos} {a b z TI TO i1 i2 : Addr} (S : ZipSep2 z TI TO i1 i2 [i1, a] [i2, b]) (ha : a ≠ i1) (hb : b ≠ i2) :
    Turn P w K (.Tuple elts kk tpos) (Itm K a b) [z, TI, TO, i1, i2] z (ZmSt z TI TO i1 i2 a b) where
  mem := by simp
  obj := fun i h st c hc => zm_obj st hc
  keep := fun i h h' st k => ⟨k z (by simp) _ st.1, k TI (by simp) _ st.2.1, (let ⟨x, y, e⟩ := st.2.2.1; ⟨x, y, k TO (by simp) _ e⟩), st.2.2.2.1.at fun o q => k i1 (by simp) o q, st.2.2.2.2.at fun o q => k i2 (by simp) o q⟩
  item := by
    intro X hP hw hK hc i pins s σ H E I hf st hg
    subst hP hw hK
    obtain ⟨xs, ys, x, y, qx, qy, ex, ey⟩ := hg
    obtain ⟨us, ru, pu, _⟩ := I.tuple qx
    obtain ⟨vs, rv, pv, _⟩ := I.list qy
    have hh : X.A.in1.handled = none := I.ok.hd hc
    have lu : i < us.length := by rw [← ru.length]; exact (List.getElem?_eq_some_iff.mp ex).1
    have lv : i < vs.length := by rw [← rv.length]; exact (List.getElem?_eq_some_iff.mp ey).1
    have W := WalksT.zipD2 (prog := X.prog) (w := X.w) (A := X.A) S (Draws.tuple hh i1 a ha us.toArray) (Draws.list hh i2 b hb vs.toArray)
    refine W.item i s _ E (by simp; omega) ⟨st.1, st.2.1, st.2.2.1, ⟨st.2.2.2.1, pu⟩, ⟨st.2.2.2.2, pv.isList⟩⟩ fun T vals h' tk hP hT ht hm hk => ?_
    obtain ⟨u, v, hu, hv, rfl⟩ := hP
    obtain ⟨u', hu', r1⟩ := ru.get ex
    obtain ⟨v', hv', r2⟩ := rv.get ey
    obtain rfl : u' = u := Option.some.inj (hu'.symm.trans (by simpa using hu))
    obtain rfl : v' = v := Option.some.inj (hv'.symm.trans (by simpa using hv))
    refine ⟨.ref T, rfl, W.go elts kk tpos i T { s with heap := h', toks := tk } _ E hm fun h2 st2 hk2 => ?_⟩
    have new : ObjOk X.prog X.w (upd H T (.tup [x, y])) h2 T (.tup [x, y]) := ⟨by show 2 ≤ sizeLine; decide, [u', v'], .cons r1 (.cons r2 .nil), ht.at fun o e => hk2 T o (W.apart i T h' hm) e⟩
    have I1 := I.turnedNew (t' := tk) (ch := [z, TI, TO, i1, i2]) (fun c o n e => hk2 c o (fun q => n (by simp at q ⊢; rcases q with h | h | h | h <;> simp [h])) (hk c o (fun q => n (by simp at q ⊢; rcases q with h | h | h | h <;> simp [h])) e)) hf hT new
    refine ⟨.ref T, _, I1, rfl, ⟨T, x, y, rfl, I.hok.fresh hT, rfl, fun l hl => by rw [I.tuple_inj hl qx]; exact ex, fun l hl => by rw [I.list_inj hl qy]; exact ey⟩, ⟨st2.1, st2.2.1, st2.2.2.1, st2.2.2.2.1.1, st2.2.2.2.2.1⟩, fun c hcm => ?_⟩
    obtain ⟨o, e, _⟩ := zm_obj st hcm
    rw [upd_ne (Nat.ne_of_lt (Nat.lt_of_lt_of_le (Heap.lt_size e) hT))]
    exact (hf c hcm).1
  done := by
    intro X hP hw hK hc i pins s σ H E I hf st hg
    subst hP hw hK
    obtain ⟨xs, ys, qx, qy, ex, ey⟩ := hg
    obtain ⟨us, ru, pu, _⟩ := I.tuple qx
    obtain ⟨vs, rv, pv, _⟩ := I.list qy
    have hh : X.A.in1.handled = none := I.ok.hd hc
    have lu : us.length = i := by rw [← ru.length]; exact ex
    have lv : vs.length = i := by rw [← rv.length]; exact ey
    have W := WalksT.zipD2 (prog := X.prog) (w := X.w) (A := X.A) S (Draws.tuple hh i1 a ha us.toArray) (Draws.list hh i2 b hb vs.toArray)
    rw [show min us.toArray.size vs.toArray.size = i by simp; omega] at W
    exact W.done s _ E ⟨st.1, st.2.1, st.2.2.1, ⟨st.2.2.2.1, pu⟩, ⟨st.2.2.2.2, pv.isList⟩⟩ fun h' tk hk => ⟨rfl, I.turnedL (t' := tk) (ch := [z, TI, TO, i1, i2]) (fun c o n e => hk c o (fun q => n (by simp at q ⊢; rcases q with h | h | h | h <;> simp [h])) e) hf⟩
  self := fun A i s Q E st h => wpAny_pyIter_zip st.1 h
def rZipM (K : PySem.W.Frag) (vs : List V) (H1 : Hp) (R : It → Hp → Prop) : Prop := ∃ a b xs ys, vs = [.ref a, .ref b] ∧ SqT K H1 a xs ∧ SqL K H1 b ys ∧ R (Itm K a b) H1
def iZipM (K : PySem.W.Frag) (ta : TA) : TI := fun σ H R => ta σ H fun vs H1 => rZipM K vs H1 R
theorem pi_zipM {X : Cx} {K : PySem.W.Frag} {e e2 : Expr} {ta : TA} {p pos tpos : Pos} {elts : List Expr} {kk : Nat} (h : X.K = K) (hg : Gl X "zip") (hm : X.mg "zip" = none) (ha : PA X [e, e2] ta)
    (hs : starEach [e, e2] X.env = (false, eval e X.env) :: starEach [e2] X.env := by rfl) (hpl : (backTo pos (starEach [e2] X.env)).any (·.1) = false := by rfl) :
    PI X (.Tuple elts kk tpos) (.Call (.Name "zip" p) [e, e2] [] pos) (iZipM K ta) := by
  subst h
  refine ⟨fun pins s σ H R I h => Call_ (ld_blt I hg hm PyProof.Rows.boot_zip (PyProof.Rows.callWith_type1 (thn (ha.run pos pins s σ H _ I h) fun us s1 z => ?_) hs hpl))⟩
  obtain ⟨vs, H1, I1, r1, a, b, xs, ys, rfl, qx, qy, q⟩ := z
  cases r1 with
  | cons ra rr =>
    obtain ⟨ub, rfl, rb⟩ := vals1 rr
    cases ra
    cases rb
    obtain ⟨us, ru, pu, _⟩ := I1.tuple qx
    obtain ⟨vs, rv, pv, _⟩ := I1.list qy
    have la : a < s1.heap.objs.size := by obtain ⟨_, e, _⟩ := id pu; exact Heap.lt_size e
    refine zip_begins2 (begins_tuple a us.toArray) (begins_list b vs.toArray) pu pv.isList fun h' hz hTI hTO g1 g2 hsz hk => wpAny_pyIter_zip hz ?_
    have S := zip_sep2 (N := s1.heap.objs.size) (fp1 := [a]) (fp2 := [b]) (fun c hc => by rw [List.mem_singleton.mp hc]; exact la) (fun c hc => by rw [List.mem_singleton.mp hc]; exact pv.lt)
    refine ⟨_, _, _, _, H1, rfl, I1.kept (t' := s1.toks) hk, turn_zipM S (Nat.ne_of_lt la) (Nat.ne_of_lt (Nat.lt_succ_of_lt pv.lt)), ⟨hz, hTI, ⟨_, _, hTO⟩, ⟨_, g1, rfl, rfl⟩, ⟨_, g2, rfl, rfl⟩⟩, fun c hc => ?_, q⟩
    have hle : s1.heap.objs.size ≤ c := by
      simp only [List.mem_cons, List.not_mem_nil, or_false] at hc
      rcases hc with rfl | rfl | rfl | rfl | rfl
      · exact Nat.le_add_right _ 4
      · exact Nat.le_add_right _ 2
      · exact Nat.le_add_right _ 3
      · exact Nat.le_refl _
      · exact Nat.le_add_right _ 1
    exact I1.fpOk hle (I1.hok.fresh hle)
theorem k_iZipM {K : PySem.W.Frag} {ta : TA} {σ : L2.St} {H : Hp} {R : It → Hp → Prop} (q : ta σ H fun vs H1 => rZipM K vs H1 R) : iZipM K ta σ H R := q
theorem k_zipMx {K : PySem.W.Frag} {H : Hp} {R : It → Hp → Prop} {a b : Addr} {xs ys : List V} (hx : SqT K H a xs) (hy : SqL K H b ys) (q : R (Itm K a b) H) : rZipM K [.ref a, .ref b] H R := ⟨a, b, xs, ys, rfl, hx, hy, q⟩
theorem zipM_it {K : PySem.W.Frag} {a b : Addr} {xs ys : List V} (hl : xs.length = ys.length) : PairIt (Itm K a b) xs.length (fun i => xs.getD i .non) (fun i => ys.getD i .non) (fun H => SqT K H a xs ∧ SqL K H b ys) where
  go := fun i H h c => ⟨xs, ys, _, _, h.1, h.2, get_some c, get_some (by omega)⟩
  stop := fun H h => ⟨xs, ys, h.1, h.2, rfl, hl.symm⟩
  yld := fun i H x H' h c ⟨T, y, z, e, hT, eH, hy, hz⟩ => ⟨T, e, hT, by
    have e1 := hy xs h.1
    have e2 := hz ys h.2
    rw [get_some c] at e1
    rw [get_some (by omega)] at e2
    rw [eH, Option.some.inj e1, Option.some.inj e2]⟩
/-! a list and a tuple walked side by side -/
def Itn (K : PySem.W.Frag) (a b : Addr) : It where
  go i H := ∃ xs ys x y, SqL K H a xs ∧ SqT K H b ys ∧ xs[i]? = some x ∧ ys[i]? = some y
  yld i H v H' := ∃ T x y, v = .ref T ∧ H T = none ∧ H' = upd H T (.tup [x, y]) ∧ (∀ xs, SqL K H a xs → xs[i]? = some x) ∧ ∀ ys, SqT K H b ys → ys[i]? = some y
  stop i H := ∃ xs ys, SqL K H a xs ∧ SqT K H b ys ∧ xs.length = i ∧ ys.length = i
def ZnSt (z TI TO i1 i2 a b : Addr) (i : Nat) (h : Heap) : Prop := IsZip h z TI TO .none ∧ IsTupOf2 h TI (.ref i1) (.ref i2) ∧ (∃ x y, IsTupOf2 h TO x y) ∧ h.IsListIter i1 a i ∧ h.IsTupleIter i2 b i
theorem zn_obj {z TI TO i1 i2 a b : Addr} {i : Nat} {h : Heap} (st : ZnSt z TI TO i1 i2 a b i h) {c : Addr} (hc : c ∈ [z, TI, TO, i1, i2]) : ∃ o, h.get? c = some o ∧ ∀ v, o.data ≠ .cell v := by
  obtain ⟨s1, s2, ⟨_, _, s3⟩, ⟨o4, e4, _, d4⟩, ⟨o5, e5, _, d5⟩⟩ := st
  simp only [List.mem_cons, List.not_mem_nil, or_false] at hc
  rcases hc with rfl | rfl | rfl | rfl | rfl
  · exact ⟨_, s1, fun _ => nofun⟩
  · exact ⟨_, s2, fun _ => nofun⟩
  · exact ⟨_, s3, fun _ => nofun⟩
  · exact ⟨o4, e4, fun _ z => by rw [d4] at z; cases z⟩
  · exact ⟨o5, e5, fun _ z => by rw [d5] at z; cases z⟩
theorem turn_zipN {P : Program} {w : World} {K : PySem.W.Frag} {elts : List Expr} {kk : Nat} {tpos : Pos} {a b z TI TO i1 i2 : Addr} (S : ZipSep2 z TI TO i1 i2 [i1, a] [i2, b]) (ha : a ≠ i1) (hb : b ≠ i2) :
    Turn P w K (.Tuple elts kk tpos) (Itn K a b) [z, TI, TO, i1, i2] z (ZnSt z TI TO i1 i2 a b) where
  mem := by simp
  obj := fun i h st c hc => zn_obj st hc
  keep := fun i h h' st k => ⟨k z (by simp) _ st.1, k TI (by simp) _ st.2.1, (let ⟨x, y, e⟩ := st.2.2.1; ⟨x, y, k TO (by simp) _ e⟩), st.2.2.2.1.at fun o q => k i1 (by simp) o q, st.2.2.2.2.at fun o q => k i2 (by simp) o q⟩
  item := by
    intro X hP hw hK hc i pins s σ H E I hf st hg
    subst hP hw hK
    obtain ⟨xs, ys, x, y, qx, qy, ex, ey⟩ := hg
    obtain ⟨us, ru, pu, _⟩ := I.list qx
    obtain ⟨vs, rv, pv, _⟩ := I.tuple qy
    have hh : X.A.in1.handled = none := I.ok.hd hc
    have lu : i < us.length := by rw [← ru.length]; exact (List.getElem?_eq_some_iff.mp ex).1
    have lv : i < vs.length := by rw [← rv.length]; exact (List.getElem?_eq_some_iff.mp ey).1
    have W := WalksT.zipD2 (prog := X.prog) (w := X.w) (A := X.A) S (Draws.list hh i1 a ha us.toArray) (Draws.tuple hh i2 b hb vs.toArray)
    refine W.item i s _ E (by simp; omega) ⟨st.1, st.2.1, st.2.2.1, ⟨st.2.2.2.1, pu.isList⟩, ⟨st.2.2.2.2, pv⟩⟩ fun T vals h' tk hP hT ht hm hk => ?_
    obtain ⟨u, v, hu, hv, rfl⟩ := hP
    obtain ⟨u', hu', r1⟩ := ru.get ex
    obtain ⟨v', hv', r2⟩ := rv.get ey
    obtain rfl : u' = u := Option.some.inj (hu'.symm.trans (by simpa using hu))
    obtain rfl : v' = v := Option.some.inj (hv'.symm.trans (by simpa using hv))
    refine ⟨.ref T, rfl, W.go elts kk tpos i T { s with heap := h', toks := tk } _ E hm fun h2 st2 hk2 => ?_⟩
    have new : ObjOk X.prog X.w (upd H T (.tup [x, y])) h2 T (.tup [x, y]) := ⟨by show 2 ≤ sizeLine; decide, [u', v'], .cons r1 (.cons r2 .nil), ht.at fun o e => hk2 T o (W.apart i T h' hm) e⟩
    have I1 := I.turnedNew (t' := tk) (ch := [z, TI, TO, i1, i2]) (fun c o n e => hk2 c o (fun q => n (by simp at q ⊢; rcases q with h | h | h | h <;> simp [h])) (hk c o (fun q => n (by simp at q ⊢; rcases q with h | h | h | h <;> simp [h])) e)) hf hT new
    refine ⟨.ref T, _, I1, rfl, ⟨T, x, y, rfl, I.hok.fresh hT, rfl, fun l hl => by rw [I.list_inj hl qx]; exact ex, fun l hl => by rw [I.tuple_inj hl qy]; exact ey⟩, ⟨st2.1, st2.2.1, st2.2.2.1, st2.2.2.2.1.1, st2.2.2.2.2.1⟩, fun c hcm => ?_⟩
    obtain ⟨o, e, _⟩ := zn_obj st hcm
    rw [upd_ne (Nat.ne_of_lt (Nat.lt_of_lt_of_le (Heap.lt_size e) hT))]
    exact (hf c hcm).1
  done := by
    intro X hP hw hK hc i pins s σ H E I hf st hg
    subst hP hw hK
    obtain ⟨xs, ys, qx, qy, ex, ey⟩ := hg
    obtain ⟨us, ru, pu, _⟩ := I.list qx
    obtain ⟨vs, rv, pv, _⟩ := I.tuple qy
    have hh : X.A.in1.handled = none := I.ok.hd hc
    have lu : us.length = i := by rw [← ru.length]; exact ex
    have lv : vs.length = i := by rw [← rv.length]; exact ey
    have W := WalksT.zipD2 (prog := X.prog) (w := X.w) (A := X.A) S (Draws.list hh i1 a ha us.toArray) (Draws.tuple hh i2 b hb vs.toArray)
    rw [show min us.toArray.size vs.toArray.size = i by simp; omega] at W
    exact W.done s _ E ⟨st.1, st.2.1, st.2.2.1, ⟨st.2.2.2.1, pu.isList⟩, ⟨st.2.2.2.2, pv⟩⟩ fun h' tk hk => ⟨rfl, I.turnedL (t' := tk) (ch := [z, TI, TO, i1, i2]) (fun c o n e => hk c o (fun q => n (by simp at q ⊢; rcases q with h | h | h | h <;> simp [h])) e) hf⟩
  self := fun A i s Q E st h => wpAny_pyIter_zip st.1 h
def rZipN (K : PySem.W.Frag) (vs : List V) (H1 : Hp) (R : It → Hp → Prop) : Prop := ∃ a b xs ys, vs = [.ref a, .ref b] ∧ SqL K H1 a xs ∧ SqT K H1 b ys ∧ R (Itn K a b) H1
def iZipN (K : PySem.W.Frag) (ta : TA) : TI := fun σ H R => ta σ H fun vs H1 => rZipN K vs H1 R
theorem pi_zipN {X : Cx} {K : PySem.W.Frag} {e e2 : Expr} {ta : TA} {p pos tpos : Pos} {elts : List Expr} {kk : Nat} (h : X.K = K) (hg : Gl X "zip") (hm : X.mg "zip" = none) (ha : PA X [e, e2] ta)
    (hs : starEach [e, e2] X.env = (false, eval e X.env) :: starEach [e2] X.env := by rfl) (hpl : (backTo pos (starEach [e2] X.env)).any (·.1) = false := by rfl) :
    PI X (.Tuple elts kk tpos) (.Call (.Name "zip" p) [e, e2] [] pos) (iZipN K ta) := by
  subst h
  refine ⟨fun pins s σ H R I h => Call_ (ld_blt I hg hm PyProof.Rows.boot_zip (PyProof.Rows.callWith_type1 (thn (ha.run pos pins s σ H _ I h) fun us s1 z => ?_) hs hpl))⟩
  obtain ⟨vs, H1, I1, r1, a, b, xs, ys, rfl, qx, qy, q⟩ := z
  cases r1 with
  | cons ra rr =>
    obtain ⟨ub, rfl, rb⟩ := vals1 rr
    cases ra
    cases rb
    obtain ⟨us, ru, pu, _⟩ := I1.list qx
    obtain ⟨vs, rv, pv, _⟩ := I1.tuple qy
    have lb : b < s1.heap.objs.size := by obtain ⟨_, e, _⟩ := id pv; exact Heap.lt_size e
    refine zip_begins2 (begins_list a us.toArray) (begins_tuple b vs.toArray) pu.isList pv fun h' hz hTI hTO g1 g2 hsz hk => wpAny_pyIter_zip hz ?_
    have S := zip_sep2 (N := s1.heap.objs.size) (fp1 := [a]) (fp2 := [b]) (fun c hc => by rw [List.mem_singleton.mp hc]; exact pu.lt) (fun c hc => by rw [List.mem_singleton.mp hc]; exact lb)
    refine ⟨_, _, _, _, H1, rfl, I1.kept (t' := s1.toks) hk, turn_zipN S (Nat.ne_of_lt pu.lt) (Nat.ne_of_lt (Nat.lt_succ_of_lt lb)), ⟨hz, hTI, ⟨_, _, hTO⟩, ⟨_, g1, rfl, rfl⟩, ⟨_, g2, rfl, rfl⟩⟩, fun c hc => ?_, q⟩
    have hle : s1.heap.objs.size ≤ c := by
      simp only [List.mem_cons, List.not_mem_nil, or_false] at hc
      rcases hc with rfl | rfl | rfl | rfl | rfl
      · exact Nat.le_add_right _ 4
      · exact Nat.le_add_right _ 2
      · exact Nat.le_add_right _ 3
      · exact Nat.le_refl _
      · exact Nat.le_add_right _ 1
    exact I1.fpOk hle (I1.hok.fresh hle)
theorem k_iZipN {K : PySem.W.Frag} {ta : TA} {σ : L2.St} {H : Hp} {R : It → Hp → Prop} (q : ta σ H fun vs H1 => rZipN K vs H1 R) : iZipN K ta σ H R := q
theorem k_zipNx {K : PySem.W.Frag} {H : Hp} {R : It → Hp → Prop} {a b : Addr} {xs ys : List V} (hx : SqL K H a xs) (hy : SqT K H b ys) (q : R (Itn K a b) H) : rZipN K [.ref a, .ref b] H R := ⟨a, b, xs, ys, rfl, hx, hy, q⟩
theorem zipN_it {K : PySem.W.Frag} {a b : Addr} {xs ys : List V} (hl : xs.length = ys.length) : PairIt (Itn K a b) xs.length (fun i => xs.getD i .non) (fun i => ys.getD i .non) (fun H => SqL K H a xs ∧ SqT K H b ys) where
  go := fun i H h c => ⟨xs, ys, _, _, h.1, h.2, get_some c, get_some (by omega)⟩
  stop := fun H h => ⟨xs, ys, h.1, h.2, rfl, hl.symm⟩
  yld := fun i H x H' h c ⟨T, y, z, e, hT, eH, hy, hz⟩ => ⟨T, e, hT, by
    have e1 := hy xs h.1
    have e2 := hz ys h.2
    rw [get_some c] at e1
    rw [get_some (by omega)] at e2
    rw [eH, Option.some.inj e1, Option.some.inj e2]⟩
/-! a tuple made of a list, known to be bare; its count -/
def SqF (H : Hp) (a : Addr) (xs : List V) : Prop := ∃ o, H a = some (.frz o (.tup xs)) ∧ o.dict = none
theorem SqF.sq {K : PySem.W.Frag} {H : Hp} {a : Addr} {xs : List V} (h : SqF H a xs) : SqT K H a xs := let ⟨o, e, _⟩ := h; .inl (.inr ⟨o, e⟩)
theorem SqF.same {H H' : Hp} (e : Same H H') {a : Addr} {xs : List V} (h : SqF H a xs) : SqF H' a xs := let ⟨o, g, d⟩ := h; ⟨o, e _ _ g, d⟩
theorem SqF.but {H H' : Hp} {l : Addr} {ys : List V} (e : But l H H') (hl : H l = some (.lst ys)) {a : Addr} {xs : List V} (h : SqF H a xs) : SqF H' a xs := let ⟨o, g, d⟩ := h; ⟨o, e _ _ (ne_of g hl (by intro z; cases z)) g, d⟩
def rTupF (K : PySem.W.Frag) : List V → Hp → VK → Prop := fun xs H Q => ∃ p ys, xs = [.ref p] ∧ SqL K H p ys ∧ ∀ l o, H l = none → o.dict = none → Q (.ref l) (upd H l (.frz o (.tup ys)))
theorem call_tupF {X : Cx} : CallR X (.type "tuple") (rTupF X.K) := by
  rintro pins s σ H xs us Q I r ⟨p, ys, rfl, hq, q⟩
  obtain ⟨u, rfl, rx⟩ := vals1 r
  cases rx
  obtain ⟨its, ri, pl, hz⟩ := I.list hq
  have hlen := ri.length
  refine call_tuple_list pl.isList (fun h' kp => ?_) (by simp only [List.size_toArray]; omega)
  have I1 := I.kept (t' := s.toks) kp
  have e := Heap.get?_push_size h' (o := { cls := .type "tuple", data := .seq its.toArray }) rfl
  exact ⟨.ref h'.objs.size, _, I1.laid (t' := s.toks) (fun b o e => Heap.get?_push_of_some _ e) (Nat.le_refl _) (show ObjOk X.prog X.w _ _ _ (.frz _ (.tup ys)) from ⟨e, hz, its, ri, IsTup.new _ _⟩), rfl, q _ _ (I1.hok.fresh (Nat.le_refl _)) rfl⟩
def rTupV (K : PySem.W.Frag) : List V → Hp → VK → Prop := fun xs H Q => rTupU K xs H Q ∨ rTupF K xs H Q
theorem call_tupV {X : Cx} : CallR X (.type "tuple") (rTupV X.K) := fun pins s σ H xs us Q I r h => h.elim (call_tupU pins s σ H xs us Q I r) (call_tupF pins s σ H xs us Q I r)
theorem k_tupF {K : PySem.W.Frag} {H : Hp} {Q : VK} {p : Addr} {xs : List V} (h : SqL K H p xs) (q : ∀ l H', H l = none → Same H H' → SqF H' l xs → Q (.ref l) H') : rTupV K [.ref p] H Q := .inr ⟨p, xs, rfl, h, fun l o hl d => q l _ hl (same_new hl) ⟨o, upd_same, d⟩⟩
theorem k_tupL {K : PySem.W.Frag} {H : Hp} {Q : VK} {p : Addr} {xs : List V} (h : SqL K H p xs) (q : ∀ l H', H l = none → Same H H' → H' l = some (.tup xs) → Q (.ref l) H') : rTupV K [.ref p] H Q := .inl ⟨p, xs, rfl, .inl ⟨h, fun l hl => q l _ hl (same_new hl) upd_same⟩⟩
theorem k_tupT {K : PySem.W.Frag} {H : Hp} {Q : VK} {p : Addr} {xs : List V} (h : SqT K H p xs) (q : Q (.ref p) H) : rTupV K [.ref p] H Q := .inl ⟨p, xs, rfl, .inr ⟨h, q⟩⟩
def rCntT (K : PySem.W.Frag) (x y : V) (H : Hp) (Q : VK) : Prop := ∃ p xs d ds, x = .ref p ∧ SqT K H p xs ∧ DpAll K H xs ds ∧ Dp K H y d ∧ PyData.plainAll ds = true ∧ d.plain = true ∧ PyData.depthAll ds ≤ 32 ∧ Q (.int ((ds.countP fun z => PyData.eqv z d : Nat) : Int)) H
def rBare (x : V) (H : Hp) (P : Prop) : Prop := (∃ p xs, x = .ref p ∧ SqF H p xs) ∧ P
def tCntT (K : PySem.W.Frag) (to te : TE) : TE := fun σ H Q => to σ H fun x H1 => rBare x H1 (te σ H1 fun y H2 => rCntT K x y H2 Q)
theorem pe_cntT {X : Cx} {K : PySem.W.Frag} {k : Nat} {o e : Expr} {to te : TE} {apos cpos : Pos} (h : X.K = K) (hr : Room k X.A) (ho : PE X o to) (he : PE X e te)
    (hb : attributeBase o "count" X.env (eval o X.env) = eval o X.env := by rfl)
    (hw : ((backTo cpos (starEach [e] X.env)).all (fun x => !x.1) && (backToKw cpos (keywordEach [] X.env)).all (fun x => x.1.isSome) && decide ([e].length + ([] : List Keyword).length + (if ([] : List Keyword).isEmpty then 0 else 1) < 30)) = true := by rfl)
    (hn : (apos.endLine == cpos.line) = true := by rfl) (hs : starEach [e] X.env = (false, eval e X.env) :: starEach [] X.env := by rfl) :
    PE X (.Call (.Attribute o "count" apos) [e] [] cpos) (tCntT K to te) := by
  subst h
  refine ⟨fun pins s σ H Q I h => wpAny_Call_method_late hb hw hn rfl (thn (ho.run pins s σ H _ I h) fun v s1 z => ?_)⟩
  obtain ⟨x, H1, I1, r1, ⟨p, xs, rfl, ob, ep, dn⟩, q⟩ := z
  cases r1
  obtain ⟨hp, _, its, _, o2, e2, c2, _⟩ := I1.hok p _ ep
  obtain rfl : ob = o2 := Option.some.inj (hp.symm.trans e2)
  refine ⟨"tuple", "tuple.count", PySem.F.plainAttrs_tuple, PySem.F.slot_tuple_count, PySem.F.type_tuple_count, ⟨_, hp, c2⟩, fun a ea => ?_, ?_⟩
  · cases ea
    exact ⟨_, hp, dn⟩
  rw [hs]
  refine Calls.callWith_builtin rfl (Calls.evalArgs_plain (Calls.spliced_cons (thn (he.run pins s1 σ H1 _ I1 q) fun u s2 z => Calls.spliced_nil ?_)))
  obtain ⟨y, H2, I2, r2, p2, ys, d, ds, ex, hq, da, dy, pl, pd, dp, q2⟩ := z
  cases ex
  obtain ⟨vs, rv, pt, _⟩ := I2.tuple hq
  obtain ⟨as, h4⟩ := Dp.readsAll I2 ds _ vs da rv
  obtain ⟨bs, h5⟩ := Dp.reads I2 d y u dy r2
  exact PySem.SeqAt.count_tuple_data pt (show ReadsAll s2.heap vs.toArray.toList ds as from h4) h5 pl pd (by have := hr.units; omega) ⟨.int ((ds.countP fun z => PyData.eqv z d : Nat) : Int), H2, I2.tok _, ⟨_, rfl⟩, q2⟩
theorem k_cntT {K : PySem.W.Frag} {to te : TE} {σ : L2.St} {H : Hp} {Q : VK} (q : to σ H fun x H1 => rBare x H1 (te σ H1 fun y H2 => rCntT K x y H2 Q)) : tCntT K to te σ H Q := q
theorem k_bare {p : Addr} {xs : List V} {H : Hp} {P : Prop} (h : SqF H p xs) (q : P) : rBare (.ref p) H P := ⟨⟨p, xs, rfl, h⟩, q⟩
theorem k_cntTx {K : PySem.W.Frag} {H : Hp} {Q : VK} {p : Addr} {xs : List V} {y : V} {d : PyData} {ds : List PyData} (hq : SqT K H p xs) (da : DpAll K H xs ds) (dy : Dp K H y d) (pl : PyData.plainAll ds = true) (pd : d.plain = true) (dp : PyData.depthAll ds ≤ 32)
    (q : Q (.int ((ds.countP fun z => PyData.eqv z d : Nat) : Int)) H) : rCntT K (.ref p) y H Q := ⟨p, xs, d, ds, rfl, hq, da, dy, pl, pd, dp, q⟩
/-! sorted, insert -/
def rSortU (K : PySem.W.Frag) : List V → Hp → VK → Prop := rSorted K
theorem k_sorted {K : PySem.W.Frag} {H : Hp} {Q : VK} {a : Addr} {ns : List Int} (h : SqL K H a (ns.map V.int)) (c : ns.length < 64) (q : ∀ (ms : List Int) p H', H p = none → Same H H' → ms.Perm ns → ms.Pairwise (· ≤ ·) → H' p = some (.lst (ms.map V.int)) → Q (.ref p) H') : rSorted K [.ref a] H Q :=
  ⟨a, ns, rfl, h, c, fun ms p pm pw hp => q ms p _ hp (same_new hp) pm pw upd_same⟩
def rIns : V → List V → Hp → VK → Prop := fun x vs H Q => ∃ (l : Addr) (xs : List V) (i : Int) (y : V), x = .ref l ∧ vs = [.int i, y] ∧ H l = some (.lst xs) ∧ xs.length < sizeLine ∧ 0 ≤ i ∧ i < 2 ^ 63 ∧ Q .non (upd H l (.lst (xs.take i.toNat ++ [y] ++ xs.drop i.toNat)))
theorem mt_insU {X : Cx} : MtR X "list.insert" rIns := mt_insert
theorem k_ins {l : Addr} {xs : List V} {i : Int} {y : V} {H : Hp} {Q : VK} (h : H l = some (.lst xs)) (c : xs.length < sizeLine) (i0 : 0 ≤ i) (i1 : i < 2 ^ 63) (q : ∀ H', But l H H' → H' l = some (.lst (xs.take i.toNat ++ [y] ++ xs.drop i.toNat)) → Q .non H') : rIns (.ref l) [.int i, y] H Q := ⟨l, xs, i, y, rfl, rfl, h, c, i0, i1, q _ But.upd upd_same⟩
theorem pmkOK {X : Cx} {K : PySem.W.Frag} {e : Expr} {es : List Expr} {ta : TA} {p pos : Pos} {x : Str} {ps : List Str} {sp : Sp} {j k : Nat} (hK : X.K = K) (c : XCl X.prog X.w K X.mg X.base k x ps sp) (hr : Room j X.A) (hk : k + 1 ≤ j) (ha : PA X (e :: es) ta) (hg : Gl X x := by rfl)
    (hdb : (x == ("__debug__" : Str)) = false := by decide) (hs : starEach (e :: es) X.env = (false, eval e X.env) :: starEach es X.env := by rfl) (hpl : (backTo pos (starEach es X.env)).any (·.1) = false := by rfl) :
    PMk X (.Call (.Name x p) (e :: es) [] pos) (tMkO (He.ga K x) sp [] ta) := by
  subst hK
  exact pmkO c hr hk ha hg hdb hs hpl
/-! the head's hook: what the names reach, the interpreter's statics (a class's own attributes are read by them), and a word more -/
def reachS (g : Addr → Option Obj) (n : Nat) : List Addr := He.asD g n ++ [PySem.cStatics]
def obsS (n : Nat) (fa : List He.Fa) (fn : List He.DefD) (ex : PySem.W.Frag → Bool) (g : Addr → Option Obj) : He.AlD × Bool := (He.obsD fa fn (He.frT g (reachS g n)), ex (He.frT g (reachS g n)))
def hookS (n : Nat) (fa : List He.Fa) (fn : List He.DefD) (ex : PySem.W.Frag → Bool) : PySem.W.Hook where
  α := He.AlD × Bool
  obs s := obsS n fa fn ex s.heap.get?
  val _ := (He.valD fn, true)
  says _ h := ∃ K : PySem.W.Frag, K.In h ∧ He.SaysD fa fn K ∧ ex K = true
  of _ _ e := ⟨_, He.frT_in, congrArg (fun z : He.AlD × Bool => z.1) e, congrArg (fun z : He.AlD × Bool => z.2) e⟩
  keeps := fun _ _ _ ⟨K, hK, c⟩ k => ⟨K, PySem.W.Frag.In.keeps hK k, c⟩
theorem obsS_eq {n : Nat} {fa : List He.Fa} {fn : List He.DefD} {ex : PySem.W.Frag → Bool} {g : Addr → Option Obj} {s : Shared} (h : ∀ a, g a = s.heap.get? a) : obsS n fa fn ex g = (hookS n fa fn ex).obs s := by
  obtain rfl : g = s.heap.get? := funext h
  rfl
/-- the same, its addresses given -/
def obsA (as : List Addr) (fa : List He.Fa) (fn : List He.DefD) (ex : PySem.W.Frag → Bool) (g : Addr → Option Obj) : He.AlD × Bool := (He.obsD fa fn (He.frT g as), ex (He.frT g as))
def hookA (as : List Addr) (fa : List He.Fa) (fn : List He.DefD) (ex : PySem.W.Frag → Bool) : PySem.W.Hook where
  α := He.AlD × Bool
  obs s := obsA as fa fn ex s.heap.get?
  val _ := (He.valD fn, true)
  says _ h := ∃ K : PySem.W.Frag, K.In h ∧ He.SaysD fa fn K ∧ ex K = true
  of _ _ e := ⟨_, He.frT_in, congrArg (fun z : He.AlD × Bool => z.1) e, congrArg (fun z : He.AlD × Bool => z.2) e⟩
  keeps := fun _ _ _ ⟨K, hK, c⟩ k => ⟨K, PySem.W.Frag.In.keeps hK k, c⟩
theorem obsA_eq {as : List Addr} {fa : List He.Fa} {fn : List He.DefD} {ex : PySem.W.Frag → Bool} {g : Addr → Option Obj} {s : Shared} (h : ∀ a, g a = s.heap.get? a) : obsA as fa fn ex g = (hookA as fa fn ex).obs s := by
  obtain rfl : g = s.heap.get? := funext h
  rfl
/-! is None, of what is known -/
section
variable {A B : Prop} {a : Addr} {x : Str}
theorem k_nonT (h : A) : if decide (V.non = V.non) = true then A else B := by simpa using h
theorem k_nonF (h : B) : if (!decide (V.non = V.non)) = true then A else B := by simpa using h
theorem k_refT (h : B) : if decide (V.ref a = V.non) = true then A else B := by simpa using h
theorem k_refF (h : A) : if (!decide (V.ref a = V.non)) = true then A else B := by simpa using h
theorem k_blT {b : Bool} (h : B) : if decide (V.bl b = V.non) = true then A else B := by simpa using h
theorem k_blF {b : Bool} (h : A) : if (!decide (V.bl b = V.non)) = true then A else B := by simpa using h
theorem k_strT (h : B) : if decide (V.str x = V.non) = true then A else B := by simpa using h
theorem k_strF (h : A) : if (!decide (V.str x = V.non)) = true then A else B := by simpa using h
end
/-! isinstance of instances, popping at a place -/
structure InsT (K : PySem.W.Frag) (C : Addr) : Prop where
  ha : PySem.W.findIn K (.ref C) "__class__" = some (some (.builtin "object.__class__"))
  hn : PySem.W.specialIn K (.builtin "object.__class__") "__get__" = some (some (.builtin "getset_descriptor.__get__"))
  ht : PySem.W.takesIn K (.builtin "object.__class__") = some true
  hm : PySem.W.mroIn K C (.type "object") = some true
def insB (K : PySem.W.Frag) (x : Str) : Bool := He.eqO (PySem.W.findIn K (.ref (He.ga K x)) "__class__") (some (some (.builtin "object.__class__"))) && (He.eqO (PySem.W.specialIn K (.builtin "object.__class__") "__get__") (some (some (.builtin "getset_descriptor.__get__"))) &&
  (decide (PySem.W.takesIn K (.builtin "object.__class__") = some true) && decide (PySem.W.mroIn K (He.ga K x) (.type "object") = some true)))
theorem insB_ok {K : PySem.W.Frag} {x : Str} (h : insB K x = true) : InsT K (He.ga K x) := by
  obtain ⟨h1, h⟩ := He.ba h
  obtain ⟨h2, h⟩ := He.ba h
  obtain ⟨h3, h4⟩ := He.ba h
  exact ⟨He.eqO_ok h1, He.eqO_ok h2, of_decide_eq_true h3, of_decide_eq_true h4⟩
theorem k_isIns {K : PySem.W.Frag} {H : Hp} {Q : VK} {a C D dx : Addr} {fs : List (Str × V)} {b : Bool} (h : H a = some (.ins C dx fs)) (cl : Cls K C) (t : InsT K C) (hk : PySem.W.kitOne K (.ref C) (.ref D) = some b) (q : Q (.bl b) H) : rIsi K [.ref a, .ref D] H Q :=
  k_isi (.own D) (.base (.ins h cl t.ha t.hn t.ht t.hm)) hk q
theorem k_popAt {l : Addr} {xs : List V} {y : V} {j : Nat} {H : Hp} {Q : VK} (h : H l = some (.lst xs)) (hj : xs[j]? = some y) (c : xs.length ≤ 1000000) (q : ∀ H', But l H H' → H' l = some (.lst (xs.eraseIdx j)) → Q y H') : rPopAt (.ref l) [.int (j : Int)] H Q := by
  have hlt := (List.getElem?_eq_some_iff.mp hj).1
  refine ⟨l, xs, (j : Int), j, y, rfl, rfl, h, by omega, by omega, ?_, hj, q _ But.upd upd_same⟩
  unfold seqIndex?
  rw [if_neg (show ¬ ((j : Int) < 0) by omega)]
  simp [hlt]
/-! zip of two lists, of two tuples -/
def rZipU (K : PySem.W.Frag) (vs : List V) (H1 : Hp) (R : It → Hp → Prop) : Prop := ∃ a b xs ys, vs = [.ref a, .ref b] ∧ ((SqL K H1 a xs ∧ SqL K H1 b ys ∧ R (Itz K a b) H1) ∨ (SqT K H1 a xs ∧ SqT K H1 b ys ∧ R (RZ.ItzT K a b) H1))
def iZipU (K : PySem.W.Frag) (ta : TA) : TI := fun σ H R => ta σ H fun vs H1 => rZipU K vs H1 R
theorem pi_zipU {X : Cx} {K : PySem.W.Frag} {e e2 : Expr} {ta : TA} {p pos tpos : Pos} {elts : List Expr} {kk : Nat} (h : X.K = K) (hg : Gl X "zip") (hm : X.mg "zip" = none) (ha : PA X [e, e2] ta)
    (hs : starEach [e, e2] X.env = (false, eval e X.env) :: starEach [e2] X.env := by rfl) (hpl : (backTo pos (starEach [e2] X.env)).any (·.1) = false := by rfl) :
    PI X (.Tuple elts kk tpos) (.Call (.Name "zip" p) [e, e2] [] pos) (iZipU K ta) := h ▸ RZ.pi_zipA hg hm ha hs hpl
theorem k_iZipU {K : PySem.W.Frag} {ta : TA} {σ : L2.St} {H : Hp} {R : It → Hp → Prop} (q : ta σ H fun vs H1 => rZipU K vs H1 R) : iZipU K ta σ H R := q
theorem k_zipLx {K : PySem.W.Frag} {H : Hp} {R : It → Hp → Prop} {a b : Addr} {xs ys : List V} (hx : SqL K H a xs) (hy : SqL K H b ys) (q : R (Itz K a b) H) : rZipU K [.ref a, .ref b] H R := ⟨a, b, xs, ys, rfl, .inl ⟨hx, hy, q⟩⟩
theorem k_zipTx {K : PySem.W.Frag} {H : Hp} {R : It → Hp → Prop} {a b : Addr} {xs ys : List V} (hx : SqT K H a xs) (hy : SqT K H b ys) (q : R (RZ.ItzT K a b) H) : rZipU K [.ref a, .ref b] H R := ⟨a, b, xs, ys, rfl, .inr ⟨hx, hy, q⟩⟩
theorem zipT_it {K : PySem.W.Frag} {a b : Addr} {xs ys : List V} (hl : xs.length = ys.length) : PairIt (RZ.ItzT K a b) xs.length (fun i => xs.getD i .non) (fun i => ys.getD i .non) (fun H => SqT K H a xs ∧ SqT K H b ys) where
  go := fun i H h c => ⟨xs, ys, _, _, h.1, h.2, get_some c, get_some (by omega)⟩
  stop := fun H h => ⟨xs, ys, h.1, h.2, .inl (Nat.le_refl _)⟩
  yld := fun i H x H' h c ⟨T, y, z, e, hT, eH, hy, hz⟩ => ⟨T, e, hT, by
    have e1 := hy xs h.1
    have e2 := hz ys h.2
    rw [get_some c] at e1
    rw [get_some (by omega)] at e2
    rw [eH, Option.some.inj e1, Option.some.inj e2]⟩
/-! texts: walked, cut at a sign, begun by one -/
section
variable {X : Cx} {σ : L2.St} {H : Hp} {Q : VK} {K : PySem.W.Frag} {g : TG} {tt : TT} {te : TE} {vs : List Nat} {tb : TS} {D : Ends}
def rItS (v : V) (H1 : Hp) (R : It → Hp → Prop) : Prop := ∃ x, v = .str x ∧ R (Its x) H1
theorem k_iStr {R : It → Hp → Prop} (q : te σ H fun v H1 => rItS v H1 R) : iStr te σ H R := q
theorem k_itS {x : Str} {R : It → Hp → Prop} (q : R (Its x) H) : rItS (.str x) H R := ⟨x, rfl, q⟩
theorem k_lcS {z : List Nat} (P : Addr → Nat → List V → Hp → Prop) (h0 : ∀ D H', H D = none → Same H H' → H' D = some (.lst []) → P D 0 [] H')
    (hs : ∀ D (i : Nat) c ys H', H D = none → z[i]? = some c → P D i ys H' → H' D = some (.lst ys) → LcB D g tt te vs σ (.str (SX.S [c])) H' fun H'' => ∃ zs, P D (i + 1) zs H'' ∧ H'' D = some (.lst zs))
    (hd : ∀ D ys H', H D = none → P D z.length ys H' → H' D = some (.lst ys) → Q (.ref D) H') : LcX (Its (SX.S z)) g tt te vs σ H Q := fun D hD => by
  refine ⟨fun i m H' => m = z.length - i ∧ i ≤ z.length ∧ ∃ ys, P D i ys H' ∧ H' D = some (.lst ys), ⟨z.length, by simp, Nat.zero_le _, [], h0 D _ hD (same_new hD) upd_same, upd_same⟩, ?_⟩
  rintro i m H' ⟨rfl, hi, ys, p, e⟩
  by_cases c : i < z.length
  · refine .inr ⟨by show i < (SX.S z).cps.size; simpa using c, fun H'' => ∃ zs, P D (i + 1) zs H'' ∧ H'' D = some (.lst zs), fun H2 ⟨zs, q, e2⟩ => ⟨z.length - (i + 1), by omega, rfl, c, zs, q, e2⟩, fun x H2 y => ?_⟩
    obtain ⟨rfl, d, hd, rfl⟩ := y
    exact hs D i d ys H2 hD (by simpa using hd) p e
  · have ei : i = z.length := by omega
    subst ei
    exact .inl ⟨by show (SX.S z).cps.size ≤ _; simp, hd D ys H' hD p e⟩
theorem k_loopS {z : List Nat} (P : Nat → L2.St → Hp → Prop) (h0 : P 0 σ H) (hs : ∀ (i : Nat) c σ H, z[i]? = some c → P i σ H → g (.str (SX.S [c])) σ H fun σ2 H2 => tb { D with nx := P (i + 1), ct := P (i + 1), bk := D.nx } σ2 H2) (hd : ∀ σ H, P z.length σ H → D.nx σ H) : LoopI (Its (SX.S z)) g tb D σ H := by
  refine ⟨fun i m σ' H' => m = z.length - i ∧ i ≤ z.length ∧ P i σ' H', ⟨z.length, by simp, Nat.zero_le _, h0⟩, ?_⟩
  rintro i m σ' H' ⟨rfl, hi, p⟩
  by_cases c : i < z.length
  · refine .inr ⟨by show i < (SX.S z).cps.size; simpa using c, P (i + 1), fun σ2 H2 q => ⟨z.length - (i + 1), by omega, rfl, c, q⟩, fun x H2 y => ?_⟩
    obtain ⟨rfl, d, hd, rfl⟩ := y
    exact hs i d σ' H2 (by simpa using hd) p
  · have ei : i = z.length := by omega
    subst ei
    exact .inl ⟨by show (SX.S z).cps.size ≤ _; simp, hd σ' H' p⟩
def rSplit : V → List V → Hp → VK → Prop := fun x xs H Q => ∃ a b, x = .str a ∧ xs = [.str b] ∧ (b.length == 0) = false ∧ a.length + 2 ≤ sizeLine ∧ rNewStrs (Txt.split a b) H Q
theorem mt_splitU : MtR X "str.split" rSplit := mt_split
theorem k_split {a : List Nat} {c : Nat} (hc : c < 256) (h : a.length + 2 ≤ sizeLine) (q : ∀ p H', H p = none → Same H H' → H' p = some (.lst ((TL.spl [c] 0 [] a).map fun z => V.str (SX.S z))) → Q (.ref p) H') : rSplit (.str (SX.S a)) [.str (SX.S [c])] H Q := by
  refine ⟨_, _, rfl, rfl, rfl, by rw [SX.S_len]; exact h, fun p hp => q p _ hp (same_new hp) ?_⟩
  rw [upd_same, SX.split_S (by simp) (by simp [hc]), List.map_map]
  rfl
def rStarts : V → List V → Hp → VK → Prop := fun x xs H Q => ∃ a b, x = .str a ∧ xs = [.str b] ∧ Q (.bl (Txt.startswith a b)) H
theorem mt_startsU : MtR X "str.startswith" rStarts := mt_startswith
theorem starts_one (a : List Nat) (c : Nat) : Txt.startswith (SX.S a) (SX.S [c]) = decide (a.head? = some c) := by
  rw [Bool.eq_iff_iff, decide_eq_true_eq]
  have h := PySem.StrLaws.subAt_one (SX.S a) c 0
  show (decide (0 + (SX.S [c]).length ≤ (SX.S a).length) && Builtin.Str.subAt (SX.S a) (SX.S [c]) 0) = true ↔ _
  rw [Bool.and_eq_true, decide_eq_true_eq]
  refine Iff.trans h ?_
  show a[0]? = some c ↔ _
  rw [List.head?_eq_getElem?]
theorem k_starts {a : List Nat} {c : Nat} (q : Q (.bl (decide (a.head? = some c))) H) : rStarts (.str (SX.S a)) [.str (SX.S [c])] H Q := ⟨_, _, rfl, rfl, by rw [starts_one]; exact q⟩
theorem k_all {a : Addr} {bs : List Bool} (h : SqL K H a (bs.map V.bl)) (q : Q (.bl (bs.all id)) H) : rAll K [.ref a] H Q := ⟨a, bs, rfl, h, q⟩
theorem k_inC {c : Nat} {a : List Nat} (q : Q (.bl (decide (c ∈ a))) H) : rInU K (.str (SX.S [c])) (.str (SX.S a)) H Q := k_inS (by rw [SX.in_one]; exact q)
theorem k_niC {c : Nat} {a : List Nat} (q : Q (.bl (!decide (c ∈ a))) H) : rNiU K (.str (SX.S [c])) (.str (SX.S a)) H Q := k_niS (by rw [SX.in_one]; exact q)
/-- text slices -/
theorem k_slFrom {a : List Nat} {i : Nat} (c : a.length ≤ sizeLine) (q : Q (.str (SX.S (a.drop i))) H) : rSlU K (.str (SX.S a)) (some (i : Int)) none H Q := k_slS (by rw [C8.cutS_slice, SX.slice_from (by omega)]; exact q) (by rw [SX.S_len]; exact c)
theorem k_slTo {a : List Nat} {i : Nat} (c : a.length ≤ sizeLine) (q : Q (.str (SX.S (a.take i))) H) : rSlU K (.str (SX.S a)) none (some (i : Int)) H Q := k_slS (by rw [C8.cutS_slice, SX.slice_to (by omega)]; exact q) (by rw [SX.S_len]; exact c)
end
/-! how often, and where, a sign stands in a text -/
section
variable {X : Cx} {H : Hp} {Q : VK} {K : PySem.W.Frag}
def rCntS : V → List V → Hp → VK → Prop := fun x xs H Q => ∃ a b, x = .str a ∧ xs = [.str b] ∧ Q (.int (Txt.count a b)) H
theorem mt_cntS : MtR X "str.count" rCntS := mt_count
theorem cnt_is (c : Nat) : ∀ l : List Nat, PyProof.Rows.cnt c l = (l.countP (· == c) : Int)
  | [] => rfl
  | n :: r => by
    rw [PyProof.Rows.cnt_cons, cnt_is c r, List.countP_cons]
    by_cases h : n = c <;> simp [h] <;> omega
theorem k_cntS {a : List Nat} {c : Nat} (q : Q (.int (a.countP (· == c) : Int)) H) : rCntS (.str (SX.S a)) [.str (SX.S [c])] H Q := ⟨_, _, rfl, rfl, by
  have e : Txt.count (SX.S a) (SX.S [c]) = (a.countP (· == c) : Int) := (PyProof.Rows.count_cnt (SX.S a) c).trans (cnt_is c a)
  rw [e]
  exact q⟩
def rIdxS : V → List V → Hp → VK → Prop := fun x xs H Q => ∃ a b i rest, x = .str a ∧ xs = [.str b] ∧ Builtin.Str.occurrences a b 0 a.length 1 = i :: rest ∧ Q (.int (i : Nat)) H
theorem mt_idxS : MtR X "str.index" rIdxS := mt_sindex
theorem fig_occ {c : Nat} (h : 48 ≤ c ∧ c ≤ 57) : Builtin.Str.occurrences (Str.ofString "0123456789") (SX.S [c]) 0 (Str.ofString "0123456789").length 1 = [c - 48] := by
  have k : ∀ d : Fin 10, Builtin.Str.occurrences (Str.ofString "0123456789") (SX.S [48 + d.1]) 0 (Str.ofString "0123456789").length 1 = [d.1] := by decide +kernel
  have := k ⟨c - 48, by omega⟩
  rwa [show 48 + (⟨c - 48, by omega⟩ : Fin 10).1 = c by show 48 + (c - 48) = c; omega] at this
theorem k_idxFig {c : Nat} (h : 48 ≤ c ∧ c ≤ 57) (q : Q (.int ((c - 48 : Nat) : Int)) H) : rIdxS (.str (Str.ofString "0123456789")) [.str (SX.S [c])] H Q := ⟨_, _, _, _, rfl, rfl, fig_occ h, q⟩
end
/-! a dict that is asked for None, too -/
def optIs : Option Key → Value → Bool
  | none, .none => true
  | none, _ => false
  | some k, v => keyIs k v
theorem optIs_none {v : Value} (h : optIs none v = true) : v = .none := by
  cases v <;> first | rfl | exact absurd h Bool.false_ne_true
theorem optIs_some {k : Key} {v : Value} (h : optIs (some k) v = true) : keyIs k v = true := h
theorem key_none {k : Key} (h : keyIs k Value.none = true) : False := by
  rcases keyIs_shape h with ⟨i, t, _, e⟩ | ⟨x, t, _, e⟩ <;> cases e
def optH (w : World) : Option Key → Int
  | none => NestedKey.hash w .none
  | some k => keyH w k
theorem hash_none {prog : Program} {w : World} {A : Around} {E : Value → Shared → Prop} {s : Shared} {Q : Int → Shared → Prop} (h : Q (optH w none) { s with toks := s.toks + 1 }) : wpAny (model prog w) A (pyHash .none) Q E s :=
  PySem.W.pyHash_slot (T := "NoneType") rfl PySem.F.slot_NoneType_hash PySem.F.entry_NoneType_hash (PySem.F.args_NoneType_hash_1 _) (beq_builtin_none _) (.inl rfl) (wpAny_bind (wpAny_pure (wpAny_bind (wpAny_mkInt (wpAny_pure ⟨_, _, rfl, h⟩)))))
theorem eq_opt {prog : Program} {w : World} {A : Around} {E : Value → Shared → Prop} {s : Shared} : ∀ {a b : Option Key} {u v : Value} {Q : Bool → Shared → Prop}, optIs a u = true → optIs b v = true → Q (decide (a = b)) s → wpAny (model prog w) A (PySem.eqBool u v) Q E s
  | none, none, u, v, Q, hu, hv, h => by
    rw [optIs_none hu, optIs_none hv]
    exact SeqAt.EqAt.same _ _ _ _ _ h
  | none, some k, u, v, Q, hu, hv, h => by
    rw [optIs_none hu]
    rcases keyIs_shape (optIs_some hv) with ⟨i, t, _, e⟩ | ⟨x, t, _, e⟩ <;> subst e
    · exact SeqAt.EqAt.none_int i t _ _ _ _ h
    · exact SeqAt.EqAt.none_str x t _ _ _ _ h
  | some k, none, u, v, Q, hu, hv, h => by
    rw [optIs_none hv]
    rcases keyIs_shape (optIs_some hu) with ⟨i, t, _, e⟩ | ⟨x, t, _, e⟩ <;> subst e
    · exact SeqAt.EqAt.int_none i t _ _ _ _ h
    · exact SeqAt.EqAt.str_none x t _ _ _ _ h
  | some a, some b, u, v, Q, hu, hv, h => (mixKind prog w).eqBool (a := a) (b := b) (optIs_some hu) (optIs_some hv) (by
    have e : decide (a = b) = decide (some a = some b) := by by_cases c : a = b <;> simp [c]
    rw [e]
    exact h)
def optKind (prog : Program) (w : World) : PySem.KeyKind prog w (Option Key) where
  is := optIs
  hash := optH w
  inj := fun v a b ha hb => by
    cases a with
    | none =>
      cases b with
      | none => rfl
      | some k => rw [optIs_none ha] at hb; exact (key_none hb).elim
    | some j =>
      cases b with
      | none => rw [optIs_none hb] at ha; exact (key_none ha).elim
      | some k => exact congrArg some ((mixKind prog w).inj v j k ha hb)
  byValue := fun k v h => by
    cases k with
    | none => rw [optIs_none h]; rfl
    | some k => exact (mixKind prog w).byValue k v h
  pyHash := fun {A E s k v Q} hv h => by
    cases k with
    | none => rw [optIs_none hv]; exact hash_none h
    | some k => exact (mixKind prog w).pyHash (k := k) hv h
  eqBool := fun hu hv h => eq_opt hu hv h
  «strs» := fun k x t v h => by
    cases k with
    | none => exact absurd h Bool.false_ne_true
    | some k => exact (mixKind prog w).strs k x t v h
theorem map_opt {prog : Program} {w : World} {h : Heap} {a : Addr} {f : Key → Option Value} (m : h.MapOf (mixKind prog w) a f) : h.MapOf (optKind prog w) a (fun k => k.bind f) := by
  obtain ⟨o, es, ep, ho, hc, hd, hk, hf⟩ := m
  refine ⟨o, es, ep, ho, hc, hd, fun e he => let ⟨k, h1, h2⟩ := hk e he; ⟨some k, h1, h2⟩, fun k => ?_⟩
  cases k with
  | some k => exact hf k
  | none =>
    show findBy optIs es none = none
    unfold findBy
    rw [Array.find?_eq_none.mpr, Option.map_none]
    intro e he q
    obtain ⟨k, h1, _⟩ := hk e he
    rw [optIs_none q] at h1
    exact key_none h1
def rGetN (x y z : V) (H : Hp) (Q : VK) : Prop := ∃ a kvs, x = .ref a ∧ H a = some (.dK kvs) ∧ ((y = .non ∧ Q z H) ∨ ∃ k, y = kV k ∧ Q ((valV kvs k).getD z) H)
def tGetN (td ty tx : TE) : TE := fun σ H Q => td σ H fun x H1 => ∃ a, x = .ref a ∧ IsD H1 a ∧ ty σ H1 fun y H2 => tx σ H2 fun z H3 => rGetN x y z H3 Q
theorem pe_getN {X : Cx} {k : Nat} {o e f : Expr} {td ty tx : TE} {apos cpos : Pos} (hr : Room k X.A) (ho : PE X o td) (he : PE X e ty) (hf : PE X f tx)
    (m1 : attributeBase o "get" X.env (eval o X.env) = eval o X.env := by rfl)
    (m2 : ((backTo cpos (starEach [e, f] X.env)).all (fun x => !x.1) && (backToKw cpos (keywordEach [] X.env)).all (fun x => x.1.isSome) && decide (([e, f] : List Expr).length + ([] : List Keyword).length + (if ([] : List Keyword).isEmpty then 0 else 1) < 30)) = true := by rfl)
    (m3 : (apos.endLine == cpos.line) = true := by rfl) (m4 : backTo cpos (starEach [e, f] X.env) = [(false, eval e X.env), (false, eval f X.env)] := by rfl) :
    PE X (.Call (.Attribute o "get" apos) [e, f] [] cpos) (tGetN td ty tx) := by
  refine ⟨fun pins s σ H Q I h => ?_⟩
  refine wpAny_Call_method m1 m2 m3 PySem.F.plainAttrs_dict PySem.F.slot_dict_get PySem.F.type_dict_get (thn (ho.run pins s σ H _ I h) fun u s1 ⟨x, H1, I1, rx, a, ex, d, q1⟩ => ?_)
  subst ex
  obtain rfl : u = Value.ref a := rx
  obtain ⟨t1, t2, _⟩ := isD_at I1 d
  refine ⟨t1, t2, ?_⟩
  rw [m4]
  refine Calls.callWith_builtin rfl (Calls.evalArgs_plain (Calls.spliced_cons (thn (he.run pins s1 σ H1 _ I1 q1) fun iv s2 ⟨y, H2, I2, ry, q2⟩ =>
    Calls.spliced_cons (thn (hf.run pins s2 σ H2 _ I2 q2) fun fv s3 ⟨z, H3, I3, rz, b, kvs, eb, eh, q3⟩ => Calls.spliced_nil ?_))))
  obtain rfl : a = b := V.ref.inj eb
  rcases q3 with ⟨ey, q3⟩ | ⟨k, ey, q3⟩
  · subst ey
    obtain rfl : iv = Value.none := ry
    obtain ⟨_, hd, vs, _, dd⟩ := dk_rd I3.hok (.inl eh)
    exact call_meetsIn PySem.F.slot_dict_get dd.typeIs PySem.F.entry_dict_get (PySem.F.args_dict_get_3 _ _ _) (meets_dict_get_default (optKind X.prog X.w) (k := none) (key := .none) a rfl hd fv) ⟨_, map_opt dd.mapOf, ⟨z, H3, I3.tok _, rz, q3⟩⟩
  · exact d_get2 (by have := hr.units; omega) I3 (.inl ⟨kvs, k, .inl eh, ey, rfl⟩) ry rz fun w' s4 I4 rw' => ⟨_, H3, I4, rw', q3⟩
theorem k_getN {td ty tx : TE} {σ : L2.St} {H : Hp} {Q : VK} (q : td σ H fun x H1 => ∃ a, x = .ref a ∧ IsD H1 a ∧ ty σ H1 fun y H2 => tx σ H2 fun z H3 => rGetN x y z H3 Q) : tGetN td ty tx σ H Q := q
theorem k_getD {a : Addr} {kvs : List (Key × V)} {H : Hp} {P : Prop} (h : H a = some (.dK kvs)) (q : P) : ∃ b, V.ref a = .ref b ∧ IsD H b ∧ P := ⟨a, rfl, .inl ⟨kvs, .inl h⟩, q⟩
theorem k_getNone {a : Addr} {kvs : List (Key × V)} {z : V} {H : Hp} {Q : VK} (h : H a = some (.dK kvs)) (q : Q z H) : rGetN (.ref a) .non z H Q := ⟨a, kvs, rfl, h, .inl ⟨rfl, q⟩⟩
theorem k_getStr {a : Addr} {kvs : List (Key × V)} {z : V} {t : Str} {H : Hp} {Q : VK} (h : H a = some (.dK kvs)) (q : Q ((valV kvs (.inr t)).getD z) H) : rGetN (.ref a) (.str t) z H Q := ⟨a, kvs, rfl, h, .inr ⟨.inr t, rfl, q⟩⟩
/-- a dict of two pairs, their keys texts -/
def rDisp2 (p : Addr) (x y x2 y2 : V) (H : Hp) (Q : VK) : Prop := H p = some (.dK []) ∧ ∃ kvs : List (Key × V), [(x, y), (x2, y2)] = kvs.map (fun kv => (kV kv.1, kv.2)) ∧ kvs.length ≤ 15 ∧ Q (.ref p) (upd H p (.dK (mergeK [] kvs)))
theorem k_disp2 {σ : L2.St} {H : Hp} {Q : VK} {tk tv tk2 tv2 : TE} (q : ∀ p H1, H p = none → Same H H1 → H1 p = some (.dK []) → tk σ H1 fun x H2 => tv σ H2 fun y H3 => tk2 σ H3 fun x2 H4 => tv2 σ H4 fun y2 H5 => rDisp2 p x y x2 y2 H5 Q) : tDisp [(tk, tv), (tk2, tv2)] σ H Q := fun p hp => q p _ hp (same_new hp) upd_same
theorem k_disp2x {p : Addr} {z z2 : Str} {y y2 : V} {H : Hp} {Q : VK} (h : H p = some (.dK [])) (n : z2 ≠ z) (q : ∀ H', But p H H' → H' p = some (.dK [(.inr z, y), (.inr z2, y2)]) → Q (.ref p) H') : rDisp2 p (.str z) y (.str z2) y2 H Q := ⟨h, [(.inr z, y), (.inr z2, y2)], rfl, by simp, q _ But.upd (by
  have n2 : ¬ z = z2 := fun e => n e.symm
  rw [upd_same]
  simp [mergeK, putK, n2])⟩
theorem k_addG {K : PySem.W.Frag} {H : Hp} {Q : VK} {a b : Addr} {xs ys : List V} (ha : SqL K H a xs) (hb : SqL K H b ys) (q : ∀ p H', H p = none → Same H H' → H' p = some (.lst (xs ++ ys)) → Q (.ref p) H') (c : xs.length + ys.length ≤ sizeLine) : rAddU K (.ref a) (.ref b) H Q :=
  .inr (.inr (.inr (.inr ⟨a, b, xs, ys, rfl, rfl, ha, hb, c, fun p hp => q p _ hp (same_new hp) upd_same⟩)))
/-! C(..) whose __init__ may raise -/
section
variable {X : Cx} {W : WX} {e : Expr} {es : List Expr} {p pos : Pos} {t : TA} {C x : Str} {ps : List Str} {sp : Sp} {j k : Nat}
def tMakeS (C : Addr) (sp : Sp) (E : L2.St → XK) (t : TA) : TE := fun σ H Q => t σ H fun vs H1 => rMake C sp vs H1 Q (E σ)
theorem pmakeS {K : PySem.W.Frag} (hK : X.K = K) (c : KCl X.prog X.w K X.mg X.base k C ps sp) (hr : Room j X.A) (hk : k + 1 ≤ j) (tk : Takes X W) (ha : PA X (e :: es) t) (hg : Gl X C := by rfl)
    (hdb : (C == ("__debug__" : Str)) = false := by decide) (hst : starEach (e :: es) X.env = (false, eval e X.env) :: starEach es X.env := by rfl) (hpl : (backTo pos (starEach es X.env)).any (·.1) = false := by rfl) :
    PE X (.Call (.Name C p) (e :: es) [] pos) (tMakeS (He.ga K C) sp (WE W) t) := by
  subst hK
  obtain ⟨f, fd, M, F, hm, b⟩ := c.ex
  refine ⟨fun pins s σ H Q I h => wpAny_Call_Name_kw (ld_glob I hg hm ?_ hdb)⟩
  refine PySem.W.callWith_K (h₀ := X.base) I.ok.mod.kin M.kp (thn (ha.run pos pins s σ H _ I h) fun us s1 ⟨vs, H1, I1, r, q⟩ => ⟨I1.kIn, ?_⟩) hst hpl
  have q2 := q (s1.heap.objs.size + 1) s1.heap.objs.size (I1.hok.fresh (Nat.le_succ _)) (I1.hok.fresh (Nat.le_refl _)) (Nat.ne_of_lt (Nat.lt_succ_self _))
  have J := Inv.made (C := He.ga X.K C) I1
  have r2 : Vals (V.ref (s1.heap.objs.size + 1) :: vs) (Value.ref (s1.heap.objs.size + 1) :: us) := .cons rfl r
  have hl : (Value.ref (s1.heap.objs.size + 1) :: us).length = ps.length := by
    rw [← r2.length]
    exact F.len _ _ _ _ q2
  have bb := b _ (Value.ref (s1.heap.objs.size + 1) :: us) J.kIn (by rw [List.append_nil]; exact hl)
  rw [List.append_nil] at bb
  refine wpAny_call (make_map (f := f) I1.kIn M.makes M.init (beq_iff_eq.mp M.fn) (codeAny_mono (F.run _ X.stack _ _ ⟨Value.ref (s1.heap.objs.size + 1) :: us, []⟩ _ _ _ _ ((hr.mono hk).make (He.ga X.K C) us []) (J.env0.make (He.ga X.K C) us []) bb r2 q2) fun rr s' z => ?_))
  cases rr with
  | error er => exact passAt tk σ pins _ _ er s' J z
  | ok fl =>
    cases fl with
    | ret u =>
      obtain ⟨v, H', I3, rv, ev, q3⟩ := J.after z
      subst ev
      exact ⟨rv, ⟨V.ref (s1.heap.objs.size + 1), H', I3, rfl, q3⟩⟩
    | next => exact z.elim
    | brk => exact z.elim
    | cont => exact z.elim
theorem k_makeS {σ : L2.St} {H : Hp} {Q : VK} {C : Addr} (q : t σ H fun vs H1 => rMake C sp vs H1 Q (WE W σ)) : tMakeS C sp (WE W) t σ H Q := q
end
/-- tuples stay while an instance changes -/
theorem seqT_butI {K : PySem.W.Frag} {H H' : Hp} {l C dx : Addr} {fs : List (Str × V)} (e : But l H H') (hl : H l = some (.ins C dx fs)) {a : Addr} {xs : List V} (h : SqT K H a xs) : SqT K H' a xs := by
  rcases h with (h | ⟨o, h⟩) | h
  · exact .inl (.inl (e _ _ (ne_of h hl (by intro z; cases z)) h))
  · exact .inl (.inr ⟨o, e _ _ (ne_of h hl (by intro z; cases z)) h⟩)
  · exact .inr h
/-! reversed(range(n)) -/
def rRevR (x : V) (H1 : Hp) (R : It → Hp → Prop) : Prop := ∃ n : Int, x = .int n ∧ (-(2 ^ 62) ≤ (0 : Int) ∧ (0 : Int) < 2 ^ 62 ∧ -(2 ^ 62) ≤ n ∧ n < 2 ^ 62 ∧ R (Itc (0 + (((n - 0).toNat : Nat) : Int) - 1) (-1) (n - 0).toNat) H1)
theorem k_revR {te : TE} {σ : L2.St} {H : Hp} {R : It → Hp → Prop} (q : te σ H fun x H1 => rRevR x H1 R) : iRevR (tRg1 te) σ H R := q
theorem k_revX {n : Nat} {H : Hp} {R : It → Hp → Prop} (c : n < 1000000) (q : R (Itc ((n : Int) - 1) (-1) n) H) : rRevR (.int (n : Int)) H R := by
  refine ⟨n, rfl, by omega, by omega, by omega, by omega, ?_⟩
  rw [Int.sub_zero, Int.toNat_natCast, Int.zero_add]
  exact q
theorem k_loopRev {σ : L2.St} {H : Hp} {D : Ends} {tb : TS} {j n : Nat} (P : Nat → L2.St → Hp → Prop) (h0 : P 0 σ H) (hs : ∀ (i : Nat) σ H, i < n → P i σ H → tb { D with nx := P (i + 1), ct := P (i + 1), bk := D.nx } (σ.set j (some (.int ((n - 1 - i : Nat) : Int)))) H)
    (hd : ∀ σ H, P n σ H → D.nx σ H) : LoopI (Itc ((n : Int) - 1) (-1) n) (gName j) tb D σ H := for_rangeC P h0 (fun i σ H hi p => by
      show tb _ (σ.set j (some (.int ((n : Int) - 1 + (i : Nat) * (-1))))) H
      rw [show (n : Int) - 1 + (i : Nat) * (-1) = ((n - 1 - i : Nat) : Int) by omega]
      exact hs i σ H hi p) hd
/-! a tuple's things, numbered -/
def Iet (K : PySem.W.Frag) (a : Addr) : It where
  go i H := ∃ xs x, SqT K H a xs ∧ xs[i]? = some x
  yld i H v H' := ∃ T x, v = .ref T ∧ H T = none ∧ H' = upd H T (.tup [.int (i : Nat), x]) ∧ ∀ xs, SqT K H a xs → xs[i]? = some x
  stop i H := ∃ xs, SqT K H a xs ∧ xs.length = i
def EtSt (e it a : Addr) (i : Nat) (h : Heap) : Prop := (∃ old, IsEnum h e it (i : Int) old) ∧ h.IsTupleIter it a i ∧ e ≠ it
theorem et_obj {e it a : Addr} {i : Nat} {h : Heap} (st : EtSt e it a i h) {c : Addr} (hc : c ∈ [e, it]) : ∃ o, h.get? c = some o ∧ ∀ v, o.data ≠ .cell v := by
  obtain ⟨⟨_, s1⟩, ⟨o4, e4, _, d4⟩, _⟩ := st
  simp only [List.mem_cons, List.not_mem_nil, or_false] at hc
  rcases hc with rfl | rfl
  · exact ⟨_, s1, fun _ => nofun⟩
  · exact ⟨o4, e4, fun _ z => by rw [d4] at z; cases z⟩
theorem turn_enumT {P : Program} {w : World} {K : PySem.W.Frag} {elts : List Expr} {kk : Nat} {tpos : Pos} {a e it : Addr} (ne : e ≠ it) (nea : e ≠ a) (ha : a ≠ it) :
    Turn P w K (.Tuple elts kk tpos) (Iet K a) [e, it] e (EtSt e it a) where
  mem := by simp
  obj := fun i h st c hc => et_obj st hc
  keep := fun i h h' st k => ⟨(let ⟨old, z⟩ := st.1; ⟨old, k e (by simp) _ z⟩), st.2.1.at fun o q => k it (by simp) o q, st.2.2⟩
  item := by
    intro X hP hw hK hc i pins s σ H E I hf st hg
    subst hP hw hK
    obtain ⟨xs, x, qx, ex⟩ := hg
    obtain ⟨us, ru, pu, _⟩ := I.tuple qx
    have hh : X.A.in1.handled = none := I.ok.hd hc
    have lu : i < us.length := by rw [← ru.length]; exact (List.getElem?_eq_some_iff.mp ex).1
    have W := WalksT.enumerateD (prog := X.prog) (w := X.w) (A := X.A) (Draws.tuple hh it a ha us.toArray) e ne (by simp [ne, nea]) (by simp)
    refine W.item i s _ E (by simpa using lu) ⟨st.1, st.2.1, pu⟩ fun T vals h' tk hP hT ht hm hk => ?_
    obtain ⟨t, u, hu, rfl⟩ := hP
    obtain ⟨u', hu', r1⟩ := ru.get ex
    obtain rfl : u' = u := Option.some.inj (hu'.symm.trans (by simpa using hu))
    refine ⟨.ref T, rfl, W.go elts kk tpos i T { s with heap := h', toks := tk } _ E hm fun h2 st2 hk2 => ?_⟩
    have new : ObjOk X.prog X.w (upd H T (.tup [.int (i : Nat), x])) h2 T (.tup [.int (i : Nat), x]) := ⟨by show 2 ≤ sizeLine; decide, [.int i t, u'], .cons ⟨_, rfl⟩ (.cons r1 .nil), ht.at fun o e => hk2 T o (W.apart i T h' hm) e⟩
    have I1 := I.turnedNew (t' := tk) (ch := [e, it]) (fun c o n e => hk2 c o n (hk c o n e)) hf hT new
    refine ⟨.ref T, _, I1, rfl, ⟨T, x, rfl, I.hok.fresh hT, rfl, fun l hl => by rw [I.tuple_inj hl qx]; exact ex⟩, ⟨?_, st2.2.1, st.2.2⟩, fun c hcm => ?_⟩
    · obtain ⟨old, z⟩ := st2.1
      exact ⟨old, by rw [show ((i + 1 : Nat) : Int) = ((i : Nat) : Int) + 1 by omega]; simpa using z⟩
    obtain ⟨o, e, _⟩ := et_obj st hcm
    rw [upd_ne (Nat.ne_of_lt (Nat.lt_of_lt_of_le (Heap.lt_size e) hT))]
    exact (hf c hcm).1
  done := by
    intro X hP hw hK hc i pins s σ H E I hf st hg
    subst hP hw hK
    obtain ⟨xs, qx, ex⟩ := hg
    obtain ⟨us, ru, pu, _⟩ := I.tuple qx
    have hh : X.A.in1.handled = none := I.ok.hd hc
    have lu : us.length = i := by rw [← ru.length]; exact ex
    have W := WalksT.enumerateD (prog := X.prog) (w := X.w) (A := X.A) (Draws.tuple hh it a ha us.toArray) e ne (by simp [ne, nea]) (by simp)
    rw [show us.toArray.size = i by simpa using lu] at W
    exact W.done s _ E ⟨st.1, st.2.1, pu⟩ fun h' tk hk => ⟨rfl, I.turnedL (t' := tk) (ch := [e, it]) (fun c o n z => hk c o n z) hf⟩
  self := fun A i s Q E st h => let ⟨⟨_, z⟩, _⟩ := st; wpAny_pyIter_enum z h
set_option maxHeartbeats 1000000 in
theorem enum_new {v : Value} {ob : Obj} {Bh : Heap → Prop} (B : Begins v ob Bh) :
    Meets (Builtin.«enumerate.__new__» ⟨[.type "enumerate", v], []⟩) (fun _ R z => Bh z.heap ∧
      R (.ok (.ret (.ref (z.heap.push ob).objs.size))) { z with heap := (z.heap.push ob).push { cls := .type "enumerate", data := .fields #[.none, .bool false, .ref z.heap.objs.size, rawInt 0, .none, .none] } }) :=
  .of_wp fun P w A R z g => by
    obtain ⟨hp, gs, dp, tk, os⟩ := z
    obtain ⟨b, g⟩ := g
    have _u := sub_enumerate
    have begun : ∀ {A2 : Around} {X : Value → Shared → Prop} {Y : Value → Shared → Prop}, Y (.ref hp.objs.size) ⟨hp.push ob, gs, dp, tk, os⟩ → wpAny (model P w) A2 (pyIter v) Y X ⟨hp, gs, dp, tk, os⟩ := fun q => B.iter P w _ _ ⟨hp, gs, dp, tk, os⟩ _ b q
    wp_walk using begun
    refine wpAny_stack_any fun _ => wpAny_pure ?_
    split
    · rename_i c _ _ _ _ _
      cases (c == Value.type "enumerate") <;> (wp_walk using begun; exact ⟨_, rfl, g⟩)
    · wp_walk using begun
      exact ⟨_, rfl, g⟩
theorem enum_made {P : Program} {w : World} {A : Around} {E : Value → Shared → Prop} {z : Shared} {v : Value} {ob : Obj} {Bh : Heap → Prop} {Q : Value → Shared → Prop} (B : Begins v ob Bh) (b : Bh z.heap)
    (q : ∀ h', IsEnum h' (z.heap.objs.size + 1) z.heap.objs.size 0 .none → h'.get? z.heap.objs.size = some ob → (∀ c o, z.heap.get? c = some o → h'.get? c = some o) → Q (.ref (z.heap.objs.size + 1)) { z with heap := h' }) :
    wpAny (model P w) A (call (.type "enumerate") [v]) Q E z := by
  refine callType_new F.called_enumerate (by decide) (F.typeCall_enumerate_1 _) (F.newCall_enumerate_1 _) (fun o => F.args_object_init_2 o _) F.entry_enumerate_new (enum_new B) ⟨b, ?_⟩
  have n1 : (z.heap.push ob).objs.size = z.heap.objs.size + 1 := Heap.size_push ..
  show _ ∧ _
  rw [n1]
  have he : IsEnum ((z.heap.push ob).push { cls := .type "enumerate", data := .fields #[.none, .bool false, .ref z.heap.objs.size, rawInt 0, .none, .none] }) (z.heap.objs.size + 1) z.heap.objs.size 0 .none := by
    have t := Heap.get?_push_size (z.heap.push ob) (o := { cls := .type "enumerate", data := .fields #[.none, .bool false, .ref z.heap.objs.size, rawInt 0, .none, .none] }) rfl
    rwa [n1] at t
  exact ⟨⟨_, he, rfl⟩, q _ he (Heap.get?_push_of_some _ (Heap.get?_push_size _ B.free)) fun c o x => Heap.get?_push_of_some _ (Heap.get?_push_of_some _ x)⟩
def rEnumT (K : PySem.W.Frag) (vs : List V) (H1 : Hp) (R : It → Hp → Prop) : Prop := ∃ a xs, vs = [.ref a] ∧ SqT K H1 a xs ∧ R (Iet K a) H1
def iEnumT (K : PySem.W.Frag) (ta : TA) : TI := fun σ H R => ta σ H fun vs H1 => rEnumT K vs H1 R
theorem pi_enumT {X : Cx} {K : PySem.W.Frag} {e : Expr} {ta : TA} {p pos tpos : Pos} {elts : List Expr} {kk : Nat} (h : X.K = K) (hg : Gl X "enumerate") (hm : X.mg "enumerate" = none) (ha : PA X [e] ta) (hs : starEach [e] X.env = [(false, eval e X.env)] := by rfl) :
    PI X (.Tuple elts kk tpos) (.Call (.Name "enumerate" p) [e] [] pos) (iEnumT K ta) := by
  subst h
  refine ⟨fun pins s σ H R I h => Call_ (ld_blt I hg hm boot_enumerate (PyProof.Rows.callWith_type1 (thn (ha.run pos pins s σ H _ I h) fun us s1 z => ?_) hs rfl))⟩
  obtain ⟨vs, H1, I1, r1, a, xs, rfl, qx, q⟩ := z
  obtain ⟨ua, rfl, ra⟩ := vals1 r1
  cases ra
  obtain ⟨us, ru, pu, _⟩ := I1.tuple qx
  have la : a < s1.heap.objs.size := by obtain ⟨_, e, _⟩ := id pu; exact Heap.lt_size e
  refine enum_made (begins_tuple a us.toArray) pu fun h' he g1 hk => wpAny_pyIter_enum he ?_
  refine ⟨_, _, _, _, H1, rfl, I1.kept (t' := s1.toks) hk, turn_enumT (Nat.succ_ne_self _) (Nat.ne_of_gt (Nat.lt_succ_of_lt la)) (Nat.ne_of_lt la), ⟨⟨_, he⟩, ⟨_, g1, rfl, rfl⟩, Nat.succ_ne_self _⟩, fun c hc => ?_, q⟩
  have hle : s1.heap.objs.size ≤ c := by
    simp only [List.mem_cons, List.not_mem_nil, or_false] at hc
    rcases hc with rfl | rfl
    · exact Nat.le_add_right _ 1
    · exact Nat.le_refl _
  exact I1.fpOk hle (I1.hok.fresh hle)
theorem k_iEnumT {K : PySem.W.Frag} {ta : TA} {σ : L2.St} {H : Hp} {R : It → Hp → Prop} (q : ta σ H fun vs H1 => rEnumT K vs H1 R) : iEnumT K ta σ H R := q
theorem k_enumTx {K : PySem.W.Frag} {H : Hp} {R : It → Hp → Prop} {a : Addr} {xs : List V} (hx : SqT K H a xs) (q : R (Iet K a) H) : rEnumT K [.ref a] H R := ⟨a, xs, rfl, hx, q⟩
theorem enumT_it {K : PySem.W.Frag} {a : Addr} {xs : List V} : PairIt (Iet K a) xs.length (fun i => .int (i : Nat)) (fun i => xs.getD i .non) (fun H => SqT K H a xs) where
  go := fun i H h c => ⟨xs, _, h, get_some c⟩
  stop := fun H h => ⟨xs, h, rfl⟩
  yld := fun i H x H' h c ⟨T, y, e, hT, eH, hy⟩ => ⟨T, e, hT, by
    have := hy xs h
    rw [get_some c] at this
    rw [eH, Option.some.inj this]⟩
end Gx
/-! what never changes stays: tuples, things known, functions -/
namespace Gx
open PySem PySem.Spec PyProof.Rows L2
def Fixt : HO → Prop
  | .tup _ => True
  | .frz _ _ => True
  | .ext _ => True
  | _ => False
def Imm (H H' : Hp) : Prop := ∀ a o, H a = some o → Fixt o → H' a = some o
theorem Imm.refl (H : Hp) : Imm H H := fun _ _ h _ => h
theorem Imm.trans {H H1 H2 : Hp} (a : Imm H H1) (b : Imm H1 H2) : Imm H H2 := fun c o h f => b c o (a c o h f) f
theorem imm_same {H H' : Hp} (e : Same H H') : Imm H H' := fun a o h _ => e a o h
theorem imm_but {H H' : Hp} {l : Addr} {ys : List V} (e : But l H H') (hl : H l = some (.lst ys)) : Imm H H' := fun a o h f => e a o (ne_of h hl (by rintro rfl; exact f)) h
theorem imm_butI {H H' : Hp} {l C dx : Addr} {fs : List (Str × V)} (e : But l H H') (hl : H l = some (.ins C dx fs)) : Imm H H' := fun a o h f => e a o (ne_of h hl (by rintro rfl; exact f)) h
theorem seqT_imm {K : PySem.W.Frag} {H H' : Hp} (e : Imm H H') {a : Addr} {xs : List V} (h : SqT K H a xs) : SqT K H' a xs := by
  rcases h with (h | ⟨o, h⟩) | h
  · exact .inl (.inl (e _ _ h trivial))
  · exact .inl (.inr ⟨o, e _ _ h trivial⟩)
  · exact .inr h
/-- all but two stay -/
def But2 (l m : Addr) (H H' : Hp) : Prop := ∀ a o, a ≠ l → a ≠ m → H a = some o → H' a = some o
theorem But2.refl (l m : Addr) (H : Hp) : But2 l m H H := fun _ _ _ _ h => h
theorem But2.of {H H' : Hp} {l m : Addr} (e : Same H H') : But2 l m H H' := fun a o _ _ h => e a o h
theorem But2.trans {H H1 H2 : Hp} {l m : Addr} (a : But2 l m H H1) (b : But2 l m H1 H2) : But2 l m H H2 := fun c o n1 n2 h => b c o n1 n2 (a c o n1 n2 h)
theorem But2.left {H H' : Hp} {l m : Addr} (e : But l H H') : But2 l m H H' := fun a o n _ h => e a o n h
theorem But2.right {H H' : Hp} {l m : Addr} (e : But m H H') : But2 l m H H' := fun a o _ n h => e a o n h
theorem But2.imm {H H' : Hp} {l m C dx : Addr} {fs : List (Str × V)} {ys : List V} (e : But2 l m H H') (hl : H l = some (.ins C dx fs)) (hm : H m = some (.lst ys)) : Imm H H' := fun a o h f => e a o (ne_of h hl (by rintro rfl; exact f)) (ne_of h hm (by rintro rfl; exact f)) h
/-- what is new here may change -/
theorem But2.same {H H1 H2 : Hp} {l m : Addr} (nl : H l = none) (nm : H m = none) (a : Same H H1) (b : But2 l m H1 H2) : Same H H2 := fun c o h => b c o (ne_of_none h nl) (ne_of_none h nm) (a c o h)
end Gx
/-! a list that will not change any more is known from now on -/
namespace Gx
open PySem PySem.Spec PyProof.Rows L2
theorem inv_frz {X : Cx} {pins : List (Addr × Obj)} {σ : L2.St} {H : Hp} {s : Shared} {l : Addr} {xs : List V} (I : Inv X pins σ H s) (h : H l = some (.lst xs)) : ∃ o, Inv X pins σ (upd H l (.frz o (.lst xs))) s := by
  obtain ⟨hl, its, n, r, e⟩ := id (I.hok l _ h)
  have nl : ∀ {b u}, H b = some u → (∀ ys, u ≠ .lst ys) → b ≠ l := fun {b u} q n z => by
    rw [z, h] at q
    exact n _ (Option.some.inj q).symm
  have I2 := I.un (H' := upd H l (.frz { cls := .type "list", data := .seq its.toArray n } (.lst xs))) (h' := s.heap) (t' := s.toks) ⟨fun b o q _ _ _ => q, fun b o q _ _ _ => ⟨o.slots, q⟩, fun b o q n _ => by rw [upd_ne (fun z => by rw [z, h] at n; cases n)]; exact n, fun b o q _ => ⟨o, q⟩,
    fun b ys q => by rw [upd_ne (nl q (by intro ys z; cases z))]; exact q, fun b o u q => by rw [upd_ne (nl q (by intro ys z; cases z))]; exact q, fun b ps q => ⟨#[], by rw [upd_ne (nl q (by intro ys z; cases z)), q]; simp⟩⟩ (fun b u q => by
    by_cases hb : b = l
    · rw [hb, upd_same] at q
      cases q
      rw [hb]
      exact ⟨e, hl, its, n, r, e⟩
    · rw [upd_ne hb] at q
      exact (I.hok b u q).stay (fun _ _ _ q => q) (fun c q => by rw [upd_ne (nl q (by intro ys z; cases z))]; exact q) fun c ys q => by rw [upd_ne (nl q (by intro ys z; cases z))]; exact q)
  exact ⟨_, I2⟩
def rFrz (v : V) (H1 : Hp) (Q : VK) : Prop := ∃ l xs, v = .ref l ∧ H1 l = some (.lst xs) ∧ ∀ o, Q v (upd H1 l (.frz o (.lst xs)))
def tFrz (te : TE) : TE := fun σ H Q => te σ H fun v H1 => rFrz v H1 Q
theorem pe_frz {X : Cx} {e : Expr} {te : TE} (h : PE X e te) : PE X e (tFrz te) := by
  refine ⟨fun pins s σ H Q I q => thn (h.run pins s σ H _ I q) fun u s1 ⟨v, H1, I1, r, l, xs, ev, hl, q1⟩ => ?_⟩
  obtain ⟨o, I2⟩ := inv_frz I1 hl
  exact ⟨v, _, I2, r, q1 o⟩
theorem k_frz {te : TE} {σ : L2.St} {H : Hp} {Q : VK} (q : te σ H fun v H1 => rFrz v H1 Q) : tFrz te σ H Q := q
theorem k_frzx {l : Addr} {xs : List V} {H : Hp} {Q : VK} (h : H l = some (.lst xs)) (q : ∀ o H', But l H H' → H' l = some (.frz o (.lst xs)) → Q (.ref l) H') : rFrz (.ref l) H Q := ⟨l, xs, rfl, h, fun o => q o _ But.upd upd_same⟩
/-- while a list is put away, tuples stay -/
theorem SqL.frz {K : PySem.W.Frag} {H : Hp} {l : Addr} {o : Obj} {xs : List V} (h : H l = some (.frz o (.lst xs))) : SqL K H l xs := .inl (.inr ⟨o, h⟩)
theorem frz_imm {H H' : Hp} (e : Imm H H') {l : Addr} {o : Obj} {u : HO} (h : H l = some (.frz o u)) : H' l = some (.frz o u) := e _ _ h trivial
end Gx
namespace Gx
open PySem PySem.Spec PyProof.Rows L2
/-! ### xs[lo:hi:c], c a number; ts[::-1], ts a tuple -/
def stV (xs : List V) (lo hi : Option Int) (c : Int) : List V := (sliceRange (sliceBounds lo hi (some c) xs.length).1 (sliceBounds lo hi (some c) xs.length).2.1 (sliceBounds lo hi (some c) xs.length).2.2).filterMap (xs[·]?)
theorem vals_pick : ∀ {xs : List V} {us : List Value} (idx : List Nat), Vals xs us → Vals (idx.filterMap (xs[·]?)) (idx.filterMap (us[·]?))
  | _, _, [], _ => .nil
  | xs, us, i :: r, h => by
    have ih := vals_pick r h
    have key : ∀ {xs : List V} {us : List Value} (i : Nat), Vals xs us → (xs[i]? = none ∧ us[i]? = none) ∨ ∃ x u, xs[i]? = some x ∧ us[i]? = some u ∧ RelV x u := fun {xs us} i h => by
      induction h generalizing i with
      | nil => exact .inl ⟨rfl, rfl⟩
      | cons a _ ih =>
        cases i with
        | zero => exact .inr ⟨_, _, rfl, rfl, a⟩
        | succ i => exact ih i
    rcases key i h with ⟨h1, h2⟩ | ⟨x, u, h1, h2, h3⟩
    · rw [List.filterMap_cons, List.filterMap_cons, h1, h2]
      exact ih
    · rw [List.filterMap_cons, List.filterMap_cons, h1, h2]
      exact .cons h3 ih
theorem stV_len {xs : List V} {lo hi : Option Int} {c : Int} (c0 : 0 < c) : (stV xs lo hi c).length ≤ xs.length := by
  unfold stV
  refine Nat.le_trans (List.length_filterMap_le ..) (sliceRange_length_le _ _ _ xs.length ?_ ?_)
  · intro _
    cases lo <;> cases hi <;> simp [sliceBounds, c0] <;> omega
  · intro z
    exact absurd (show (sliceBounds lo hi (some c) xs.length).2.2 > 0 from c0) z
def rStX (K : PySem.W.Frag) (x : V) (lo hi : Option Int) (c : Int) (H : Hp) (Q : VK) : Prop := ∃ a xs, x = .ref a ∧ SqL K H a xs ∧ ∀ p, H p = none → Q (.ref p) (upd H p (.lst (stV xs lo hi c)))
def tSlSt (K : PySem.W.Frag) (te : TE) (tl th : TO) (c : Int) : TE := fun σ H Q => te σ H fun x H1 => tl σ H1 fun lo H2 => th σ H2 fun hi H3 => rStX K x lo hi c H3 Q
theorem pe_slStep {X : Cx} {e : Expr} {lo hi : Option Expr} {te : TE} {tl th : TO} {c : Int} {k : Nat} {p1 p3 pos : Pos} (he : PE X e te) (hl : PO X lo tl) (hu : PO X hi th) (c0 : 0 < c) : PE X (.Subscript e (.Slice lo hi (some (.Constant (.int c) k p1)) p3) pos) (tSlSt X.K te tl th c) := by
  refine ⟨fun pins s σ H Q I h => ?_⟩
  refine Subscript_ (thn (he.run pins s σ H _ I h) fun v s1 ⟨x, H1, I1, r1, q1⟩ => ?_)
  have hst : PO X (some (.Constant (.int c) k p1)) (tPart (tC (.int c))) := po_some pe_int
  refine wpAny_Slice (thn (hl.run pins s1 σ H1 _ I1 q1) fun vl s2 ⟨l, H2, I2, pl, q2⟩ => ?_)
  refine thn (hu.run pins s2 σ H2 _ I2 q2) fun vu s3 ⟨u, H3, I3, pu, q3⟩ => ?_
  obtain ⟨a, xs, ex, hx, q⟩ := q3
  subst ex
  cases r1
  refine thn (hst.run pins s3 σ H3 (fun o H4 => o = some c ∧ H4 = H3) I3 ⟨c, rfl, rfl, rfl⟩) fun vs s4 ⟨o, H4, I4, ps, eo, e4⟩ => ?_
  subst eo e4
  have I5 : Inv X pins σ H4 { s4 with heap := s4.heap.push { cls := .type "slice", data := .fields #[vl, vu, vs] } } := I4.kept (t' := s4.toks) fun b ob q => Heap.get?_push_of_some _ q
  obtain ⟨its, r, ht, hz⟩ := I5.list hx
  have hlen := r.length
  show wpAny (model X.prog X.w) X.A (subscriptTail e (.Slice lo hi (some (.Constant (.int c) k p1)) p3) (.ref a) (.ref s4.heap.objs.size)) (EP X pins σ Q) X.xe { s4 with heap := s4.heap.push { cls := .type "slice", data := .fields #[vl, vu, vs] } }
  refine tail_any (ops := [.ref a, .ref s4.heap.objs.size]) ht.isList.typeIs (PySem.slot_list_getitem.lookup) ?_ (by with_unfolding_all rfl)
  refine wpAny_getItem_list_slice ht.isList (Heap.IsSliceOf.new _ vl vu vs) pl pu ps (fun z => by have := Option.some.inj z; omega) ?_ (by rw [List.size_toArray]; omega)
  have ep : slicePick its.toArray l u (some c) = ((sliceRange (sliceBounds l u (some c) xs.length).1 (sliceBounds l u (some c) xs.length).2.1 (sliceBounds l u (some c) xs.length).2.2).filterMap (its[·]?)).toArray := by
    unfold slicePick
    rw [List.size_toArray, ← hlen]
    congr 1
    congr 1
    funext i
    simp
  rw [ep]
  have vp := vals_pick (sliceRange (sliceBounds l u (some c) xs.length).1 (sliceBounds l u (some c) xs.length).2.1 (sliceBounds l u (some c) xs.length).2.2) r
  refine ⟨.ref _, _, I5.laid (t' := s4.toks) (o := .lst (stV xs l u c)) (fun b ob q => Heap.get?_push_of_some _ q) (Nat.le_refl _) ?_, rfl, q _ (I5.hok.fresh (Nat.le_refl _))⟩
  refine ⟨?_, _, 0, vp, Heap.get?_push_size _ rfl⟩
  exact Nat.le_trans (stV_len c0) hz
theorem k_st {K : PySem.W.Frag} {te : TE} {tl th : TO} {c : Int} {σ : L2.St} {H : Hp} {Q : VK} (q : te σ H fun x H1 => tl σ H1 fun lo H2 => th σ H2 fun hi H3 => rStX K x lo hi c H3 Q) : tSlSt K te tl th c σ H Q := q
theorem k_stx {K : PySem.W.Frag} {a : Addr} {xs : List V} {lo hi : Option Int} {c : Int} {H : Hp} {Q : VK} (h : SqL K H a xs) (q : ∀ p H2, H p = none → Same H H2 → H2 p = some (.lst (stV xs lo hi c)) → Q (.ref p) H2) : rStX K (.ref a) lo hi c H Q := ⟨a, xs, rfl, h, fun p hp => q p _ hp (same_new hp) upd_same⟩
theorem stV_ints {ns : List Int} {lo hi : Option Int} {c : Int} (c0 : 0 < c) : ∃ ms : List Int, stV (ns.map V.int) lo hi c = ms.map V.int ∧ ms.length ≤ ns.length := by
  refine ⟨(sliceRange (sliceBounds lo hi (some c) ns.length).1 (sliceBounds lo hi (some c) ns.length).2.1 (sliceBounds lo hi (some c) ns.length).2.2).filterMap (ns[·]?), ?_, ?_⟩
  · unfold stV
    rw [List.map_filterMap, List.length_map]
    congr 1
    funext i
    rw [List.getElem?_map]
  · have e := stV_len (xs := ns.map V.int) (lo := lo) (hi := hi) c0
    unfold stV at e
    rw [List.length_map] at e
    refine Nat.le_trans (Nat.le_of_eq ?_) e
    rw [← List.length_map (f := V.int), List.map_filterMap]
    congr 2
    funext i
    rw [List.getElem?_map]
section
variable {prog : Program} {w : World} {A : Around} {E : Value → Shared → Prop} {s : Shared}
theorem fm_congr {α β : Type} {f g : α → Option β} : ∀ {l : List α}, (∀ x ∈ l, f x = g x) → l.filterMap f = l.filterMap g
  | [], _ => rfl
  | x :: r, h => by
    rw [List.filterMap_cons, List.filterMap_cons, h x (List.mem_cons_self ..), fm_congr (l := r) fun y hy => h y (List.mem_cons_of_mem _ hy)]
theorem places_rev (n : Nat) : Builtin.Slice.slicePlaces ((n : Int) - 1) (-1) (-1) = n := by
  unfold Builtin.Slice.slicePlaces
  rw [if_neg (by decide)]
  by_cases h : (n : Int) - 1 > -1
  · rw [if_pos h, show (-(-1) : Int) = 1 by decide, Int.ediv_one]
    omega
  · rw [if_neg h]
    omega
theorem sliceApplied_rev {sl : Addr} {vl vu vs : Value} {n : Nat} {Q : Int × Int × Nat → Shared → Prop} (hs : s.heap.IsSliceOf sl vl vu vs) (pl : IsPart vl none) (pu : IsPart vu none) (ps : IsPart vs (some (-1)))
    (h : Q ((n : Int) - 1, -1, n) s) : wpAny (model prog w) A (Builtin.Slice.sliceApplied (.ref sl) (pure (n : Int))) Q E s := by
  obtain ⟨os, hos, hcs, hds⟩ := id hs
  unfold Builtin.Slice.sliceApplied Builtin.Slice.sliceFields
  refine wpAny_bind (wpAny_bind (wpAny_field hos hds (x := vl) rfl (wpAny_bind (wpAny_field hos hds (x := vu) rfl (wpAny_bind (wpAny_field hos hds (x := vs) rfl (wpAny_pure ?_)))))))
  refine wpAny_bind (HT.slicePart_ ps ?_)
  show wpAny _ _ (if ((-1 : Int) == 0) = true then _ else _) _ _ s
  rw [if_neg (by decide)]
  refine wpAny_bind (HT.slicePart_ pl (wpAny_bind (HT.slicePart_ pu (wpAny_bind (wpAny_pure ?_)))))
  show wpAny _ _ (pure ((n : Int) - 1, (-1 : Int), Builtin.Slice.slicePlaces ((n : Int) - 1) (-1) (-1))) _ _ s
  rw [places_rev]
  exact wpAny_pure h
theorem getItem_tuple_rev {t sl : Addr} {items : Array Value} {vl vu vs : Value} {Q : Value → Shared → Prop} (ht : IsTup s.heap t items) (hs : s.heap.IsSliceOf sl vl vu vs) (pl : IsPart vl none) (pu : IsPart vu none) (ps : IsPart vs (some (-1)))
    (h : Q (.ref s.heap.objs.size) { s with heap := s.heap.push { cls := .type "tuple", data := .seq items.toList.reverse.toArray } })
    (hsz : items.size ≤ sizeLine) : wpAny (model prog w) A (getItem (.ref t) (.ref sl)) Q E s := by
  have htake : sizeOk (.seq items.toList.reverse.toArray) := by
    show items.toList.reverse.toArray.size ≤ sizeLine
    rw [List.size_toArray, List.length_reverse, Array.length_toList]
    omega
  obtain ⟨os, hos, hcs, hds⟩ := id hs
  have hTs : s.TypeIs (.ref sl) "slice" := ⟨os, hos, hcs⟩
  unfold getItem
  try with_reducible refine wpAny_holding ?_
  first | refine wpAny_bind (wpAny_pure ?_) | skip
  refine wpAny_bind (wpAny_sequenceKey ht.typeIs (by decide) ?_)
  refine wpAny_bind (wpAny_callSpecial?_slot (name := Str.ofString "__getitem__") ht.typeIs PyProof.Rows.slot_tuple_getitem
    (wpAny_call_entry PyProof.Rows.slot_tuple_getitem ht.typeIs entry_tuple_getitem ?_ (args_tuple_getitem _ _)))
  show wpAny _ _ (Builtin.Tuple.tupleItemsOf (.ref t) >>= _) _ _ s
  refine wpAny_bind (tupleItemsOf_ ht ?_)
  refine wpAny_bind (wpAny_typeOf hTs ?_)
  rw [if_pos (by decide)]
  refine wpAny_bind (sliceApplied_rev hs pl pu ps ?_)
  have hno : ¬ (((((items.size : Nat) : Int) - 1) == 0 && (-1 : Int) == 1 && items.size == items.size) = true) := by
    intro q
    rw [Bool.and_eq_true, Bool.and_eq_true] at q
    exact absurd (eq_of_beq q.1.2) (by decide)
  show wpAny _ _ (if ((((items.size : Nat) : Int) - 1) == 0 && (-1 : Int) == 1 && items.size == items.size) = true then _ else _) _ _ s
  have ep : ((List.range items.size).filterMap fun (k : Nat) => items[(((items.size : Nat) : Int) - 1 + (k : Int) * (-1)).toNat]?).toArray = items.toList.reverse.toArray := by
    have e : ((List.range items.size).filterMap fun (k : Nat) => items[(((items.size : Nat) : Int) - 1 + (k : Int) * (-1)).toNat]?) = ((List.range items.size).map fun k => items.size - 1 - k).filterMap (items[·]?) := by
      rw [List.filterMap_map]
      refine fm_congr fun k hk => ?_
      have := List.mem_range.mp hk
      show items[(((items.size : Nat) : Int) - 1 + (k : Int) * (-1)).toNat]? = items[items.size - 1 - k]?
      congr 1
      omega
    rw [e, PySem.W.krv_range, List.filterMap_reverse, PySem.W.krv_all]
  rw [if_neg hno, ep]
  first
    | exact wpAny_bind (m := Builtin.Tuple.tupleExact _) (wpAny_newObj_type (wpAny_pure ⟨_, rfl, wpAny_pure h⟩) htake)
    | exact wpAny_bind (m := Builtin.Tuple.tupleExact _) (wpAny_newObj_type (wpAny_bind (wpAny_pure (wpAny_pure ⟨_, rfl, wpAny_pure h⟩))) htake)
    | exact wpAny_bind (wpAny_bind (m := Builtin.Tuple.tupleExact _) (wpAny_newObj_type (wpAny_pure (wpAny_pure ⟨_, rfl, wpAny_pure h⟩)) htake))
    | exact wpAny_bind (wpAny_bind (m := Builtin.Tuple.tupleExact _) (wpAny_newObj_type (wpAny_pure ⟨_, rfl, wpAny_pure h⟩) htake))
end
def rRevTX (K : PySem.W.Frag) (x : V) (H : Hp) (Q : VK) : Prop := ∃ a xs, x = .ref a ∧ SqT K H a xs ∧ ∀ p, H p = none → Q (.ref p) (upd H p (.tup xs.reverse))
def tRevT (K : PySem.W.Frag) (te : TE) : TE := fun σ H Q => te σ H fun x H1 => rRevTX K x H1 Q
theorem pe_revT {X : Cx} {e : Expr} {te : TE} {k : Nat} {p1 p2 p3 pos : Pos} (he : PE X e te) : PE X (.Subscript e (.Slice none none (some (.UnaryOp .USub (.Constant (.int 1) k p1) p2)) p3) pos) (tRevT X.K te) := by
  refine ⟨fun pins s σ H Q I h => ?_⟩
  refine Subscript_ (thn (he.run pins s σ H _ I h) fun v s1 ⟨x, H1, I1, r1, q1⟩ => ?_)
  obtain ⟨a, xs, ex, hx, q⟩ := q1
  subst ex
  cases r1
  have hst : PO X (some (.UnaryOp .USub (.Constant (.int 1) k p1) p2)) (tPart (tUn (rU fun i => .int (-i)) (tC (.int 1)))) := po_some (pe_un un_neg pe_int)
  refine wpAny_Slice (thn (po_none.run pins s1 σ H1 (fun o H2 => o = none ∧ H2 = H1) I1 ⟨rfl, rfl⟩) fun vl s2 ⟨l, H2, I2, pl, el, e2⟩ => ?_)
  subst el e2
  refine thn (po_none.run pins s2 σ H2 (fun o H3 => o = none ∧ H3 = H2) I2 ⟨rfl, rfl⟩) fun vu s3 ⟨u, H3, I3, pu, eu, e3⟩ => ?_
  subst eu e3
  refine thn (hst.run pins s3 σ H3 (fun o H4 => o = some (-1) ∧ H4 = H3) I3 ⟨1, rfl, -1, rfl, rfl, rfl⟩) fun vs s4 ⟨o, H4, I4, ps, eo, e4⟩ => ?_
  subst eo e4
  have I5 : Inv X pins σ H4 { s4 with heap := s4.heap.push { cls := .type "slice", data := .fields #[vl, vu, vs] } } := I4.kept (t' := s4.toks) fun b ob q => Heap.get?_push_of_some _ q
  obtain ⟨its, r, ht, hz⟩ := I5.tuple hx
  have hlen := r.length
  show wpAny (model X.prog X.w) X.A (subscriptTail e (.Slice none none (some (.UnaryOp .USub (.Constant (.int 1) k p1) p2)) p3) (.ref a) (.ref s4.heap.objs.size)) (EP X pins σ Q) X.xe { s4 with heap := s4.heap.push { cls := .type "slice", data := .fields #[vl, vu, vs] } }
  refine tail_any (ops := [.ref a, .ref s4.heap.objs.size]) ht.typeIs (PyProof.Rows.slot_tuple_getitem.lookup) ?_ (by with_unfolding_all rfl)
  refine getItem_tuple_rev ht (Heap.IsSliceOf.new _ vl vu vs) pl pu ps ?_ (by rw [List.size_toArray]; omega)
  refine ⟨.ref _, _, I5.laid (t' := s4.toks) (o := .tup xs.reverse) (fun b ob q => Heap.get?_push_of_some _ q) (Nat.le_refl _) ?_, rfl, q _ (I5.hok.fresh (Nat.le_refl _))⟩
  exact ⟨by rw [List.length_reverse]; exact hz, _, r.reverse, IsTup.new _ _⟩
theorem k_revT {K : PySem.W.Frag} {te : TE} {σ : L2.St} {H : Hp} {Q : VK} (q : te σ H fun x H1 => rRevTX K x H1 Q) : tRevT K te σ H Q := q
theorem k_revTx {K : PySem.W.Frag} {a : Addr} {xs : List V} {H : Hp} {Q : VK} (h : SqT K H a xs) (q : ∀ p H2, H p = none → Same H H2 → H2 p = some (.tup xs.reverse) → Q (.ref p) H2) : rRevTX K (.ref a) H Q := ⟨a, xs, rfl, h, fun p hp => q p _ hp (same_new hp) upd_same⟩
theorem pe_slStepK {K : PySem.W.Frag} {X : Cx} {e : Expr} {lo hi : Option Expr} {te : TE} {tl th : TO} {c : Int} {k : Nat} {p1 p3 pos : Pos} (hK : X.K = K) (he : PE X e te) (hl : PO X lo tl) (hu : PO X hi th) (c0 : 0 < c) : PE X (.Subscript e (.Slice lo hi (some (.Constant (.int c) k p1)) p3) pos) (tSlSt K te tl th c) := hK ▸ pe_slStep he hl hu c0
theorem pe_revTK {K : PySem.W.Frag} {X : Cx} {e : Expr} {te : TE} {k : Nat} {p1 p2 p3 pos : Pos} (hK : X.K = K) (he : PE X e te) : PE X (.Subscript e (.Slice none none (some (.UnaryOp .USub (.Constant (.int 1) k p1) p2)) p3) pos) (tRevT K te) := hK ▸ pe_revT he
end Gx
/-! ### an error that leaves a list comprehension -/
namespace Gx
open PySem PySem.Spec PyProof.Rows L2
theorem noteFrame_frame {e : Value} {a b : Env} (h : a.frame = b.frame) : noteFrame e a = noteFrame e b := by
  unfold noteFrame PySem.frameOf
  rw [h]
theorem passOn_frame {α : Type} {what : String} {e : Value} {a b : Env} (h : a.frame = b.frame) : (passOn what e a : Sem α) = passOn what e b := by
  unfold PySem.passOn
  rw [h]
section
variable {M : Model} {A : Around} {E : Value → Shared → Prop} {s : Shared} {env : Env}
def compPostE (M : Model) (A : Around) (E : Value → Shared → Prop) (use : Option (Value → Sem Unit)) (Q : Value → Shared → Prop) (acc : Value) (cenv : Env) (r : Result) (s' : Shared) : Prop :=
  match r, use with
  | .ok _, none => ∃ m, s'.heap.Ns cenv.locals m ∧ ∀ h', Heap.SameBut cenv.locals s'.heap h' → Q acc { s' with heap := h' }
  | .ok _, some u => wpAny M A (u acc) (fun _ s'' => ∃ m, s''.heap.Ns cenv.locals m ∧ ∀ h', Heap.SameBut cenv.locals s''.heap h' → Q .none { s'' with heap := h' }) E s'
  | .error x, _ => ∃ m, s'.heap.Ns cenv.locals m ∧ ∀ h', Heap.SameBut cenv.locals s'.heap h' → wpAny M A (passOn "comprehension.variables-let-go" x cenv : Sem Value) (fun _ _ => False) E { s' with heap := h' }
theorem comp_freeE {e : Expr} {scope : Scope} {pos : Pos} {newAcc first : Sem Value} {g : Comprehension} {gs : List Comprehension} {cl : List (Str × Addr)} {use : Option (Value → Sem Unit)}
    {Q : Value → Shared → Prop}
    (hcl : clausesOf e = g :: gs) (hs : ∀ x, foldedSetIterable g.iter env x = pure x) (hclos : closureFor scope env = pure cl)
    (hkind : scope.kind = .function) (hnames : ∀ x ∈ scope.names, x.2 = .local → scope.names.lookup x.1 = some .local)
    (h : wpAny M A first (fun x s₁ => wpAny M A (pyIter x) (fun it s₂ => wpAny M A newAcc (fun acc s₃ =>
      wpAny M A (newFunctionEnv scope env.globals cl [] env.qual none .none (some env)) (fun cenv s₄ =>
        codeAny M A (.compStart e 0 it acc { cenv with scope := relabel scope env }) (compPostE M A E use Q acc { cenv with scope := relabel scope env }) s₄) E s₃) E s₂) E s₁) E s) :
    wpAny M A (comprehension e scope env pos newAcc false first use) Q E s := by
  unfold comprehension
  rw [hclos, hcl]
  refine wpAny_bind (wpAny_mono h (fun x s₁ h₁ => wpAny_bind (wpAny_standAt (wpAny_bind (wpAny_of_eq (hs x) (wpAny_bind (wpAny_holding (wpAny_mono h₁ (fun it s₂ h₂ =>
    wpAny_standIf (wpAny_bind (wpAny_mono h₂ (fun acc s₃ h₃ => wpAny_bind (wpAny_pure (wpAny_bind (wpAny_mono h₃ (fun cenv s₄ h₄ => ?_) fun _ _ h' => h')))) fun _ _ h' => h')))
      fun _ _ h' => h'))))))) fun _ _ h' => h')
  dsimp only
  have hv : ∀ x ∈ (scope.names.filter fun x => (x.2 == .local || x.2 == .cell) && x.1 != (".0" : Str)).reverse, x.2 = .local →
      Env.kindOf { cenv with scope := relabel scope env } x.1 = some .local := fun x hx hl => lookup_relabel_local (hnames x (List.mem_filter.mp (List.mem_reverse.mp hx)).1 hl)
  have hv' : ∀ x ∈ (scope.names.filter fun x => (x.2 == .local || x.2 == .cell) && x.1 != (".0" : Str)).reverse.drop 1 ++ (scope.names.filter fun x => (x.2 == .local || x.2 == .cell) && x.1 != (".0" : Str)).reverse.take 1,
      x.2 = .local → Env.kindOf { cenv with scope := relabel scope env } x.1 = some .local := fun x hx hl => by
    rcases List.mem_append.mp hx with h1 | h1
    · exact hv x (List.mem_of_mem_drop h1) hl
    · exact hv x (List.mem_of_mem_take h1) hl
  refine wpAny_holding (wpAny_bind (wpAny_attempt (wpAny_holding (wpAny_run (codeAny_mono h₄ fun r s' hr => ?_)))))
  cases r with
  | ok f =>
    cases use with
    | none =>
      obtain ⟨m, hn, hr⟩ := hr
      exact wpAny_bind (wpAny_holding (wpAny_comp_letGo (cenv := { cenv with scope := relabel scope env }) hkind _ s' m hv hn fun h' m' _ hs' => wpAny_pure (hr h' hs')))
    | some u =>
      refine wpAny_bind (wpAny_rule (wpAny_bind (wpAny_holding (wpAny_mono hr (fun _ s'' hr' => ?_) fun _ _ h' => h'))))
      obtain ⟨m, hn, hr'⟩ := hr'
      exact wpAny_bind (wpAny_comp_letGo (cenv := { cenv with scope := relabel scope env }) hkind _ s'' m hv' hn fun h' m' _ hs' => wpAny_pure (hr' h' hs'))
  | error x =>
    have hr' : ∃ m, s'.heap.Ns cenv.locals m ∧ ∀ h', Heap.SameBut cenv.locals s'.heap h' → wpAny M A (passOn "comprehension.variables-let-go" x { cenv with scope := relabel scope env } : Sem Value) (fun _ _ => False) E { s' with heap := h' } := by cases use <;> exact hr
    obtain ⟨m, hn, hr⟩ := hr'
    exact wpAny_bind (wpAny_holding (wpAny_comp_letGo (cenv := { cenv with scope := relabel scope env }) hkind _ s' m hv hn fun h' m' _ hs' => wpAny_mono (hr h' hs') (fun _ _ f => f.elim) fun _ _ y => y))
end
/-- an error in the air of a block, let out by a call -/
def XB (Y : Cx) (E : XK) (u : Value) (s' : Shared) : Prop :=
  ∃ (a : Addr) (B : Heap) (sI : Shared) (pins : List (Addr × Obj)) (σ : L2.St) (H : Hp) (cls : Value) (d : Option Addr),
    u = .ref a ∧ Inv Y pins σ H sI ∧ (∀ b o, sI.heap.get? b = some o → b ∉ frs Y.stack → B.get? b = some o) ∧ sI.heap.UpToSlots s'.heap ∧
      HandSPX.FlyingZ B Y.stack a (Zc cls d) s'.heap ∧ H a = none ∧ s'.os = sI.os ∧ AllBare s'.gens ∧ E cls d H
theorem XB.of_call {X : Cx} {pins : List (Addr × Obj)} {σ : L2.St} {H : Hp} {s s' : Shared} {E : XK} (I : Inv X pins σ H s) {u : Value} (c : CX X.prog X.w X.stack H s E u s') : XB X E u s' := by
  obtain ⟨a, B, H', cls, d, rfl, fl, hok, ub, na, os, ag, hE⟩ := c
  obtain ⟨G, g1, g2⟩ := restrict s'.heap fun b => (B.get? b).isSome || decide (b ∈ frs X.stack)
  have st : B.StaysIn s'.heap := fl.1
  have gB : ∀ b o, B.get? b = some o → G.get? b = some o := fun b o e => by
    rw [g1 b (by simp [e])]
    exact st b o e
  have gF : ∀ b, b ∈ frs X.stack → G.get? b = s'.heap.get? b := fun b hb => g1 b (by simp [hb])
  have og : ∀ b o, G.get? b = some o → s'.heap.get? b = some o ∧ ((B.get? b).isSome = true ∨ b ∈ frs X.stack) := fun b o e => by
    cases q : ((B.get? b).isSome || decide (b ∈ frs X.stack)) with
    | false => rw [g2 b q] at e; cases e
    | true =>
      rw [g1 b q] at e
      exact ⟨e, by simpa [Bool.or_eq_true] using q⟩
  refine ⟨a, B, { s with heap := G, gens := s'.gens, drawn := s'.drawn, toks := s'.toks }, pins, σ, H', cls, d, rfl, ?_, fun b o e hb => ?_, Heap.UpToSlots.of_keeps fun b o e => (og b o e).1, fl, na, os, ag, hE⟩
  · refine I.call (ch := []) ⟨fun b o e n hb _ => gB b o (ub.keep b o e n hb), fun b o e n hb _ => ?_, fun b o e n _ => ub.free b o e n, fun b o e _ => ?_, ub.tups, ub.frzs, ub.tbls⟩ (hok.kept gB) ag (fun _ z => nomatch z)
    · obtain ⟨sl, q⟩ := ub.slot b o e hb
      exact ⟨sl, by rw [gF b hb]; exact q⟩
    · by_cases hb : b ∈ frs X.stack
      · obtain ⟨sl, q⟩ := ub.slot b o e hb
        exact ⟨_, by rw [gF b hb]; exact q⟩
      · obtain ⟨o', q⟩ := ub.there b o e hb
        exact ⟨o', gB b o' q⟩
  · obtain ⟨e', h⟩ := og b o e
    rcases h with h | h
    · obtain ⟨o', q⟩ := Option.isSome_iff_exists.mp h
      have z := st b o' q
      rw [e'] at z; cases z
      exact q
    · exact absurd h hb
/-- the block's context where an element may let an error out -/
abbrev blkE (X : Cx) (s : Shared) (H : Hp) (scope : Scope) (cenv : Env) (fp : List Addr) (E : XK) : Cx := (X.blk s H scope cenv fp).tr [] (XB (X.blk s H scope cenv fp) E)
theorem inv_toE {X : Cx} {s s' : Shared} {H H' : Hp} {scope : Scope} {cenv : Env} {fp : List Addr} {E : XK} {pins : List (Addr × Obj)} {σ : L2.St} (I : Inv (X.blk s H scope cenv fp) pins σ H' s') : Inv (blkE X s H scope cenv fp E) pins σ H' s' :=
  ⟨I.ok.toTry _ _, I.os, I.bare, I.base, I.loc, I.cell, I.free, I.freeC, I.pin, I.hok, I.len⟩
theorem inv_ofE {X : Cx} {s s' : Shared} {H H' : Hp} {scope : Scope} {cenv : Env} {fp : List Addr} {E : XK} {pins : List (Addr × Obj)} {σ : L2.St} (I : Inv (blkE X s H scope cenv fp E) pins σ H' s') : Inv (X.blk s H scope cenv fp) pins σ H' s' :=
  ⟨I.ok.ofTry, I.os, I.bare, I.base, I.loc, I.cell, I.free, I.freeC, I.pin, I.hok, I.len⟩
theorem passB {X : Cx} {s : Shared} {H : Hp} {scope : Scope} {cenv : Env} {fp : List Addr} {E : XK} : Passes (L2.CX X.prog X.w) (blkE X s H scope cenv fp E) E := fun _ _ _ _ _ _ I c => XB.of_call (inv_ofE I) c
theorem funFrames_but {h h' B B' : Heap} {C : Addr} : ∀ {l : List Env}, h.FunFrames B l → (∀ L ∈ frs l, L ≠ C) → (∀ b o, b ≠ C → h.get? b = some o → h'.get? b = some o) → (∀ b, B.get? b = none → B'.get? b = none) → h'.FunFrames B' l
  | [], _, _, _, _ => trivial
  | env :: l, ⟨hk, ⟨L, o, hf, hb, ho, hd⟩, hr⟩, hC, hh, hB =>
    ⟨hk, ⟨L, o, hf, hB L hb, hh L o (hC L (List.mem_filterMap.mpr ⟨env, List.mem_cons_self, hf⟩)) ho, hd⟩, funFrames_but hr (fun b hb => by
      obtain ⟨e, he, q⟩ := List.mem_filterMap.mp hb
      exact hC b (List.mem_filterMap.mpr ⟨e, List.mem_cons_of_mem _ he, q⟩)) hh hB⟩
/-- a block's error, back in the def -/
theorem XB.out {X : Cx} {pins : List (Addr × Obj)} {σ : L2.St} {H3 : Hp} {s3 s' : Shared} {scope : Scope} {ce : Env} {fp : List Addr} {EE : XK} {use : Option (Value → Sem Unit)} {Qf : Value → Shared → Prop} {acc : Value}
    (tk : Takes X (fun cls d _ H => EE cls d H)) (hs : X.stack = X.env :: X.outer) (hf : X.env.frame = some X.env.locals) (I3 : Inv X pins σ H3 s3) (cf : ce.frame = X.env.frame) (cL : ce.locals = s3.heap.objs.size)
    (f3 : ∀ b ∈ fp, (b ∈ X.ex ∨ X.s_0.heap.objs.size ≤ b) ∧ b ≠ X.env.locals ∧ (∀ x c, X.env.cells.lookup x = some c → c ≠ b) ∧ ∀ p ∈ X.pn ++ pins, p.1 ≠ b) {u : Value} (x : XB (X.blk s3 H3 scope ce fp) EE u s') :
    notedBy (model X.prog X.w) X.A ce (fun e s'' => compPostE (model X.prog X.w) X.A X.xe use Qf acc ce (.error e) s'') u s' := by
  obtain ⟨a, B, sI, pins', σ', H', cls, d, rfl, J, nb, up, fl, na, os, ag, w⟩ := x
  have hfr : X.A.frames = some (X.env :: X.outer) := by rw [I3.ok.frames, hs]
  have fl' : HandSPX.FlyingZ B (X.env :: X.outer) a (Zc cls d) s'.heap := by rw [← hs]; exact fl
  show wpAny _ X.A (noteFrame (.ref a) ce) _ _ _
  rw [noteFrame_frame cf]
  refine HandSPX.looks_onZ Zc.steady hfr hf fl' fun h3 hh3 up3 => ?_
  obtain ⟨m, hn, _⟩ := J.loc
  have hn : sI.heap.Ns ce.locals m := hn
  have hn3 : h3.Ns ce.locals m := up3.ns (up.ns hn)
  have goal : ∃ m, h3.Ns ce.locals m ∧ ∀ h', Heap.SameBut ce.locals h3 h' → wpAny (model X.prog X.w) X.A (passOn "comprehension.variables-let-go" (.ref a) ce : Sem Value) (fun _ _ => False) X.xe { s' with heap := h' } := by
    refine ⟨m, hn3, fun h4 sb => ?_⟩
    have nC : H' ce.locals = none := J.free
    -- everything but the block's own names
    obtain ⟨G, g1, g2⟩ := restrict sI.heap fun b => decide (b ≠ ce.locals)
    obtain ⟨B', b1, b2⟩ := restrict B fun b => decide (b ≠ ce.locals)
    have gG : ∀ b o, b ≠ ce.locals → sI.heap.get? b = some o → G.get? b = some o := fun b o n e => by rw [g1 b (decide_eq_true n)]; exact e
    have oG : ∀ b o, G.get? b = some o → b ≠ ce.locals ∧ sI.heap.get? b = some o := fun b o e => by
      by_cases n : b = ce.locals
      · rw [g2 b (by simp [n])] at e; cases e
      · rw [g1 b (decide_eq_true n)] at e
        exact ⟨n, e⟩
    have oB : ∀ b o, B'.get? b = some o → b ≠ ce.locals ∧ B.get? b = some o := fun b o e => by
      by_cases n : b = ce.locals
      · rw [b2 b (by simp [n])] at e; cases e
      · rw [b1 b (decide_eq_true n)] at e
        exact ⟨n, e⟩
    have nB : ∀ b, B.get? b = none → B'.get? b = none := fun b e => by
      cases q : B'.get? b with
      | none => rfl
      | some o => rw [(oB b o q).2] at e; cases e
    have stF : ∀ b ∈ frs X.stack, b ≠ ce.locals := fun b hb => by
      obtain ⟨_, o, e, _⟩ := I3.stack.mem hb
      rw [cL]
      exact Nat.ne_of_lt (Heap.lt_size e)
    have stF' : ∀ b ∈ frs (X.env :: X.outer), b ≠ ce.locals := fun b hb => stF b (by rw [hs]; exact hb)
    have h34 : ∀ b o, b ≠ ce.locals → h3.get? b = some o → h4.get? b = some o := fun b o n e => (sb.2 b n).trans e
    obtain ⟨od, es, ep, hC3, hCd, _⟩ := hn3
    have rec_ne : ∀ {b : Addr} {o : Obj} {vs : Array Value}, h3.get? b = some o → o.data = .fields vs → b ≠ ce.locals := fun {b o vs} e q z => by
      rw [z, hC3] at e
      cases e
      rw [hCd] at q
      cases q
    obtain ⟨k1, k2, k3, oe, vs, T, oT, ts, he, hz, hd, h1, hnT, hTe, hT, hdT, ht⟩ := hh3
    have hh4 : HandSPX.HeldZ B' (X.env :: X.outer) a (Zc cls d) X.env.locals h4 :=
      ⟨fun b o e => h34 b o (oB b o e).1 (k1 b o (oB b o e).2), nB a k2, funFrames_but k3 stF' h34 nB, oe, vs, T, oT, ts, h34 a oe (rec_ne he hd) he, hz, hd, h1, nB T hnT, hTe, h34 T oT (rec_ne hT hdT) hT, hdT, ht⟩
    rw [passOn_frame cf]
    unfold PySem.passOn
    refine wpAny_bind (wpAny_field (h34 a oe (rec_ne he hd) he) hd h1 ?_)
    rw [if_neg (show ¬ ((Value.ref T == Value.none) = true) from by simp)]
    have fin : wpAny (model X.prog X.w) X.A (setFlight (.ref a) X.env.frame) (fun _ s4 => wpAny (model X.prog X.w) X.A (throw (.ref a) : Sem Value) (fun _ _ => False) X.xe s4) X.xe { s' with heap := h4 } := by
      rw [hf]
      refine HandSPX.setFlight_onZ hh4 fun h5 hh5 up5 => wpAny_throw (tk _ _ ?_)
      refine ⟨a, B', { sI with heap := G }, pins, σ, H', cls, d, rfl, ?_, fun b o e hb => ?_, fun b o e hnf => ?_, .inr (.inr (by rw [hs]; exact hh5)), na, os, ag, w⟩
      · have ub : Un (frs X.stack) fp H3 H' s3.heap sI.heap := J.base
        have lt : ∀ b o, s3.heap.get? b = some o → b ≠ ce.locals := fun b o e z => by
          have := Heap.lt_size e
          rw [z, cL] at this
          exact Nat.lt_irrefl _ this
        refine I3.call' (ch := fp) J.os ⟨fun b o e n hb hx => gG b o (lt b o e) (ub.keep b o e n hb hx), fun b o e n hb hx => ?_, ub.free, fun b o e hx => ?_, ub.tups, ub.frzs, ub.tbls⟩ (fun b o q => (J.hok b o q).stay (fun c v hc r => gG c v (fun z => ?_) r) (fun _ r => r) fun _ _ r => r) J.bare f3
        · obtain ⟨sl, q⟩ := ub.slot b o e n hb hx
          exact ⟨sl, gG _ _ (lt b o e) q⟩
        · obtain ⟨o', q⟩ := ub.there b o e hx
          exact ⟨o', gG _ _ (lt b o e) q⟩
        · rcases hc with hc | hc
          · rw [← hc, z, nC] at q; cases q
          · rw [z, nC] at hc; cases hc
      · obtain ⟨n, e1⟩ := oG b o e
        rw [b1 b (decide_eq_true n)]
        exact nb b o e1 hb
      · obtain ⟨n, e1⟩ := oG b o e
        obtain ⟨sl, e2⟩ := up b o e1 hnf
        obtain ⟨sl3, e3⟩ := up3 b _ e2 hnf
        obtain ⟨sl5, e5⟩ := up5 b { o with slots := sl3 } (h34 b { o with slots := sl3 } n e3) hnf
        exact ⟨sl5, e5⟩
    first
      | exact wpAny_bind (wpAny_pure (wpAny_bind fin))
      | exact wpAny_bind fin
  cases use <;> exact goal
section
variable {X : Cx}
theorem lcE_core {pins : List (Addr × Obj)} {s : Shared} {σ : L2.St} {H : Hp} {Q : VK} {EE : XK} {elt tg iter : Expr} {ifs : List Expr} {scope : Scope} {own : List (Str × Nat)} {pos pos' : Pos} {wi : TI} {g : TG} {tt : TT} {te : TE} {use : Option (Value → Sem Unit)} {Qf : Value → Shared → Prop}
    (tk : Takes X (fun cls d _ H => EE cls d H)) (hst : X.stack = X.env :: X.outer) (hfm : X.env.frame = some X.env.locals)
    (hc : X.calm = true) (hN : X.N.Nodup) (I : Inv X pins σ H s) (hi : PI X tg iter wi) (ok : BlkOk X.N X.env.scope scope own)
    (hg : ∀ (s : Shared) (H : Hp) (C : Addr) (cl : List (Str × Addr)) (fp : List Addr), PG (X.blk s H scope (compEnvC scope cl C X.env) fp) tg g) (ht : ∀ (s : Shared) (H : Hp) (C : Addr) (cl : List (Str × Addr)) (fp : List Addr), PTs (X.blk s H scope (compEnvC scope cl C X.env) fp) ifs tt)
    (he : ∀ (s : Shared) (H : Hp) (C : Addr) (cl : List (Str × Addr)) (fp : List Addr), PE (blkE X s H scope (compEnvC scope cl C X.env) fp EE) elt te) (hs : ∀ x, foldedSetIterable iter X.env x = pure x)
    (h : tLc wi g tt te (own.map (·.2)) σ H Q)
    (hRR : ∀ D ce s' m H', Inv X pins σ H' s' → Q (.ref D) H' → s'.heap.Ns ce.locals m → FpOk X pins H' ce.locals → compPostE (model X.prog X.w) X.A X.xe use Qf (.ref D) ce (.ok .next) s') :
    wpAny (model X.prog X.w) X.A (comprehension (.ListComp elt [⟨tg, iter, ifs, 0⟩] scope pos) scope X.env pos' (newList []) false (eval iter X.env) use) Qf X.xe s := by
  have hfree : ∀ y ∈ scope.names, y.2 = .free → ∃ c, X.env.cells.lookup y.1 = some c := fun y hy e => by
    rcases ok.free y hy e with k | k
    · exact I.ok.has _ (.inl k)
    · exact I.ok.has _ (.inr k)
  refine comp_freeE (use := use) rfl hs (closure_ok hfree) ok.kind (fun y hy e => by rw [ok.uniq y hy, e])
    (thn (hi.run pins s σ H _ I h) fun xv s1 hx => thn hx fun itv s2 h2 => ?_)
  obtain ⟨it, fp, tn, J, H2, e, I2, T, st2, f2, q⟩ := h2
  subst e
  refine wpAny_newObj_type (newEnv_comp ?_) (by show 0 ≤ sizeLine; decide)
  generalize hD : s2.heap.objs.size = D
  have hDn : H2 D = none := I2.hok.fresh (Nat.le_of_eq hD)
  obtain ⟨W, ⟨m0, w0⟩, turn⟩ := q D hDn
  -- the new list
  generalize hs3 : ({ s2 with heap := s2.heap.push { cls := .type "list", data := .seq ([] : List Value).toArray } } : Shared) = s3
  have I3 : Inv X pins σ (upd H2 D (.lst [])) s3 := by
    rw [← hs3]
    refine I2.laid (t' := s2.toks) (fun b o e => Heap.get?_push_of_some _ e) (Nat.le_of_eq hD) ⟨Nat.zero_le _, [], 0, .nil, ?_⟩
    rw [← hD]
    exact Heap.get?_push_size _ rfl
  have h3 : s3.heap = s2.heap.push { cls := .type "list", data := .seq ([] : List Value).toArray } := by rw [← hs3]
  have sz : ∀ b ∈ fp, b < s2.heap.objs.size := fun b hb => by
    obtain ⟨o, e, _⟩ := T.obj _ _ st2 b hb
    exact Heap.lt_size e
  have f3 : ∀ b ∈ fp, FpOk X pins (upd H2 D (.lst [])) b ∧ b < s3.heap.objs.size := fun b hb => by
    have hlt := sz b hb
    refine ⟨⟨?_, (f2 b hb).2⟩, by rw [h3, Heap.size_push]; exact Nat.lt_succ_of_lt hlt⟩
    rw [upd_ne (by rw [← hD]; exact Nat.ne_of_lt hlt)]
    exact (f2 b hb).1
  have st3 : tn 0 s3.heap := T.keep _ _ _ st2 fun b _ o e => by rw [h3]; exact Heap.get?_push_of_some _ e
  have I4 := block_start I3 ok hN f3
  have pg := hg s3 (upd H2 D (.lst [])) s3.heap.objs.size (cellsFrom (s3.heap.objs.size + 1) scope.names (cloFrom X.env.cells scope.names [])) fp
  have pt := ht s3 (upd H2 D (.lst [])) s3.heap.objs.size (cellsFrom (s3.heap.objs.size + 1) scope.names (cloFrom X.env.cells scope.names [])) fp
  have pe := he s3 (upd H2 D (.lst [])) s3.heap.objs.size (cellsFrom (s3.heap.objs.size + 1) scope.names (cloFrom X.env.cells scope.names [])) fp
  show codeAny _ _ (.compStart (.ListComp elt [⟨tg, iter, ifs, 0⟩] scope pos) 0 (.ref it) (.ref D) (compEnvC scope (cellsFrom (s3.heap.objs.size + 1) scope.names (cloFrom X.env.cells scope.names [])) s3.heap.objs.size X.env)) (compPostE (model X.prog X.w) X.A X.xe use Qf (.ref D) (compEnvC scope (cellsFrom (s3.heap.objs.size + 1) scope.names (cloFrom X.env.cells scope.names [])) s3.heap.objs.size X.env)) { s3 with heap := pushCells (s3.heap.push { cls := .type "dict", data := .dict #[] }) scope.names }
  have nfp : ∀ b ∈ fp, (upd H2 D (.lst [])) b = none := fun b hb => (f3 b hb).1.1
  generalize hce : compEnvC scope (cellsFrom (s3.heap.objs.size + 1) scope.names (cloFrom X.env.cells scope.names [])) s3.heap.objs.size X.env = ce at I4 pg pt pe ⊢
  have cL : ce.locals = s3.heap.objs.size := by subst hce; rfl
  have cf : ce.frame = X.env.frame := by subst hce; rfl
  generalize hH3 : upd H2 D (.lst []) = H3 at I3 I4 pg pt pe w0 nfp f3
  generalize hs4 : ({ s3 with heap := pushCells (s3.heap.push { cls := .type "dict", data := .dict #[] }) scope.names } : Shared) = s4 at I4 ⊢
  have st4 : tn 0 s4.heap := T.keep _ _ _ st3 fun b _ o e => by rw [← hs4]; exact pushCells_keeps _ _ _ _ (Heap.get?_push_of_some _ e)
  have stat : ∀ {σ' : L2.St} {H' : Hp} {s' : Shared}, Inv (X.blk s3 H3 scope ce fp) [] σ' H' s' → (∀ b ∈ fp, H' b = none) → ∀ b ∈ fp, FpOk (X.blk s3 H3 scope ce fp) [] H' b := fun {σ' H' s'} I' hn b hb =>
    ⟨hn b hb, (I'.ok.exf b hb).1, I'.ok.exfs b hb, .inl hb, fun x c e => (I'.ok.exf b hb).2 x c e, fun p hp => absurd (show p ∈ ([] : List (Addr × Obj)) ++ [] from hp) (by simp)⟩
  have f3' : ∀ b ∈ fp, (b ∈ X.ex ∨ X.s_0.heap.objs.size ≤ b) ∧ b ≠ X.env.locals ∧ (∀ x c, X.env.cells.lookup x = some c → c ≠ b) ∧ ∀ p ∈ X.pn ++ pins, p.1 ≠ b := fun b hb => ⟨(f3 b hb).1.2.2.2.1, (f3 b hb).1.2.1, (f3 b hb).1.2.2.2.2.1, (f3 b hb).1.2.2.2.2.2⟩
  have loop : codeAny (model X.prog X.w) X.A (.compLoop (.ListComp elt [⟨tg, iter, ifs, 0⟩] scope pos) 0 (.ref it) (.ref D) ce) (compPostE (model X.prog X.w) X.A X.xe use Qf (.ref D) ce) s4 := by
    refine compLoop_any (fun n s' => ∃ i H', Inv (X.blk s3 H3 scope ce fp) [] (wipe σ (own.map (·.2))) H' s' ∧ tn i s'.heap ∧ (∀ b ∈ fp, H' b = none) ∧ W i n H') ?_ m0 ⟨0, H3, I4, st4, nfp, w0⟩
    rintro n s5 ⟨i, H5, I5, st5, n5, w5⟩
    rcases turn i n H5 w5 with ⟨stop, qq⟩ | ⟨go, Nx, hNx, step⟩
    · have td := T.done (X.blk s3 H3 scope ce fp) rfl rfl rfl hc i [] s5 _ H5 (fun _ _ => False) I5 (stat I5 n5) st5 stop
      refine thnF td fun r s6 ⟨hr, I6⟩ => ?_
      subst hr
      have I7 : Inv X pins σ H5 s6 := I3.call' (ch := fp) I6.os I6.base I6.hok I6.bare f3'
      have nC : H5 s3.heap.objs.size = none := by
        have z : H5 ce.locals = none := I6.free
        rw [cL] at z
        exact z
      obtain ⟨m, hn, _⟩ := I6.loc
      have hn : s6.heap.Ns ce.locals m := hn
      exact hRR D ce s6 m H5 I7 qq hn (by rw [cL]; exact I3.fpOk (Nat.le_refl _) nC)
    · have ti := T.item (X.blk s3 H3 scope ce fp) rfl rfl rfl hc i [] s5 _ H5 (fun _ _ => False) I5 (stat I5 n5) st5 go
      refine thnF ti fun r s6 ⟨u, hr, h6⟩ => ?_
      subst hr
      refine thnF h6 fun _ s7 ⟨x, H7, I7, r7, y7, st7, n7⟩ => ?_
      have I7' := I7.pinned (stat I7 n7) (T.obj _ _ st7)
      refine thnF (pg.run _ s7 _ H7 x u _ I7' r7 (step x H7 y7)) fun _ s8 ⟨σ8, H8, I8, hw8, q8⟩ => ?_
      refine thnF (pt.run _ s8 σ8 H8 _ I8 q8) fun b s9 ⟨H9, I9, q9⟩ => ?_
      have fin : ∀ {s' : Shared} {H' : Hp}, Inv (X.blk s3 H3 scope ce fp) ([] ++ pinsAt fp s7.heap) σ8 H' s' → Nx H' → ∃ m, m < n ∧ ∃ i H', Inv (X.blk s3 H3 scope ce fp) [] (wipe σ (own.map (·.2))) H' s' ∧ tn i s'.heap ∧ (∀ b ∈ fp, H' b = none) ∧ W i m H' := fun {s' H'} I' nx => by
        obtain ⟨m', hm, w'⟩ := hNx H' nx
        have pin' : ∀ b ∈ fp, ∀ o, s7.heap.get? b = some o → s'.heap.get? b = some o ∧ H' b = none := fun b hb o e =>
          let z := I'.pin (b, o) (List.mem_append_right _ (List.mem_append_right _ (mem_pinsAt hb e)))
          ⟨z.1, z.2.1⟩
        have hl : (wipe σ (own.map (·.2))).length = σ8.length := by rw [← hw8, wipe_length]
        refine ⟨m', hm, i + 1, H', (I'.unpinned (pins := [])).weak hl (fun j v e => ?_), T.keep _ _ _ st7 fun b hb o e => (pin' b hb o e).1, fun b hb => ?_, w'⟩
        · rw [← hw8] at e
          exact (wipe_some e).1
        · obtain ⟨o, e, _⟩ := T.obj _ _ st7 b hb
          exact (pin' b hb o e).2
      cases b with
      | false =>
        simp only [Bool.false_eq_true, if_false] at q9 ⊢
        exact fin I9 q9
      | true =>
        simp only [if_true] at q9 ⊢
        refine wpAny_mono (pe.run _ s9 σ8 H9 _ (inv_toE I9) q9) (fun z s10 ⟨yv, H10, I10, r10, acc, hD10, hz10, nx⟩ => ?_) fun u s10 xb => XB.out tk hst hfm I3 cf cL f3' xb
        exact app_ok (X := X.blk s3 H3 scope ce fp) (inv_ofE I10) hD10 hz10 r10 fun s11 I11 => fin I11 nx
  exact codeAny_compStart_list loop (T.self X.A 0 _ _ _ st4 loop)
/-- as a value -/
theorem pe_lcE {EE : XK} {elt tg iter : Expr} {ifs : List Expr} {scope : Scope} {own : List (Str × Nat)} {pos : Pos} {wi : TI} {g : TG} {tt : TT} {te : TE} (tk : Takes X (fun cls d _ H => EE cls d H)) (hst : X.stack = X.env :: X.outer) (hfm : X.env.frame = some X.env.locals) (hc : X.calm = true) (hN : X.N.Nodup) (hi : PI X tg iter wi) (ok : BlkOk X.N X.env.scope scope own)
    (hg : ∀ (s : Shared) (H : Hp) (C : Addr) (cl : List (Str × Addr)) (fp : List Addr), PG (X.blk s H scope (compEnvC scope cl C X.env) fp) tg g) (ht : ∀ (s : Shared) (H : Hp) (C : Addr) (cl : List (Str × Addr)) (fp : List Addr), PTs (X.blk s H scope (compEnvC scope cl C X.env) fp) ifs tt)
    (he : ∀ (s : Shared) (H : Hp) (C : Addr) (cl : List (Str × Addr)) (fp : List Addr), PE (blkE X s H scope (compEnvC scope cl C X.env) fp EE) elt te) (hs : ∀ x, foldedSetIterable iter X.env x = pure x := by intro _; rfl) :
    PE X (.ListComp elt [⟨tg, iter, ifs, 0⟩] scope pos) (tLc wi g tt te (own.map (·.2))) := by
  refine ⟨fun pins s σ H Q I h => ?_⟩
  rw [eval_ListComp]
  refine lcE_core tk hst hfm hc hN I hi ok hg ht he hs h fun D ce s' m H' I' q hn f => ⟨m, hn, fun h'' sb => ?_⟩
  obtain ⟨f0, f1, f2, f3, f4, f5⟩ := f
  exact ⟨.ref D, H', I'.turned (t' := s'.toks) (fun b o hb e => (sb.2 b hb).trans e) f0 f1 f3 f4 f5, rfl, q⟩
/-- name = [..] on one line, the name a local -/
theorem ps_setLcE {EE : XK} {i : Nat} {y : Str} {py : Pos} {elt tg iter : Expr} {ifs : List Expr} {scope : Scope} {own : List (Str × Nat)} {pos spos : Pos} {wi : TI} {g : TG} {tt : TT} {te : TE} (tk : Takes X (fun cls d _ H => EE cls d H)) (hst : X.stack = X.env :: X.outer) (hfm : X.env.frame = some X.env.locals) (hc : X.calm = true) (hN : X.N.Nodup) (hy : X.N[i]? = some y) (hyl : X.env.scope.names.lookup y = some .local)
    (hsw : swapsWith (.ListComp elt [⟨tg, iter, ifs, 0⟩] scope pos) (some (.Name y py)) spos.line X.env = pure true) (hi : PI X tg iter wi) (ok : BlkOk X.N X.env.scope scope own)
    (hg : ∀ (s : Shared) (H : Hp) (C : Addr) (cl : List (Str × Addr)) (fp : List Addr), PG (X.blk s H scope (compEnvC scope cl C X.env) fp) tg g) (ht : ∀ (s : Shared) (H : Hp) (C : Addr) (cl : List (Str × Addr)) (fp : List Addr), PTs (X.blk s H scope (compEnvC scope cl C X.env) fp) ifs tt)
    (he : ∀ (s : Shared) (H : Hp) (C : Addr) (cl : List (Str × Addr)) (fp : List Addr), PE (blkE X s H scope (compEnvC scope cl C X.env) fp EE) elt te) (hs : ∀ x, foldedSetIterable iter X.env x = pure x := by intro _; rfl) :
    PS X (.Assign [.Name y py] (.ListComp elt [⟨tg, iter, ifs, 0⟩] scope pos) spos) (tAsg (tLc wi g tt te (own.map (·.2))) (gName i)) := by
  refine ⟨fun pins s σ H D I h => ?_⟩
  rw [exec_Assign_Name_used _ _ _ _ hsw]
  refine wpAny_bind (wpAny_standAt (wpAny_bind ?_))
  show wpAny _ X.A (do let _ ← comprehension (.ListComp elt [⟨tg, iter, ifs, 0⟩] scope pos) scope X.env (firstIterPos [⟨tg, iter, ifs, 0⟩] pos) (newList []) false (eval iter X.env) (some (assign (.Name y py) X.env))) _ _ s
  have h : tLc wi g tt te (own.map (·.2)) σ H (fun x H1 => gName i x σ H1 D.nx) := h
  refine wpAny_bind (thn (lcE_core (Qf := fun _ s' => SP X pins D .next s') tk hst hfm hc hN I hi ok hg ht he hs h fun L ce s' m H' I' q hn f => ?_) fun _ s' hq => wpAny_pure (wpAny_pure hq))
  show wpAny _ _ (assign (.Name y py) X.env (.ref L)) _ _ _
  refine wpAny_assign_Name (store_ok2 (v := V.ref L) I' hN hy (.inl hyl) rfl (fun s2 I2 ⟨a, sb, ha⟩ => ?_) (.inr hyl))
  obtain ⟨f0, f1, f2, f3, f4, f5⟩ := f
  have haC : ce.locals ≠ a := by
    rcases ha with z | z
    · rw [z]; exact f1
    · exact fun e => f4 y a z e.symm
  refine ⟨m, hn.sameBut sb haC, fun h3 sb3 => ?_⟩
  exact ⟨_, H', I2.turned (t' := s2.toks) (fun b o hb e => (sb3.2 b hb).trans e) f0 f1 f3 f4 f5, q⟩
end
section
variable {X : Cx} {e o : Expr} {es : List Expr} {p pos apos : Pos} {ta : TE} {t : TA} {C m x : Str} {ps : List Str} {sp : Sp} {j k : Nat} {E : XK}
/-- calls in such a block -/
theorem pcallB (c : Cl X.prog X.w X.K X.mg X.base k x ps sp) (hr : Room j X.A) (hk : k ≤ j) (px : Passes (L2.CX X.prog X.w) X E) (ha : PA X (e :: es) t) (hg : Gl X x := by rfl)
    (he : starEach (e :: es) X.env = (false, eval e X.env) :: starEach es X.env := by rfl) (hpl : (backTo pos (starEach es X.env)).any (·.1) = false := by rfl) (hdb : (x == ("__debug__" : Str)) = false := by decide) :
    PE X (.Call (.Name x p) (e :: es) [] pos) (tCall sp [] E t) := by
  obtain ⟨f, fd, F, m, kp, b⟩ := c.ex
  exact pe_call F (hr.mono hk) hg m kp b .nil px ha hdb he hpl
theorem pmethB {pl : Sem Bool} {K : PySem.W.Frag} (hK : X.K = K) (c : MCl X.prog X.w K X.mg X.base k C m ps sp) (hr : Room j X.A) (hk : k ≤ j) (px : Passes (L2.CX X.prog X.w) X E) (he : PE X o ta) (ha : PA X (e :: es) t)
    (hst : starEach (e :: es) X.env = (false, eval e X.env) :: starEach es X.env := by rfl) (hpl : (backTo pos (starEach es X.env)).any (·.1) = false := by rfl)
    (ht : eval (.Call (.Attribute o m apos) (e :: es) [] pos) X.env = (do
      let ov ← eval o X.env
      standAt apos.atName
      let (f, first) ← holding [ov] (getMethod ov m pl)
      callWith pos f first (backTo pos (starEach (e :: es) X.env)) (backToKw pos (keywordEach [] X.env))) := by rfl) :
    PE X (.Call (.Attribute o m apos) (e :: es) [] pos) (tMethS (He.ga K C) m sp (fun _ => E) ta t) := by
  subst hK
  obtain ⟨f, fd, hc, hm, F, b⟩ := c.ex
  refine ⟨fun pins s σ H Q I h => (pe_meth (pl := pl) he hc hm F (hr.mono hk) b .nil px ha hst hpl ht).run pins s σ H Q I ?_⟩
  simp only [tMeth, List.append_nil]
  exact h
end
end Gx
/-! isinstance(e, (c, c2, ..)), e the error that a suite holds -/
namespace Gx
open PySem PySem.Spec PyProof.Rows L2
def rIsET (K : PySem.W.Frag) (a : Addr) (cls : Value) (d : Option Addr) : List V → Hp → VK → Prop := fun xs H Q => ∃ D : Addr, cls = .ref D ∧ (d = none ∨ ∃ dd fs, d = some dd ∧ H dd = some (.xd fs)) ∧ ExcC K D ∧
  ∃ (tp : Addr) (cs : List V) (us : List Value) (b : Bool), xs = [.ref a, .ref tp] ∧ H tp = some (.tup cs) ∧ PySem.Paired ClsV cs us ∧ PySem.W.kitAny K (.ref D) us = some b ∧ Q (.bl b) H
theorem call_isET {X : Cx} {a : Addr} {cls : Value} {d : Option Addr} {oe : Obj} {pn : List (Addr × Obj)} (hz : Zc cls d oe) (hf : ∃ vs, oe.data = .fields vs) : CallR (X.suite a ((a, oe) :: pn)) (.builtin "isinstance") (rIsET X.K a cls d) := by
  intro pins s σ H xs us Q I r h
  obtain ⟨D, rfl, hd, C, tp, cs, ws, b, rfl, hT, k, e, q⟩ := h
  obtain ⟨u1, u2, rfl, r1, r2⟩ := vals2 r
  cases (show u2 = Value.ref tp from r2)
  cases (show u1 = Value.ref a from r1)
  obtain ⟨_, its, rv, o, h1, h2, n, h3⟩ := (show ObjOk X.prog X.w H s.heap tp (.tup cs) from I.hok tp _ hT)
  have e3 := ClsV.all k rv
  subst e3
  obtain ⟨oc, od, dt, sl⟩ := o
  simp only at h2 h3
  subst h2 h3
  obtain ⟨hget, _⟩ := I.pin (a, oe) (List.mem_append.mpr (.inl List.mem_cons_self))
  obtain ⟨vs, hv⟩ := hf
  rcases hd with rfl | ⟨dd, fs, rfl, hdd⟩
  · have J : PySem.W.InstAt s.heap a oe D none := ⟨hget, hz.1, by unfold PySem.W.notCls; rw [hv] <;> rfl, by rw [hz.2]; exact trivial⟩
    exact PySem.W.kia_tup (PySem.W.kitx_exc (by obtain ⟨cd, hc, _⟩ := PySem.W.any_some C.hd; rw [hc]; rfl) C.hg C.hk C.hs C.ha C.hn C.ht C.hm) I.kIn J h1 e (fun z => nomatch z) fun tk => ⟨.bl b, H, I.kept (t' := tk) fun _ _ z => z, rfl, q⟩
  · have hx : ObjOk X.prog X.w H s.heap dd (.xd fs) := I.hok dd _ hdd
    obtain ⟨mA, hns, hr⟩ := hx
    obtain ⟨od, ho, hl⟩ := lookIn_ns hns
    have J : PySem.W.InstAt s.heap a oe D (some od) := ⟨hget, hz.1, by unfold PySem.W.notCls; rw [hv] <;> rfl, by rw [hz.2]; exact ho⟩
    exact PySem.W.kia_tup (PySem.W.kitx_exc (by obtain ⟨cd, hc, _⟩ := PySem.W.any_some C.hd; rw [hc]; rfl) C.hg C.hk C.hs C.ha C.hn C.ht C.hm) I.kIn J h1 e (fun z => nomatch z) fun tk => ⟨.bl b, H, I.kept (t' := tk) fun _ _ z => z, rfl, q⟩
theorem kany0 {K : PySem.W.Frag} {t : Value} : PySem.W.kitAny K t [] = some false := rfl
theorem kanyF {K : PySem.W.Frag} {t c : Value} {us : List Value} {b : Bool} (h : PySem.W.kitOne K t c = some false) (r : PySem.W.kitAny K t us = some b) : PySem.W.kitAny K t (c :: us) = some b := by
  show (match PySem.W.kitOne K t c with | some true => some true | some false => PySem.W.kitAny K t us | none => none) = some b
  rw [h]
  exact r
theorem kanyT {K : PySem.W.Frag} {t c : Value} {us : List Value} (h : PySem.W.kitOne K t c = some true) : PySem.W.kitAny K t (c :: us) = some true := by
  show (match PySem.W.kitOne K t c with | some true => some true | some false => PySem.W.kitAny K t us | none => none) = some true
  rw [h]
theorem k_isETD {K : PySem.W.Frag} {H : Hp} {Q : VK} {a D dd tp : Addr} {fs : List (Str × V)} {cs : List V} {us : List Value} {b : Bool} (h : H dd = some (.xd fs)) (C : ExcC K D) (ht : H tp = some (.tup cs)) (hp : PySem.Paired ClsV cs us) (hk : PySem.W.kitAny K (.ref D) us = some b) (q : Q (.bl b) H) : rIsET K a (.ref D) (some dd) [.ref a, .ref tp] H Q :=
  ⟨D, rfl, .inr ⟨dd, fs, rfl, h⟩, C, tp, cs, us, b, rfl, ht, hp, hk, q⟩
theorem k_isET {K : PySem.W.Frag} {H : Hp} {Q : VK} {a D tp : Addr} {cs : List V} {us : List Value} {b : Bool} (C : ExcC K D) (ht : H tp = some (.tup cs)) (hp : PySem.Paired ClsV cs us) (hk : PySem.W.kitAny K (.ref D) us = some b) (q : Q (.bl b) H) : rIsET K a (.ref D) none [.ref a, .ref tp] H Q :=
  ⟨D, rfl, .inl rfl, C, tp, cs, us, b, rfl, ht, hp, hk, q⟩
end Gx
/-! all(t), t a tuple; what is never reached -/
namespace Gx
open PySem PySem.Spec PyProof.Rows L2
def rAllT (K : PySem.W.Frag) : List V → Hp → VK → Prop := fun vs H Q => ∃ (a : Addr) (bs : List Bool), vs = [V.ref a] ∧ SqT K H a (bs.map V.bl) ∧ Q (.bl (bs.all id)) H
theorem cr_allT {X : Cx} (hc : X.calm = true) : CallR X (.builtin "all") (rAllT X.K) := by
  intro pins s σ H vs us Q I r h
  obtain ⟨a, bs, rfl, hs, q⟩ := h
  obtain ⟨its, rv, hl, _⟩ := I.tuple hs
  rw [Vals.ref1 r]
  have hb := rv.bls
  have hlt : a < s.heap.objs.size := hl.lt
  refine call_all_walk (wpAny_pyIter_tuple hl ?_)
  refine ⟨_, _, _, _, _, _, _, rfl, Walks.tuple (A := X.A.in1) (I.ok.hd hc) _ a (Nat.ne_of_lt hlt) its.toArray, ⟨⟨_, Heap.get?_push_size _ rfl, rfl, rfl⟩, hl.push _⟩, truth_bools hb, fun h' tk hk => ?_⟩
  refine ⟨.bl _, H, I.kept fun b o eo => hk b o (fun hmem => ?_) (Heap.get?_push_of_some _ eo), ?_, q⟩
  · rcases List.mem_cons.mp hmem with e1 | hmem
    · exact absurd (e1 ▸ Heap.lt_size eo) (Nat.lt_irrefl _)
    · cases hmem
  · show Value.bool _ = Value.bool _
    rw [← L2.all_range, hb, List.size_toArray, List.length_map]
theorem k_allT {K : PySem.W.Frag} {H : Hp} {Q : VK} {a : Addr} {bs : List Bool} (h : SqT K H a (bs.map V.bl)) (q : Q (.bl (bs.all id)) H) : rAllT K [.ref a] H Q := ⟨a, bs, rfl, h, q⟩
end Gx
namespace Gx
open PySem PySem.Spec PyProof.Rows L2
/-- code that is never reached -/
theorem ps_void {X : Cx} {st : Stmt} : PS X st (fun _ _ _ => False) := ⟨fun _ _ _ _ _ _ h => h.elim⟩
theorem pe_void {X : Cx} {e : Expr} : PE X e (fun _ _ _ => False) := ⟨fun _ _ _ _ _ _ h => h.elim⟩
end Gx
/-! ### functions that keep what they captured, behind the frame that made them -/
namespace Gx
open PySem PySem.Spec PyProof.Rows L2 LamX NdefX
/-- the object at c, just as it is -/
def PinO (c : Addr) (o : Obj) : HO := .ext fun h => h.get? c = some o
theorem pinO_at {P : Program} {w : World} {H : Hp} {h : Heap} {c : Addr} {o : Obj} (hok : HOk P w H h) (e : H c = some (PinO c o)) : h.get? c = some o := (hok c _ e).1
theorem pinO_ok {P : Program} {w : World} {H : Hp} {h : Heap} {c : Addr} {o : Obj} (e : h.get? c = some o) : ObjOk P w H h c (PinO c o) := ⟨e, ⟨o, e⟩, fun _ _ a st => st _ a⟩
/-- the heap without some cells; with them again -/
def unpin (cs : List Addr) (H : Hp) : Hp := fun b => if b ∈ cs then none else H b
def repin (cs : List Addr) (H H' : Hp) : Hp := fun b => if b ∈ cs then H b else H' b
theorem unpin_in {cs : List Addr} {H : Hp} {b : Addr} (h : b ∈ cs) : unpin cs H b = none := if_pos h
theorem unpin_out {cs : List Addr} {H : Hp} {b : Addr} (h : b ∉ cs) : unpin cs H b = H b := if_neg h
theorem repin_in {cs : List Addr} {H H' : Hp} {b : Addr} (h : b ∈ cs) : repin cs H H' b = H b := if_pos h
theorem repin_out {cs : List Addr} {H H' : Hp} {b : Addr} (h : b ∉ cs) : repin cs H H' b = H' b := if_neg h
def Pinned (cs : List Addr) (H : Hp) : Prop := ∀ c ∈ cs, ∃ o, H c = some (PinO c o)
theorem Pinned.ne {cs : List Addr} {H : Hp} (p : Pinned cs H) {b : Addr} {u : HO} (e : H b = some u) (n : ∀ φ, u ≠ .ext φ) : b ∉ cs := fun hb => by
  obtain ⟨o, ho⟩ := p b hb
  rw [e] at ho
  exact n _ (Option.some.inj ho)
theorem unpin_at {cs : List Addr} {H : Hp} {b : Addr} {u : HO} (p : Pinned cs H) (e : H b = some u) (n : ∀ φ, u ≠ .ext φ) : unpin cs H b = some u := by
  rw [unpin_out (p.ne e n)]
  exact e
theorem unpin_of {cs : List Addr} {H : Hp} {b : Addr} {u : HO} (e : unpin cs H b = some u) : H b = some u ∧ b ∉ cs := by
  by_cases h : b ∈ cs
  · rw [unpin_in h] at e; cases e
  · rw [unpin_out h] at e; exact ⟨e, h⟩
theorem unpin_none {cs : List Addr} {H : Hp} {b : Addr} (e : H b = none) : unpin cs H b = none := by
  by_cases h : b ∈ cs
  · exact unpin_in h
  · rw [unpin_out h]; exact e
/-- behind a call of such a function: its cells are known again -/
structure RePin (cs : List Addr) (H H' H'' : Hp) : Prop where
  eq : H'' = repin cs H H'
  out : ∀ c ∈ cs, H' c = none
theorem RePin.same {cs : List Addr} {H H' H'' : Hp} (r : RePin cs H H' H'') (e : Same (unpin cs H) H') : Same H H'' := fun b u h => by
  rw [r.eq]
  by_cases hb : b ∈ cs
  · rw [repin_in hb]; exact h
  · rw [repin_out hb]; exact e b u (by rw [unpin_out hb]; exact h)
theorem RePin.but {cs : List Addr} {H H' H'' : Hp} {l : Addr} (r : RePin cs H H' H'') (e : But l (unpin cs H) H') : But l H H'' := fun b u n h => by
  rw [r.eq]
  by_cases hb : b ∈ cs
  · rw [repin_in hb]; exact h
  · rw [repin_out hb]; exact e b u n (by rw [unpin_out hb]; exact h)
theorem RePin.new {cs : List Addr} {H H' H'' : Hp} (r : RePin cs H H' H'') : Same H' H'' := fun b u h => by
  have hb : b ∉ cs := fun z => by rw [r.out b z] at h; cases h
  rw [r.eq, repin_out hb]
  exact h
theorem seqT_unpin {K : PySem.W.Frag} {cs : List Addr} {H : Hp} (p : Pinned cs H) {a : Addr} {xs : List V} (h : SqT K H a xs) : SqT K (unpin cs H) a xs := by
  rcases h with (h | ⟨o, h⟩) | h
  · exact .inl (.inl (unpin_at p h (by intro φ z; cases z)))
  · exact .inl (.inr ⟨o, unpin_at p h (by intro φ z; cases z)⟩)
  · exact .inr h
theorem seqL_unpin {K : PySem.W.Frag} {cs : List Addr} {H : Hp} (p : Pinned cs H) {a : Addr} {xs : List V} (h : SqL K H a xs) : SqL K (unpin cs H) a xs := by
  rcases h with (h | ⟨o, h⟩) | h
  · exact .inl (.inl (unpin_at p h (by intro φ z; cases z)))
  · exact .inl (.inr ⟨o, unpin_at p h (by intro φ z; cases z)⟩)
  · exact .inr h
/-- a function's text, its code object, the cells that it captured -/
structure FX where
  fd : Value → Value → Value → FuncData
  c : Addr
  qual : Str
  cl : List (Str × Addr)
def FX.cs (F : FX) : List Addr := F.cl.map (·.2)
def FxO (f : Addr) (F : FX) : HO := .ext fun h => ∃ (od : Option Addr) (sl : Array (Option Value)) (doc pm ctv : Value), h.get? f = some (⟨.type "function", od, .func (F.fd doc pm ctv), sl⟩ : Obj)
def FX.of (F : NF) : FX := ⟨F.fd, F.c, F.qual, F.cl⟩
theorem fx_of {f : Addr} {F : NF} : FxO f (FX.of F) = FnO f F := rfl
theorem fxO_at {P : Program} {w : World} {H : Hp} {h : Heap} {f : Addr} {F : FX} (hok : HOk P w H h) (e : H f = some (FxO f F)) : ∃ (od : Option Addr) (sl : Array (Option Value)) (doc pm ctv : Value), h.get? f = some (⟨.type "function", od, .func (F.fd doc pm ctv), sl⟩ : Obj) := (hok f _ e).1
/-- the function F at f, ws what it captured under the names fr -/
structure Clo (H : Hp) (f : Addr) (F : FX) (fr : List Str) (ws : List V) : Prop where
  fn : H f = some (FxO f F)
  code : H F.c = some (CodeO F.c F.qual)
  pins : ∀ p ∈ F.cl, ∃ o v, H p.2 = some (PinO p.2 o) ∧ o.data = .cell v
  inj : ∀ x y c, F.cl.lookup x = some c → F.cl.lookup y = some c → x = y
  len : ws.length = fr.length
  has : ∀ (i : Nat) (y : Str), fr[i]? = some y → ∃ c o u v, F.cl.lookup y = some c ∧ H c = some (PinO c o) ∧ o.data = .cell (some u) ∧ ws[i]? = some v ∧ RelV v u
section
variable {H H' : Hp} {f : Addr} {F : FX} {fr : List Str} {ws : List V}
theorem Clo.pinned (C : Clo H f F fr ws) : Pinned F.cs H := fun c hc => by
  obtain ⟨p, hp, rfl⟩ := List.mem_map.mp hc
  obtain ⟨o, v, h, _⟩ := C.pins p hp
  exact ⟨o, h⟩
theorem Clo.mono (C : Clo H f F fr ws) (e : ∀ b φ, H b = some (.ext φ) → H' b = some (.ext φ)) : Clo H' f F fr ws :=
  ⟨e _ _ C.fn, e _ _ C.code, fun p hp => let ⟨o, v, h, d⟩ := C.pins p hp; ⟨o, v, e _ _ h, d⟩, C.inj, C.len, fun i y hy => let ⟨c, o, u, v, h1, h2, h3⟩ := C.has i y hy; ⟨c, o, u, v, h1, e _ _ h2, h3⟩⟩
theorem Clo.same (C : Clo H f F fr ws) (e : Same H H') : Clo H' f F fr ws := C.mono fun b φ h => e _ _ h
theorem Clo.ext (C : Clo H f F fr ws) (e : ExtN H H') : Clo H' f F fr ws := C.mono fun b φ h => e _ _ h (by intro ps z; cases z)
theorem Clo.but {l : Addr} {ys : List V} (C : Clo H f F fr ws) (e : But l H H') (hl : H l = some (.lst ys)) : Clo H' f F fr ws := C.mono fun b φ h => e _ _ (ne_of h hl (by intro z; cases z)) h
theorem Clo.butI {l C dx : Addr} {fs : List (Str × V)} (C' : Clo H f F fr ws) (e : But l H H') (hl : H l = some (.ins C dx fs)) : Clo H' f F fr ws := C'.mono fun b φ h => e _ _ (ne_of h hl (by intro z; cases z)) h
end
/-- what a function made so promises, its cells known -/
structure XOk (P : Program) (w : World) (K : PySem.W.Frag) (mg : Str → Option Value) (base : Heap) (k : Nat) (f : Addr) (F : FX) (ps fr : List Str) (sp : List (Option V) → Sp) : Prop where
  run : ∀ (A : Around) (outer : List Env) (s : Shared) (H : Hp) (us : List Value) (vs : List V) (ws : List (Option V)) (Q : VK) (E : XK), Room k A → Env0 P w K mg base A outer s H → H f = some (FxO f F) → H F.c = some (CodeO F.c F.qual) →
    CellsAt F.cl fr ws s.heap H → Vals vs us → sp ws vs H Q E → codeAny (model P w) A (.call (.ref f) ⟨us, []⟩) (CR (L2.CX P w) outer P w H s Q E) s
theorem XOk.of {P : Program} {w : World} {K : PySem.W.Frag} {mg : Str → Option Value} {base : Heap} {k : Nat} {f : Addr} {F : NF} {ps fr : List Str} {sp : List (Option V) → Sp} (o : NOk P w K mg base (L2.CX P w) k f F ps fr sp) : XOk P w K mg base k f (FX.of F) ps fr sp :=
  ⟨fun A outer s H us vs ws Q E hr e0 hf hc C r q => o.run A outer s H us vs ws Q E hr e0 hf hc C r q⟩
theorem stay_ext {P : Program} {w : World} {H H' : Hp} {h : Heap} {a : Addr} {o : HO} (x : ObjOk P w H h a o) (e : ∀ b u, H b = some u → (∀ φ, u ≠ .ext φ) → H' b = some u) : ObjOk P w H' h a o :=
  x.stay (fun _ _ _ q => q) (fun b q => e b _ q (by intro φ z; cases z)) fun b xs q => e b _ q (by intro φ z; cases z)
section
variable {P : Program} {w : World} {K : PySem.W.Frag} {mg : Str → Option Value} {base : Heap} {k : Nat} {f : Addr} {F : FX} {ps fr : List Str} {sp : List (Option V) → Sp} {A : Around} {outer : List Env} {s : Shared} {H : Hp} {us : List Value} {vs ws : List V} {Q : VK} {E : XK}
/-- such a function runs -/
theorem clo_run (o : XOk P w K mg base k f F ps fr sp) (C : Clo H f F fr ws) (hr : Room k A) (e0 : Env0 P w K mg base A outer s H) (r : Vals vs us)
    (q : sp (ws.map some) vs (unpin F.cs H) (fun v H' => ∀ H'', RePin F.cs H H' H'' → Q v H'') fun _ _ _ => False) : codeAny (model P w) A (.call (.ref f) ⟨us, []⟩) (CR (L2.CX P w) outer P w H s Q E) s := by
  have pin := C.pinned
  have cellOf : ∀ c ∈ F.cs, ∃ o v, H c = some (PinO c o) ∧ o.data = .cell v ∧ s.heap.get? c = some o := fun c hc => by
    obtain ⟨p, hp, rfl⟩ := List.mem_map.mp hc
    obtain ⟨o, v, h, d⟩ := C.pins p hp
    exact ⟨o, v, h, d, pinO_at e0.hok h⟩
  have nf : f ∉ F.cs := fun z => by
    obtain ⟨o, v, _, d, g⟩ := cellOf f z
    obtain ⟨od, sl, doc, pm, ctv, g2⟩ := fxO_at e0.hok C.fn
    rw [g] at g2
    cases g2
    cases d
  have nc : F.c ∉ F.cs := fun z => by
    obtain ⟨o, v, _, d, g⟩ := cellOf _ z
    obtain ⟨⟨oc, vs, t, g2, d2, _⟩, _, _⟩ := e0.hok _ _ C.code
    rw [g] at g2
    cases g2
    rw [d] at d2
    cases d2
  have lookM : ∀ {y c}, F.cl.lookup y = some c → c ∈ F.cs := fun {y c} e => List.mem_map.mpr ⟨(y, c), PySem.mem_of_lookup e, rfl⟩
  have e1 : Env0 P w K mg base A outer s (unpin F.cs H) := ⟨e0.frames, e0.mod, fun b o e => ⟨(e0.bs b o e).1, unpin_none (e0.bs b o e).2⟩, e0.bsz, e0.funs, fun b hb => unpin_none (e0.frf b hb), fun b u e => by
    obtain ⟨e, hb⟩ := unpin_of e
    exact stay_ext (e0.hok b u e) fun b u h n => unpin_at pin h n, e0.bare⟩
  have CA : CellsAt F.cl fr (ws.map some) s.heap (unpin F.cs H) := by
    refine ⟨by rw [List.length_map]; exact C.len, fun y c e => ⟨unpin_in (lookM e), ?_⟩, C.inj, fun i y hy => ?_⟩
    · obtain ⟨o, v, _, d, g⟩ := cellOf c (lookM e)
      exact ⟨v, o, g, d⟩
    · obtain ⟨c, o, u, v, h1, h2, h3, h4, h5⟩ := C.has i y hy
      refine ⟨c, h1, fun v' e => ⟨u, ?_, o, pinO_at e0.hok h2, h3⟩⟩
      rw [List.getElem?_map, h4] at e
      cases e
      exact h5
  refine codeAny_mono (o.run A outer s (unpin F.cs H) us vs _ _ (fun _ _ _ => False) hr e1 (by rw [unpin_out nf]; exact C.fn) (by rw [unpin_out nc]; exact C.code) CA r q) fun rr s' z => ?_
  cases rr with
  | error e =>
    obtain ⟨_, _, _, _, _, _, _, _, _, _, _, _, z⟩ := z
    exact z.elim
  | ok fl =>
    cases fl with
    | next => exact False.elim z
    | brk => exact False.elim z
    | cont => exact False.elim z
    | ret u =>
      obtain ⟨v, H', os, bare, un, hok, rv, q⟩ := z
      have keepC : ∀ c ∈ F.cs, ∃ o, H c = some (PinO c o) ∧ s'.heap.get? c = some o := fun c hc => by
        obtain ⟨o, v, h, d, g⟩ := cellOf c hc
        have nfr : c ∉ frs outer := fun z => by
          rw [e0.frf c z] at h
          cases h
        exact ⟨o, h, un.keep c o g (unpin_in hc) nfr (by simp)⟩
      have outC : ∀ c ∈ F.cs, H' c = none := fun c hc => by
        obtain ⟨o, v, h, d, g⟩ := cellOf c hc
        exact un.free c o g (unpin_in hc) (by simp)
      have new : ∀ b u, H' b = some u → repin F.cs H H' b = some u := fun b u h => by
        have hb : b ∉ F.cs := fun z => by rw [outC b z] at h; cases h
        rw [repin_out hb]
        exact h
      have nin : ∀ {b}, H b = none → b ∉ F.cs := fun {b} h z => by
        obtain ⟨o, ho⟩ := pin b z
        rw [h] at ho
        cases ho
      refine ⟨v, repin F.cs H H', os, bare, ⟨fun b o g h h1 h2 => un.keep b o g (unpin_none h) h1 h2, fun b o g h h1 h2 => un.slot b o g (unpin_none h) h1 h2, fun b o g h h2 => by rw [repin_out (nin h)]; exact un.free b o g (unpin_none h) h2,
        un.there, fun b xs h => new b _ (un.tups b xs (unpin_at pin h (by intro φ z; cases z))), fun b o u h => new b _ (un.frzs b o u (unpin_at pin h (by intro φ z; cases z))), fun b qs h => ?_⟩, fun b u h => ?_, rv, q _ ⟨rfl, outC⟩⟩
      · obtain ⟨more, h2⟩ := un.tbls b qs (unpin_at pin h (by intro φ z; cases z))
        exact ⟨more, new b _ h2⟩
      · by_cases hb : b ∈ F.cs
        · obtain ⟨o, ho, g⟩ := keepC b hb
          rw [repin_in hb, ho] at h
          cases h
          exact pinO_ok g
        · rw [repin_out hb] at h
          exact stay_ext (hok b u h) fun b u h _ => new b u h
end
/-- functions of one text -/
structure CloCl (P : Program) (w : World) (K : PySem.W.Frag) (mg : Str → Option Value) (base : Heap) (k : Nat) (IsF : FX → Prop) (ps fr : List Str) (sp : List (Option V) → Sp) : Prop where
  ex : ∀ f F, IsF F → XOk P w K mg base k f F ps fr sp
def rClo (IsF : FX → Prop) (fr : List Str) (sp : List (Option V) → Sp) (f : Addr) (vs : List V) (H : Hp) (Q : VK) : Prop := ∃ F ws, IsF F ∧ Clo H f F fr ws ∧ sp (ws.map some) vs (unpin F.cs H) (fun v H' => ∀ H'', RePin F.cs H H' H'' → Q v H'') fun _ _ _ => False
section
variable {X : Cx} {K : PySem.W.Frag} {k j : Nat} {IsF : FX → Prop} {ps fr : List Str} {sp : List (Option V) → Sp} {o e fe : Expr} {es : List Expr} {ta : TE} {t : TA} {m : Str} {apos pos : Pos}
theorem fxAt_of {pins : List (Addr × Obj)} {σ : L2.St} {H : Hp} {s : Shared} {f : Addr} {F : FX} (I : Inv X pins σ H s) (e : H f = some (FxO f F)) : PySem.W.FnAt f s.heap := by
  obtain ⟨od, sl, doc, pm, ctv, ho⟩ := fxO_at I.hok e
  exact ⟨_, od, _, sl, ho⟩
theorem run_clo {pins : List (Addr × Obj)} {σ : L2.St} {H : Hp} {s : Shared} {Q : VK} {us : List Value} {vs : List V} {f : Addr} (c : CloCl X.prog X.w X.K X.mg X.base k IsF ps fr sp) (hr : Room j X.A) (hk : k ≤ j) (I : Inv X pins σ H s) (r : Vals vs us) (q : rClo IsF fr sp f vs H Q) :
    wpAny (model X.prog X.w) X.A (call (.ref f) us) (EP X pins σ Q) X.xe s := by
  obtain ⟨F, ws, hF, C, q⟩ := q
  refine wpAny_call (codeAny_mono (clo_run (E := fun _ _ _ => False) (c.ex f F hF) C (hr.mono hk) I.env0 r q) fun r s' hq => ?_)
  cases r with
  | error e =>
    obtain ⟨_, _, _, _, _, _, _, _, _, _, _, _, z⟩ := hq
    exact z.elim
  | ok fl =>
    cases fl with
    | ret u => exact I.after hq
    | next => exact False.elim hq
    | brk => exact False.elim hq
    | cont => exact False.elim hq
/-- o.m(e, ..), m a field that holds such a function -/
def tFldCall (K : PySem.W.Frag) (m : Str) (IsF : FX → Prop) (fr : List Str) (sp : List (Option V) → Sp) (ta : TE) (t : TA) : TE := fun σ H Q => ta σ H fun x H1 => ∃ (a C dx : Addr) (fs : List (Str × V)) (f : Addr) (F : FX), x = .ref a ∧ H1 a = some (.ins C dx fs) ∧ Cls K C ∧ NoAttr K C m ∧ fs.lookup m = some (.ref f) ∧ H1 f = some (FxO f F) ∧
  t σ H1 fun vs H2 => H2 f = some (FxO f F) ∧ rClo IsF fr sp f vs H2 Q
theorem pfldcall {pl : Sem Bool} (hK : X.K = K) (c : CloCl X.prog X.w K X.mg X.base k IsF ps fr sp) (hr : Room j X.A) (hk : k ≤ j) (he : PE X o ta) (ha : PA X (e :: es) t)
    (hst : starEach (e :: es) X.env = (false, eval e X.env) :: starEach es X.env := by rfl) (hpl : (backTo pos (starEach es X.env)).any (·.1) = false := by rfl)
    (ht : eval (.Call (.Attribute o m apos) (e :: es) [] pos) X.env = (do
      let ov ← eval o X.env
      standAt apos.atName
      let (f, first) ← holding [ov] (getMethod ov m pl)
      callWith pos f first (backTo pos (starEach (e :: es) X.env)) (backToKw pos (keywordEach [] X.env))) := by rfl) :
    PE X (.Call (.Attribute o m apos) (e :: es) [] pos) (tFldCall K m IsF fr sp ta t) := by
  subst hK
  refine ⟨fun pins s σ H Q I h => ?_⟩
  refine PySem.W.methodCall_KW (pl := pl) (thn (he.run pins s σ H _ I h) fun u s1 ⟨x, H1, I1, rx, a, C, dx, fs, f, F, ex, ea, cl, na, l, hf, q⟩ => ?_) ht
  subst ex
  obtain rfl : u = Value.ref a := rx
  refine getmeth_fld I1 ea cl na l fun u s2 I2 ru => ?_
  obtain rfl : u = Value.ref f := ru
  refine PySem.W.callWith_F (first := []) (fxAt_of I2 hf) (thn (ha.run pos pins s2 σ H1 _ I2 q) fun us s3 ⟨vs, H2, I3, r, hf2, q2⟩ => ⟨fxAt_of I3 hf2, ?_⟩) hst hpl
  exact run_clo c hr hk I3 r q2
/-- f(..)(e, ..) -/
def tValCall (IsF : FX → Prop) (fr : List Str) (sp : List (Option V) → Sp) (ta : TE) (t : TA) : TE := fun σ H Q => ta σ H fun x H1 => ∃ (f : Addr) (F : FX), x = .ref f ∧ H1 f = some (FxO f F) ∧ t σ H1 fun vs H2 => H2 f = some (FxO f F) ∧ rClo IsF fr sp f vs H2 Q
theorem pvalcall (c : CloCl X.prog X.w X.K X.mg X.base k IsF ps fr sp) (hr : Room j X.A) (hk : k ≤ j) (he : PE X fe ta) (ha : PA X (e :: es) t)
    (hc : eval (.Call fe (e :: es) [] pos) X.env = (do callWith pos (← eval fe X.env) [] (backTo pos (starEach (e :: es) X.env)) (backToKw pos (keywordEach [] X.env))) := by rfl)
    (hst : starEach (e :: es) X.env = (false, eval e X.env) :: starEach es X.env := by rfl) (hpl : (backTo pos (starEach es X.env)).any (·.1) = false := by rfl) :
    PE X (.Call fe (e :: es) [] pos) (tValCall IsF fr sp ta t) := by
  refine ⟨fun pins s σ H Q I h => ?_⟩
  refine PyProof.Rows.Call_ (thn (he.run pins s σ H _ I h) fun u s1 ⟨x, H1, I1, rx, f, F, ex, hf, q⟩ => ?_) hc
  subst ex
  obtain rfl : u = Value.ref f := rx
  refine PySem.W.callWith_F (first := []) (fxAt_of I1 hf) (thn (ha.run pos pins s1 σ H1 _ I1 q) fun us s3 ⟨vs, H2, I3, r, hf2, q2⟩ => ⟨fxAt_of I3 hf2, ?_⟩) hst hpl
  exact run_clo c hr hk I3 r q2
end
section
variable {σ : L2.St} {H : Hp} {Q : VK} {K : PySem.W.Frag} {IsF : FX → Prop} {fr : List Str} {sp : List (Option V) → Sp} {ta : TE} {t : TA} {m : Str}
def rFldCall (K : PySem.W.Frag) (m : Str) (x : V) (H1 : Hp) (P : Addr → FX → Prop) : Prop := ∃ (a C dx : Addr) (fs : List (Str × V)) (f : Addr) (F : FX), x = .ref a ∧ H1 a = some (.ins C dx fs) ∧ Cls K C ∧ NoAttr K C m ∧ fs.lookup m = some (.ref f) ∧ H1 f = some (FxO f F) ∧ P f F
theorem k_fldcall (q : ta σ H fun x H1 => rFldCall K m x H1 fun f F => t σ H1 fun vs H2 => H2 f = some (FxO f F) ∧ rClo IsF fr sp f vs H2 Q) : tFldCall K m IsF fr sp ta t σ H Q := q
theorem k_fldcallx {a C dx f : Addr} {fs : List (Str × V)} {F : FX} {P : Addr → FX → Prop} (h : H a = some (.ins C dx fs)) (c : Cls K C) (n : NoAttr K C m) (l : fs.lookup m = some (.ref f)) (hf : H f = some (FxO f F)) (q : P f F) : rFldCall K m (.ref a) H P := ⟨a, C, dx, fs, f, F, rfl, h, c, n, l, hf, q⟩
def rValCall (x : V) (H1 : Hp) (P : Addr → FX → Prop) : Prop := ∃ (f : Addr) (F : FX), x = .ref f ∧ H1 f = some (FxO f F) ∧ P f F
theorem k_valcall (q : ta σ H fun x H1 => rValCall x H1 fun f F => t σ H1 fun vs H2 => H2 f = some (FxO f F) ∧ rClo IsF fr sp f vs H2 Q) : tValCall IsF fr sp ta t σ H Q := q
theorem k_valcallx {f : Addr} {F : FX} {P : Addr → FX → Prop} (hf : H f = some (FxO f F)) (q : P f F) : rValCall (.ref f) H P := ⟨f, F, rfl, hf, q⟩
theorem k_clo {f : Addr} {F : FX} {vs ws : List V} (C : Clo H f F fr ws) (hF : IsF F) (q : sp (ws.map some) vs (unpin F.cs H) (fun v H' => ∀ H'', RePin F.cs H H' H'' → Q v H'') fun _ _ _ => False) : H f = some (FxO f F) ∧ rClo IsF fr sp f vs H Q := ⟨C.fn, F, ws, hF, C, q⟩
end
end Gx
/-! ### the def that makes such a function: its end is told with its slots -/
namespace Gx
open PySem PySem.Spec PyProof.Rows L2 LamX NdefX
abbrev TSG := (V → L2.St → Hp → Prop) → L2.St → Hp → Prop
structure PSG (X : Cx) (sts : List Stmt) (t : TSG) : Prop where
  run : ∀ (pins : List (Addr × Obj)) (s : Shared) (σ : L2.St) (H : Hp) (R : V → L2.St → Hp → Prop), Inv X pins σ H s → t R σ H → wpAny (model X.prog X.w) X.A (execs sts X.env) (fun fl s' => match fl with
    | .ret u => ∃ v σ' H', Inv X pins σ' H' s' ∧ RelV v u ∧ R v σ' H'
    | _ => False) X.xe s
section
variable {X : Cx} {st : Stmt} {rest : List Stmt} {t1 : TS} {t2 : TSG} {e : Expr} {te : TE} {pos : Pos}
def gSeq (t1 : TS) (t2 : TSG) : TSG := fun R σ H => t1 { nx := fun σ' H' => t2 R σ' H', rt := fun v H' => ∀ σ', R v σ' H' } σ H
def gRet (te : TE) : TSG := fun R σ H => te σ H fun v H' => R v σ H'
theorem psg_cons (h1 : PS X st t1) (h2 : PSG X rest t2) : PSG X (st :: rest) (gSeq t1 t2) := by
  refine ⟨fun pins s σ H R I h => wpAny_execs_cons (thn (h1.run pins s σ H _ I h) fun fl s1 q => ?_)⟩
  cases fl with
  | next =>
    obtain ⟨σ', H', I', q⟩ := q
    exact h2.run pins s1 σ' H' R I' q
  | ret u =>
    obtain ⟨v, σ', H', I', r, q⟩ := q
    exact ⟨v, σ', H', I', r, q σ'⟩
  | brk =>
    obtain ⟨_, _, _, q⟩ := q
    exact q.elim
  | cont =>
    obtain ⟨_, _, _, q⟩ := q
    exact q.elim
theorem psg_ret (he : PE X e te) : PSG X [.Return (some e) pos] (gRet te) := by
  refine ⟨fun pins s σ H R I h => wpAny_execs_cons (wpAny_Return_some (thn (he.run pins s σ H _ I h) fun u s1 ⟨v, H1, I1, r, q⟩ => ⟨v, σ, H1, I1, r, q⟩))⟩
end
/-- behind the end of such a def: its cells are known -/
structure Gone (env : Env) (N : List Str) (σ : L2.St) (H H' : Hp) : Prop where
  same : Same H H'
  pins : ∀ y c, env.cells.lookup y = some c → ∃ o v, H' c = some (PinO c o) ∧ o.data = .cell v
  inj : ∀ x y c, env.cells.lookup x = some c → env.cells.lookup y = some c → x = y
  has : ∀ (i : Nat) (y : Str) (v : V), N[i]? = some y → σ[i]? = some (some v) → env.scope.names.lookup y = some .cell → ∃ c o u, env.cells.lookup y = some c ∧ H' c = some (PinO c o) ∧ o.data = .cell (some u) ∧ RelV v u
/-- THE RULE: a def of the text whose cells outlive it -/
theorem fn_ofG {P : Program} {w : World} {K : PySem.W.Frag} {mg : Str → Option Value} {base : Heap} {k : Nat} {f : Addr} {name qual : Str} {params : Arguments} {body : List Stmt} {scope : Scope} {dV kV doc pm cdv ct oc : Value} {an od : Option Addr}
    {osl : Array (Option Value)} {N ps : List Str} {sp : Sp} (lk : K.lookup f = some ⟨oc, od, .func (PySem.W.fnOf name qual params body scope dV kV doc pm an cdv ct), osl⟩) (hcd : PySem.W.codeIn K cdv qual = true) (S : FnScope N ps scope)
    (len : ∀ vs H Q E, sp vs H Q E → vs.length = ps.length)
    (hbody : ∀ (A : Around) (outer : List Env) (s : Shared) (H : Hp) (vs : List V) (Q : VK) (E : XK), Room k (A.deeper (envOfC qual scope s.heap.objs.size f cdv)) → sp vs H Q E →
      ∃ t, PSG (cxOf (L2.CX P w) P w K mg base N qual scope f cdv A outer s H E) body t ∧ t (fun v σ' H' => ∀ H'', Gone (envOfC qual scope s.heap.objs.size f cdv) N σ' H' H'' → Q v H'') (L2.start N vs) H) :
    FnOk P w K mg base (L2.CX P w) (k + 1) f (PySem.W.fnOf name qual params body scope dV kV doc pm an cdv ct) ps sp := by
  refine ⟨len, fun A outer s H args us vs Q E hr e0 hb r hsp => ?_⟩
  have hl := len _ _ _ _ hsp
  have KX : K.In s.heap := e0.mod.kin.keeps fun b o e => (e0.bs b o e).1
  have lim : s.heap.NoLimit := e0.mod.nolimit.keeps fun b o e => (e0.bs b o e).1
  have hkind : ∀ y ∈ ps.zip us, scope.names.lookup y.1 = some .local ∨ (scope.names.lookup y.1 = some .cell ∧ ((cellsFrom (s.heap.objs.size + 1) scope.names []).lookup y.1).isSome = true) := fun ⟨n, v⟩ hy => by
    rcases S.par n (List.of_mem_zip hy).1 with q | q
    · exact .inl q
    · exact .inr ⟨q, PySem.W.cellsFrom_some _ _ _ (.inl q)⟩
  refine codeAny_call_function hr.depth (KX _ _ lk) rfl S.co S.gen rfl (PySem.W.codeRec_of KX hcd) (hb _ _ _ _ ?_)
  refine wpAny_newFunctionEnv_cells S.kind hkind fun env he s1 x => ?_
  subst he
  refine ⟨lim.keeps x.toInCall.keep, codeAny_func ?_⟩
  obtain ⟨t, ht, hq⟩ := hbody A outer s H vs Q E (hr.deeper _) hsp
  have I : Inv (cxOf (L2.CX P w) P w K mg base N qual scope f cdv A outer s H E) [] (start N vs) H s1 := inv_start S hr.hd e0 hl r x
  refine wpAny_mono (ht.run [] s1 (start N vs) H _ I hq) (fun fl s' hs => ?_) fun e s' hs => hs
  cases fl with
  | next => exact hs.elim
  | brk => exact hs.elim
  | cont => exact hs.elim
  | ret u =>
    obtain ⟨v, σ', H', J, rv, q⟩ := hs
    obtain ⟨ce, hce⟩ : ∃ ce, ce = cellsFrom (s.heap.objs.size + 1) scope.names [] := ⟨_, rfl⟩
    have ap : ∀ p ∈ ce, ce.lookup p.1 = some p.2 ∨ True := fun _ _ => .inr trivial
    have J1 : ∀ y c, ce.lookup y = some c → ∃ v, s'.heap.IsCell c v := fun y c e => J.cell y c (by rw [hce] at e; exact e)
    have J2 : ∀ y c, ce.lookup y = some c → H' c = none := fun y c e => J.freeC y c (by rw [hce] at e; exact e)
    have J3 : ∀ y c, ce.lookup y = some c → s.heap.objs.size ≤ c := fun y c e => J.ok.cab y c rfl (by rw [hce] at e; exact e)
    obtain ⟨cs, hcs⟩ : ∃ cs : List Addr, ∀ c, c ∈ cs ↔ ∃ y, ce.lookup y = some c := ⟨ce.filterMap fun p => ce.lookup p.1, fun c => by
      constructor
      · intro h
        obtain ⟨p, _, e⟩ := List.mem_filterMap.mp h
        exact ⟨p.1, e⟩
      · rintro ⟨y, e⟩
        exact List.mem_filterMap.mpr ⟨(y, c), PySem.mem_of_lookup e, e⟩⟩
    obtain ⟨H2, hH2⟩ : ∃ H2 : Hp, H2 = fun b => if b ∈ cs then (s'.heap.get? b).map (PinO b) else H' b := ⟨_, rfl⟩
    have inC : ∀ y c, ce.lookup y = some c → ∀ o, s'.heap.get? c = some o → H2 c = some (PinO c o) := fun y c e o g => by
      rw [hH2]
      show (if c ∈ cs then _ else _) = _
      rw [if_pos ((hcs c).mpr ⟨y, e⟩), g]
      rfl
    have outC : ∀ b, b ∉ cs → H2 b = H' b := fun b n => by
      rw [hH2]
      exact if_neg n
    have freeC : ∀ c ∈ cs, H' c = none := fun c h => let ⟨y, e⟩ := (hcs c).mp h; J2 y c e
    have new : ∀ b u, H' b = some u → H2 b = some u := fun b u h => by
      rw [outC b fun z => by rw [freeC b z] at h; cases h]
      exact h
    have old : ∀ b o, s.heap.get? b = some o → b ∉ cs := fun b o g z => by
      obtain ⟨y, e⟩ := (hcs b).mp z
      exact absurd (Nat.lt_of_lt_of_le (Heap.lt_size g) (J3 y b e)) (Nat.lt_irrefl _)
    have un := J.base
    refine ⟨v, H2, J.os, J.bare, ⟨un.keep, un.slot, fun b o g h h2 => by rw [outC b (old b o g)]; exact un.free b o g h h2, un.there, fun b xs h => new b _ (un.tups b xs h), fun b o u h => new b _ (un.frzs b o u h), fun b qs h => ?_⟩, fun b u h => ?_, rv, q H2 ⟨fun b u h => new b u h, fun y c e => ?_, fun y z c e1 e2 => ?_, fun i y v hN hs hk => ?_⟩⟩
    · obtain ⟨more, h2⟩ := un.tbls b qs h
      exact ⟨more, new b _ h2⟩
    · by_cases hb : b ∈ cs
      · obtain ⟨y, e⟩ := (hcs b).mp hb
        obtain ⟨v, o, g, d⟩ := J1 y b e
        rw [inC y b e o g] at h
        cases h
        exact pinO_ok g
      · rw [outC b hb] at h
        exact stay_ext (J.hok b u h) fun b u h _ => new b u h
    · have e : ce.lookup y = some c := by rw [hce]; exact e
      obtain ⟨v, o, g, d⟩ := J1 y c e
      exact ⟨o, v, inC y c e o g, d⟩
    · exact J.ok.inj y z c e1 e2
    · obtain ⟨m, hn, hl⟩ := J.loc
      obtain ⟨u, ru, l⟩ := hl i y v hN hs (.inr (.inl hk))
      rcases l with ⟨z, _⟩ | ⟨_, c, e, o, g, d⟩
      · have z' : scope.names.lookup y = some .local := z
        rw [show scope.names.lookup y = some .cell from hk] at z'
        cases z'
      · have e' : ce.lookup y = some c := by rw [hce]; exact e
        exact ⟨c, o, u, e, inC y c e' o g, d, ru⟩
/-- the function that it made -/
theorem Gone.clo {env : Env} {N : List Str} {σ : L2.St} {H H' : Hp} {f : Addr} {F : FX} {nsc : Scope} {fr : List Str} {js : List Nat} {ws : List V} (g : Gone env N σ H H') (hcl : F.cl = cloFrom env.cells nsc.names []) (hf : H f = some (FxO f F)) (hc : H F.c = some (CodeO F.c F.qual))
    (hnf : ∀ y ∈ nsc.names, y.2 = .free → env.scope.names.lookup y.1 = some .cell) (hhas : ∀ y, env.scope.names.lookup y = some .cell → ∃ c, env.cells.lookup y = some c) (hfr : ∀ y ∈ fr, (y, NameKind.free) ∈ nsc.names) (hjs : js.map (fun j => N[j]?) = fr.map some) (hws : js.map (fun j => σ[j]?) = ws.map fun v => some (some v)) : Clo H' f F fr ws := by
  have hfree : ∀ y ∈ nsc.names, y.2 = .free → ∃ c, env.cells.lookup y.1 = some c := fun y hy e => hhas _ (hnf y hy e)
  have lj : js.length = fr.length := by
    have := congrArg List.length hjs
    simpa using this
  have lw : js.length = ws.length := by
    have := congrArg List.length hws
    simpa using this
  refine ⟨g.same _ _ hf, g.same _ _ hc, fun p hp => ?_, fun x y c e1 e2 => ?_, by omega, fun i y hy => ?_⟩
  · rw [hcl] at hp
    rcases cloFrom_mem hp with z | ⟨h1, h2⟩
    · cases z
    · obtain ⟨c, e⟩ := hfree _ h1 rfl
      have e : env.cells.lookup p.1 = some c := e
      rw [e] at h2
      obtain rfl : p.2 = c := h2
      exact g.pins _ _ e
  · rw [hcl] at e1 e2
    exact g.inj x y c (clo_cm hfree e1) (clo_cm hfree e2)
  · have hj : i < js.length := by rw [lj]; exact (List.getElem?_eq_some_iff.mp hy).1
    have e1 : N[js[i]]? = some y := by
      have q := congrArg (fun l => l[i]?) hjs
      simp only [List.getElem?_map, List.getElem?_eq_getElem hj, hy, Option.map_some] at q
      exact Option.some.inj q
    obtain ⟨v, hv⟩ : ∃ v, ws[i]? = some v := ⟨_, List.getElem?_eq_getElem (by omega)⟩
    have e2 : σ[js[i]]? = some (some v) := by
      have q := congrArg (fun l => l[i]?) hws
      simp only [List.getElem?_map, List.getElem?_eq_getElem hj, hv, Option.map_some] at q
      exact Option.some.inj q
    have hm := hfr y (List.mem_of_getElem? hy)
    obtain ⟨c, o, u, h1, h2, h3, h4⟩ := g.has _ y v e1 e2 (hnf (y, .free) hm rfl)
    exact ⟨c, o, u, v, by rw [hcl]; exact clo_has hfree hm h1, h2, h3, hv, h4⟩
end Gx
namespace Gx
open PySem PySem.Spec PyProof.Rows L2 LamX NdefX
section
variable {X : Cx} {c : Expr} {tc : TT} {a rest : List Stmt} {ta tr : TSG} {pos : Pos}
def gIf (tc : TT) (ta tr : TSG) : TSG := fun R σ H => tc σ H fun b H1 => if b = true then ta R σ H1 else tr R σ H1
/-- an if whose suite returns -/
theorem psg_if (hc : PT X c tc) (ha : PSG X a ta) (hr : PSG X rest tr) : PSG X (.If c a [] pos :: rest) (gIf tc ta tr) := by
  refine ⟨fun pins s σ H R I h => wpAny_execs_cons (wpAny_If (thn (hc.run pins s σ H _ I h) fun d s1 ⟨H1, I1, q1⟩ => ?_))⟩
  cases d with
  | true =>
    refine thn (ha.run pins s1 σ H1 R I1 q1) fun fl s2 z => ?_
    cases fl with
    | ret u => exact z
    | next => exact z.elim
    | brk => exact z.elim
    | cont => exact z.elim
  | false =>
    refine wpAny_execs_nil ?_
    exact hr.run pins s1 σ H1 R I1 q1
end
/-- the maker's table of code objects: the name that each bears -/
def TabK (K : PySem.W.Frag) (H : Hp) (p : He.Defn) (q : Str) : Prop := TabN H (He.cT K p).2 fun _ _ => q
theorem TabK.same {K : PySem.W.Frag} {H H' : Hp} {p : He.Defn} {q : Str} (t : TabK K H p q) (e : Same H H') : TabK K H' p q := TabN.ext t fun b o h => e b o h
theorem TabK.mono {K : PySem.W.Frag} {H H' : Hp} {p : He.Defn} {q : Str} (t : TabK K H p q) (e : ∀ b u, H b = some u → ((∃ φ, u = .ext φ) ∨ ∃ ps, u = .tbl ps) → H' b = some u) : TabK K H' p q := by
  obtain ⟨ps, h1, h2, h3⟩ := t
  refine ⟨ps, e _ _ h1 (.inr ⟨_, rfl⟩), h2, fun pos cv hc => ?_⟩
  obtain ⟨c, e1, e2⟩ := h3 pos cv hc
  exact ⟨c, e1, e _ _ e2 (.inl ⟨_, rfl⟩)⟩
theorem TabK.but {K : PySem.W.Frag} {H H' : Hp} {p : He.Defn} {q : Str} {l : Addr} {ys : List V} (t : TabK K H p q) (e : But l H H') (hl : H l = some (.lst ys)) : TabK K H' p q := t.mono fun b u h z => e _ _ (ne_of h hl (by rintro rfl; rcases z with ⟨_, z⟩ | ⟨_, z⟩ <;> cases z)) h
theorem TabK.butI {K : PySem.W.Frag} {H H' : Hp} {p : He.Defn} {q : Str} {l C dx : Addr} {fs : List (Str × V)} (t : TabK K H p q) (e : But l H H') (hl : H l = some (.ins C dx fs)) : TabK K H' p q := t.mono fun b u h z => e _ _ (ne_of h hl (by rintro rfl; rcases z with ⟨_, z⟩ | ⟨_, z⟩ <;> cases z)) h
theorem TabK.nil {K : PySem.W.Frag} {H : Hp} {p : He.Defn} {q : Str} (h : H (He.cT K p).2 = some (.tbl #[])) : TabK K H p q := TabN.nil h
/-! all but the tables stays -/
theorem up_ext {H H' : Hp} (e : ExtN H H') {a : Addr} {o : HO} (h : H a = some o) (n : ∀ ps, o ≠ .tbl ps) : H' a = some o := e _ _ h n
theorem lst_ext {H H' : Hp} (e : ExtN H H') {a : Addr} {xs : List V} (h : H a = some (.lst xs)) : H' a = some (.lst xs) := e _ _ h (by intro ps z; cases z)
theorem tup_ext {H H' : Hp} (e : ExtN H H') {a : Addr} {xs : List V} (h : H a = some (.tup xs)) : H' a = some (.tup xs) := e _ _ h (by intro ps z; cases z)
theorem ins_ext {H H' : Hp} (e : ExtN H H') {a C dx : Addr} {fs : List (Str × V)} (h : H a = some (.ins C dx fs)) : H' a = some (.ins C dx fs) := e _ _ h (by intro ps z; cases z)
theorem seqT_ext {K : PySem.W.Frag} {H H' : Hp} (e : ExtN H H') {a : Addr} {xs : List V} (h : SqT K H a xs) : SqT K H' a xs := by
  rcases h with (h | ⟨o, h⟩) | h
  · exact .inl (.inl (tup_ext e h))
  · exact .inl (.inr ⟨o, e _ _ h (by intro ps z; cases z)⟩)
  · exact .inr h
theorem seqL_ext {K : PySem.W.Frag} {H H' : Hp} (e : ExtN H H') {a : Addr} {xs : List V} (h : SqL K H a xs) : SqL K H' a xs := by
  rcases h with (h | ⟨o, h⟩) | h
  · exact .inl (.inl (lst_ext e h))
  · exact .inl (.inr ⟨o, e _ _ h (by intro ps z; cases z)⟩)
  · exact .inr h
mutual
theorem dp_ext {K : PySem.W.Frag} {H H' : Hp} (e : ExtN H H') : ∀ {d : PyData} {v : V}, Dp K H v d → Dp K H' v d
  | _, _, .non => .non
  | _, _, .bl b => .bl b
  | _, _, .int i => .int i
  | _, _, .str x => .str x
  | _, _, .lst h a => .lst (seqL_ext e h) (dpAll_ext e a)
  | _, _, .tup h a => .tup (seqT_ext e h) (dpAll_ext e a)
theorem dpAll_ext {K : PySem.W.Frag} {H H' : Hp} (e : ExtN H H') : ∀ {ds : List PyData} {vs : List V}, DpAll K H vs ds → DpAll K H' vs ds
  | _, _, .nil => .nil
  | _, _, .cons h r => .cons (dp_ext e h) (dpAll_ext e r)
end
theorem ext_same {H H' : Hp} (e : Same H H') : ExtN H H' := fun b o h _ => e b o h
/-! making -/
def tMk (K : PySem.W.Frag) (p : He.Defn) (q : Str) (i : Nat) (mk : Addr → NF) : TS := fun D σ H => TabK K H p q ∧ ∀ (f c' : Addr) (H1 : Hp), ExtN H H1 → (∀ b, H1 b = none → H b = none) → TabK K H1 p q → H f = none → H1 f = some (FxO f (FX.of (mk c'))) → H1 c' = some (CodeO c' (mk c').qual) → D.nx (σ.set i (some (.ref f))) H1
theorem ps_mk {X : Cx} {K : PySem.W.Frag} {st : Stmt} {p : He.Defn} {name : Str} {pos : Pos} {i : Nat} (hK : X.K = K) (TB : TabB X.base X.mg (He.cT K p).1 (He.cT K p).2) (hcode : X.env.code = .ref (He.cT K p).1) (hst : st = .FunctionDef name (C8.fnArgs st) (C8.fnBody st) [] none [] (C8.fnScope st) none name pos)
    (hfree : ∀ y ∈ (C8.fnScope st).names, y.2 = .free → X.env.scope.names.lookup y.1 = some .cell ∨ X.env.scope.names.lookup y.1 = some .free) (hd0 : (C8.fnArgs st).defaults = []) (hk0 : (C8.fnArgs st).kw_defaults = []) (ha : annTrees (C8.fnArgs st) none X.env = [])
    (hN : X.N.Nodup) (hi : X.N[i]? = some name) (hx : Loc X.env.scope name) (hf : X.fn name = true ∨ X.env.scope.names.lookup name = some .local) :
    PS X st (tMk K p (X.env.qual ++ name) i (NF.of st name (X.env.qual ++ name) (cloFrom X.env.cells (C8.fnScope st).names []))) := by
  subst hK
  have h := ps_ndefMS (T := [((He.cT X.K p).2, fun _ _ => X.env.qual ++ name)]) hst TB hcode (List.mem_singleton.mpr rfl) rfl (fun z hz _ => by rw [List.mem_singleton.mp hz]) hfree hd0 hk0 ha hN hi hx hf
  refine ⟨fun pins s σ H D I q => h.run pins s σ H D I ⟨fun z hz => ?_, fun f c' H1 e nn T1 f0 f1 c1 => q.2 f c' H1 e nn (T1 _ (List.mem_singleton.mpr rfl)) f0 f1 c1⟩⟩
  rw [List.mem_singleton.mp hz]
  exact q.1
/-- a lambda -/
def FX.lam (params : Arguments) (body : Expr) (scope : Scope) (qual : Str) (cl : List (Str × Addr)) (c : Addr) : FX := ⟨fun _ pm ctv => PySem.W.kla_fn "<lambda>" qual params body scope cl pm (.ref c) ctv, c, qual, cl⟩
def tLamK (K : PySem.W.Frag) (p : He.Defn) (q : Str) (mk : Addr → FX) : TE := fun _ H Q => TabK K H p q ∧ ∀ (f c' : Addr) (H1 : Hp), ExtN H H1 → (∀ b, H1 b = none → H b = none) → TabK K H1 p q → H f = none → H1 f = some (FxO f (mk c')) → H1 c' = some (CodeO c' q) → Q (.ref f) H1
theorem inv_fx {X : Cx} {pins : List (Addr × Obj)} {σ : L2.St} {H : Hp} {s : Shared} {F : FX} {o : Obj} {t' : Nat} {doc pm ctv : Value} (I : Inv X pins σ H s) (ho : o = { cls := .type "function", data := .func (F.fd doc pm ctv) }) :
    Inv X pins σ (upd H s.heap.objs.size (FxO s.heap.objs.size F)) { s with heap := s.heap.push o, toks := t' } := by
  subst ho
  refine I.laid (a := s.heap.objs.size) (fun b u e => Heap.get?_push_of_some _ e) (Nat.le_refl _) ?_
  have e : (s.heap.push ({ cls := .type "function", data := .func (F.fd doc pm ctv) } : Obj)).get? s.heap.objs.size = some ({ cls := .type "function", data := .func (F.fd doc pm ctv) } : Obj) := Heap.get?_push_size _ rfl
  exact ⟨⟨_, _, doc, pm, ctv, e⟩, ⟨_, e⟩, fun h1 h2 ⟨od, sl, d, p, t, z⟩ st => ⟨od, sl, d, p, t, st _ z⟩⟩
theorem pe_lam {X : Cx} {K : PySem.W.Frag} {p : He.Defn} {params : Arguments} {body : Expr} {scope : Scope} {pos : Pos} (hK : X.K = K) (TB : TabB X.base X.mg (He.cT K p).1 (He.cT K p).2) (hcode : X.env.code = .ref (He.cT K p).1) (hdef : defaultsOf params X.env = ([], []))
    (hfree : ∀ y ∈ scope.names, y.2 = .free → X.env.scope.names.lookup y.1 = some .cell ∨ X.env.scope.names.lookup y.1 = some .free) :
    PE X (.Lambda params body scope pos) (tLamK K p (X.env.qual ++ "<lambda>") (FX.lam params body scope (X.env.qual ++ "<lambda>") (cloFrom X.env.cells scope.names []))) := by
  subst hK
  refine ⟨fun pins s σ H Q I h => ?_⟩
  obtain ⟨⟨ps, hP, ht, ha⟩, h⟩ := h
  have hfr : ∀ y ∈ scope.names, y.2 = .free → ∃ c, X.env.cells.lookup y.1 = some c := fun y hy e => (hfree y hy e).elim (fun z => I.ok.has _ (.inl z)) fun z => I.ok.has _ (.inr z)
  generalize hPP : (He.cT X.K p).2 = P at *
  refine PySem.W.kla_eval hdef ?_
  have bP : s.heap.BuiltinsAt X.mg P := TB.bm.keeps I.bk
  have hP' : s.heap.get? P = some { cls := .none, data := .fields ps } := I.hok P _ hP
  have tk : ∀ H, TabN H P (fun _ _ => X.env.qual ++ "<lambda>") → TabK X.K H p (X.env.qual ++ "<lambda>") := fun H t => by unfold TabK; rw [hPP]; exact t
  cases hc : codeAmong pos ps.toList with
  | none =>
    refine PySem.W.kla_makeFunction (mg := X.mg) (c := (He.cT X.K p).1) (P := P) (ps := ps) (closure_ok hfr) I.ok.glob (I.mod.glob.keeps I.bk) hcode (TB.code.keeps I.bk) hP' ht hc TB.gP bP fun c' ctv h' tk' hx hge hlt hrec htb => ?_
    obtain ⟨c2, oc, vs, t, e2, hoc, hd, hv⟩ := hrec
    cases e2
    have nC : H c' = none := I.hok.fresh hge
    have I1 := inv_table (t' := tk') (more := #[rawInt pos.line, rawInt pos.col, .ref c']) (h' := h') I hP (fun b o hb e => hx b o hb e) htb hge ⟨oc, vs, t, hoc, hd, hv⟩
    have hE : ExtN H (upd (upd H P (.tbl (ps ++ #[rawInt pos.line, rawInt pos.col, .ref c']))) c' (CodeO c' (X.env.qual ++ "<lambda>"))) := fun b o e n => by
      rw [upd_ne (ne_of_none e nC), upd_ne (fun z => n ps (Option.some.inj (e.symm.trans (by rw [z]; exact hP))))]
      exact e
    have eL : (ps ++ #[rawInt pos.line, rawInt pos.col, .ref c']).toList = ps.toList ++ [rawInt pos.line, rawInt pos.col, .ref c'] := by simp
    have T1 : TabN (upd (upd H P (.tbl (ps ++ #[rawInt pos.line, rawInt pos.col, .ref c']))) c' (CodeO c' (X.env.qual ++ "<lambda>"))) P fun _ _ => X.env.qual ++ "<lambda>" := by
      refine ⟨_, by rw [upd_ne (ne_of_none hP nC), upd_same], by rw [eL]; exact PySem.TriplesOk_snoc _ _ _ _ ht, fun p' cv hcv => ?_⟩
      rw [eL] at hcv
      rcases among_app2 _ ht hcv with z | ⟨z, z1, z2⟩
      · obtain ⟨c0, e1, e2⟩ := ha p' cv z
        exact ⟨c0, e1, hE _ _ e2 codeO_ne⟩
      · exact ⟨c', z, upd_same⟩
    have nF := I1.hok.fresh (Nat.le_refl _)
    have I2 := inv_fx (F := FX.lam params body scope (X.env.qual ++ "<lambda>") (cloFrom X.env.cells scope.names []) c') (o := PySem.W.kla_obj "<lambda>" (X.env.qual ++ "<lambda>") params body scope (cloFrom X.env.cells scope.names []) ((X.mg "__name__").getD .none) c' ctv) (t' := tk') (doc := .none) (pm := (X.mg "__name__").getD .none) (ctv := ctv) I1 rfl
    refine ⟨.ref h'.objs.size, _, I2, rfl, h h'.objs.size c' _ (fun b o e n => ?_) (fun b e => upd_none (upd_none (upd_none e))) (tk _ (T1.ext fun b o e => ?_)) (I.hok.fresh (Nat.le_trans hge (Nat.le_of_lt hlt))) upd_same ?_⟩
    · have e1 := hE b o e n
      exact (upd_ne (ne_of_none e1 nF)).trans e1
    · exact (upd_ne (ne_of_none e nF)).trans e
    · exact (upd_ne (Nat.ne_of_lt hlt)).trans upd_same
  | some cv =>
    obtain ⟨c', e, hco⟩ := ha pos cv hc
    subst e
    refine PySem.W.kla_makeFunctionHit (mg := X.mg) (c := (He.cT X.K p).1) (P := P) (ps := ps) (closure_ok hfr) I.ok.glob (I.mod.glob.keeps I.bk) hcode (TB.code.keeps I.bk) hP' ht hc bP fun ctv h' tk' hx hsz => ?_
    have I1 : Inv X pins σ H { s with heap := h', toks := tk' } := I.kept hx
    have nF : H h'.objs.size = none := I1.hok.fresh (Nat.le_refl _)
    have I2 := inv_fx (F := FX.lam params body scope (X.env.qual ++ "<lambda>") (cloFrom X.env.cells scope.names []) c') (o := PySem.W.kla_obj "<lambda>" (X.env.qual ++ "<lambda>") params body scope (cloFrom X.env.cells scope.names []) ((X.mg "__name__").getD .none) c' ctv) (t' := tk') (doc := .none) (pm := (X.mg "__name__").getD .none) (ctv := ctv) I1 rfl
    refine ⟨.ref h'.objs.size, _, I2, rfl, h h'.objs.size c' _ (fun b o e n => ?_) (fun b e => upd_none e) (tk _ (TabN.ext ⟨ps, hP, ht, ha⟩ fun b o e => ?_)) nF upd_same ?_⟩
    · exact (upd_ne (ne_of_none e nF)).trans e
    · exact (upd_ne (ne_of_none e nF)).trans e
    · exact (upd_ne (ne_of_none hco nF)).trans hco
/-- THE RULE: a lambda by its body -/
theorem xok_lam {P : Program} {w : World} {K : PySem.W.Frag} {mg : Str → Option Value} {base : Heap} {k : Nat} {f c : Addr} {params : Arguments} {body : Expr} {scope : Scope} {qual : Str} {cl : List (Str × Addr)} {N ps fr : List Str} {sp : List (Option V) → Sp} (S : NScope N ps fr scope)
    (hb : ∀ (pm ctv : Value) (us : List Value), us.length = ps.length → bindArgs (PySem.W.kla_fn "<lambda>" qual params body scope cl pm (.ref c) ctv) ⟨us, []⟩ = pure (ps.zip us)) (len : ∀ ws vs H Q E, sp ws vs H Q E → vs.length = ps.length)
    (hbody : ∀ (A : Around) (outer : List Env) (s : Shared) (H : Hp) (vs : List V) (ws : List (Option V)) (Q : VK) (E : XK), Room k (A.deeper (envF ⟨"<lambda>", qual, params, [], scope, cl, c⟩ f s.heap.objs.size)) → ws.length = fr.length → sp ws vs H Q E →
      ∃ t, PE (ncx (L2.CX P w) P w K mg base N ⟨"<lambda>", qual, params, [], scope, cl, c⟩ f A outer s H E) body t ∧ t (startF N vs ws) H Q) :
    XOk P w K mg base (k + 1) f (FX.lam params body scope qual cl c) ps fr sp := by
  refine ⟨fun A outer s H us vs ws Q E hr e0 hf hc C r hsp => ?_⟩
  have hl := len _ _ _ _ _ hsp
  have lim : s.heap.NoLimit := e0.mod.nolimit.keeps fun b o e => (e0.bs b o e).1
  obtain ⟨od, sl, doc, pm, ctv, ho⟩ := fxO_at e0.hok hf
  refine PySem.W.kla_callFunE hr.depth ho rfl S.co S.gen rfl (codeO_at e0.hok hc) ?_
  rw [show bindArgs ((FX.lam params body scope qual cl c).fd doc pm ctv) ⟨us, []⟩ = pure (ps.zip us) from hb pm ctv us (by rw [← r.length]; exact hl)]
  refine wpAny_pure (wpAny_newFunctionEnv S.nocell (fun ⟨n, _⟩ hy => S.par n (List.of_mem_zip hy).1) (fun h₁ hns hsb => ⟨lim.fresh _ hsb, ?_⟩) S.kind)
  show codeAny _ _ (.expr body (envF ⟨"<lambda>", qual, params, [], scope, cl, c⟩ f s.heap.objs.size)) _ _
  have kp : ∀ b o, s.heap.get? b = some o → h₁.get? b = some o := fun b o e => hsb.extBut b o (Nat.ne_of_lt (Heap.lt_size e)) (Heap.get?_push_of_some _ e)
  obtain ⟨t, ht, hq⟩ := hbody A outer s H vs ws Q E (hr.deeper _) C.len hsp
  have I : Inv (ncx (L2.CX P w) P w K mg base N ⟨"<lambda>", qual, params, [], scope, cl, c⟩ f A outer s H E) [] (startF N vs ws) H { s with heap := h₁, toks := s.toks + (ps.zip us).length } := inv_startN (F := ⟨"<lambda>", qual, params, [], scope, cl, c⟩) S hr.hd e0 hl r C hns kp
  refine PySem.W.kla_codeExpr (wpAny_mono (ht.run [] _ (startF N vs ws) H Q I hq) (fun v s' hq => ?_) fun e s' hq => hq)
  obtain ⟨w', H', J, rv, q⟩ := hq
  exact ⟨w', H', J.os, J.bare, J.base, J.hok, rv, q⟩
/-- a maker by its text -/
theorem FunD.okG {P : Program} {w : World} {K : PySem.W.Frag} {mg : Str → Option Value} {base : Heap} {x qual : Str} {params : Arguments} {body : List Stmt} {scope : Scope} {dvs : List V} {kws : List (Str × V)} {p : He.Defn} {fd : FuncData} {N ps : List Str} {k : Nat} {sp : Sp}
    (F : FunD K x qual params body scope dvs kws (He.fAd K p) fd) (S : FnScope N ps scope) (len : ∀ vs H Q E, sp vs H Q E → vs.length = ps.length)
    (hbody : ∀ (cdv : Value) (A : Around) (outer : List Env) (s : Shared) (H : Hp) (vs : List V) (Q : VK) (E : XK), cdv = .ref (He.cT K p).1 → Room k (A.deeper (envOfC qual scope s.heap.objs.size (He.fAd K p) cdv)) → sp vs H Q E →
      ∃ t, PSG (cxOf (L2.CX P w) P w K mg base N qual scope (He.fAd K p) cdv A outer s H E) body t ∧ t (fun v σ' H' => ∀ H'', Gone (envOfC qual scope s.heap.objs.size (He.fAd K p) cdv) N σ' H' H'' → Q v H'') (start N vs) H) : FnOk P w K mg base (L2.CX P w) (k + 1) (He.fAd K p) fd ps sp := by
  obtain ⟨oc, od, dV, kV, doc, pm, an, cdv, ct, osl, rfl, lk, hcd, _, _⟩ := F.ex
  obtain ⟨c, hc⟩ := He.codeIn_ref hcd
  have e : cdv = .ref (He.cT K p).1 := by
    rw [hc]
    exact congrArg Value.ref (He.codeOf_eq lk hc).symm
  exact fn_ofG lk hcd S len fun A outer s H vs Q E hr hsp => hbody cdv A outer s H vs Q E e hr hsp
/-! the head's hook with the makers' tables -/
structure TabsOk (tf : List He.Defn) (K : PySem.W.Frag) (h : Heap) : Prop where
  hd : ∀ p ∈ tf, PySem.W.codeHdIn K (He.cT K p).1 (He.cT K p).2 = true
  out : ∀ p ∈ tf, K.lookup (He.cT K p).2 = none
  empty : ∀ p ∈ tf, h.get? (He.cT K p).2 = some { cls := .none, data := .fields #[] }
def obsT (n : Nat) (fa : List He.Fa) (fn : List He.DefD) (ex : PySem.W.Frag → Bool) (tf : List He.Defn) (g : Addr → Option Obj) : He.AlD × Bool := (He.obsD fa fn (He.frT g (reachS g n)), ex (He.frT g (reachS g n)) && He.tabsB g tf (He.frT g (reachS g n)))
def hookT (n : Nat) (fa : List He.Fa) (fn : List He.DefD) (ex : PySem.W.Frag → Bool) (tf : List He.Defn) : PySem.W.Hook where
  α := He.AlD × Bool
  obs s := obsT n fa fn ex tf s.heap.get?
  val _ := (He.valD fn, true)
  says _ h := ∃ K : PySem.W.Frag, K.In h ∧ He.SaysD fa fn K ∧ ex K = true ∧ TabsOk tf K h
  of _ s e := by
    have e1 := congrArg (fun z : He.AlD × Bool => z.1) e
    have e2 := congrArg (fun z : He.AlD × Bool => z.2) e
    obtain ⟨h1, h2⟩ := He.ba (show (ex (He.frT s.heap.get? (reachS s.heap.get? n)) && He.tabsB s.heap.get? tf (He.frT s.heap.get? (reachS s.heap.get? n))) = true from e2)
    have key : ∀ p ∈ tf, PySem.W.codeHdIn (He.frT s.heap.get? (reachS s.heap.get? n)) (He.cT (He.frT s.heap.get? (reachS s.heap.get? n)) p).1 (He.cT (He.frT s.heap.get? (reachS s.heap.get? n)) p).2 = true ∧ ∃ o, s.heap.get? (He.cT (He.frT s.heap.get? (reachS s.heap.get? n)) p).2 = some o ∧ He.emptyTab o = true := fun p hp => by
      obtain ⟨h3, h4⟩ := He.ba (List.all_eq_true.mp h2 p hp)
      refine ⟨h3, ?_⟩
      cases q : s.heap.get? (He.cT (He.frT s.heap.get? (reachS s.heap.get? n)) p).2 with
      | none => rw [q] at h4; cases h4
      | some o => rw [q] at h4; exact ⟨o, rfl, h4⟩
    exact ⟨_, He.frT_in, e1, h1, ⟨fun p hp => (key p hp).1, fun p hp => by
      obtain ⟨_, o, q, z⟩ := key p hp
      exact He.frT_none q z, fun p hp => by
      obtain ⟨_, o, q, z⟩ := key p hp
      rw [q, He.emptyTab_eq z]⟩⟩
  keeps := fun _ _ _ ⟨K, hK, c1, c2, t⟩ k => ⟨K, PySem.W.Frag.In.keeps hK k, c1, c2, ⟨t.hd, t.out, fun p hp => k _ _ (t.empty p hp)⟩⟩
theorem obsT_eq {n : Nat} {fa : List He.Fa} {fn : List He.DefD} {ex : PySem.W.Frag → Bool} {tf : List He.Defn} {g : Addr → Option Obj} {s : Shared} (h : ∀ a, g a = s.heap.get? a) : obsT n fa fn ex tf g = (hookT n fa fn ex tf).obs s := by
  obtain rfl : g = s.heap.get? := funext h
  rfl
/-- the same, its addresses given -/
def obsTA (as : List Addr) (fa : List He.Fa) (fn : List He.DefD) (ex : PySem.W.Frag → Bool) (tf : List He.Defn) (g : Addr → Option Obj) : He.AlD × Bool := (He.obsD fa fn (He.frT g as), ex (He.frT g as) && He.tabsB g tf (He.frT g as))
def hookTA (as : List Addr) (fa : List He.Fa) (fn : List He.DefD) (ex : PySem.W.Frag → Bool) (tf : List He.Defn) : PySem.W.Hook where
  α := He.AlD × Bool
  obs s := obsTA as fa fn ex tf s.heap.get?
  val _ := (He.valD fn, true)
  says _ h := ∃ K : PySem.W.Frag, K.In h ∧ He.SaysD fa fn K ∧ ex K = true ∧ TabsOk tf K h
  of _ s e := by
    have e1 := congrArg (fun z : He.AlD × Bool => z.1) e
    have e2 := congrArg (fun z : He.AlD × Bool => z.2) e
    obtain ⟨h1, h2⟩ := He.ba (show (ex (He.frT s.heap.get? as) && He.tabsB s.heap.get? tf (He.frT s.heap.get? as)) = true from e2)
    have key : ∀ p ∈ tf, PySem.W.codeHdIn (He.frT s.heap.get? as) (He.cT (He.frT s.heap.get? as) p).1 (He.cT (He.frT s.heap.get? as) p).2 = true ∧ ∃ o, s.heap.get? (He.cT (He.frT s.heap.get? as) p).2 = some o ∧ He.emptyTab o = true := fun p hp => by
      obtain ⟨h3, h4⟩ := He.ba (List.all_eq_true.mp h2 p hp)
      refine ⟨h3, ?_⟩
      cases q : s.heap.get? (He.cT (He.frT s.heap.get? as) p).2 with
      | none => rw [q] at h4; cases h4
      | some o => rw [q] at h4; exact ⟨o, rfl, h4⟩
    exact ⟨_, He.frT_in, e1, h1, ⟨fun p hp => (key p hp).1, fun p hp => by
      obtain ⟨_, o, q, z⟩ := key p hp
      exact He.frT_none q z, fun p hp => by
      obtain ⟨_, o, q, z⟩ := key p hp
      rw [q, He.emptyTab_eq z]⟩⟩
  keeps := fun _ _ _ ⟨K, hK, c1, c2, t⟩ k => ⟨K, PySem.W.Frag.In.keeps hK k, c1, c2, ⟨t.hd, t.out, fun p hp => k _ _ (t.empty p hp)⟩⟩
theorem obsTA_eq {as : List Addr} {fa : List He.Fa} {fn : List He.DefD} {ex : PySem.W.Frag → Bool} {tf : List He.Defn} {g : Addr → Option Obj} {s : Shared} (h : ∀ a, g a = s.heap.get? a) : obsTA as fa fn ex tf g = (hookTA as fa fn ex tf).obs s := by
  obtain rfl : g = s.heap.get? := funext h
  rfl
end Gx
namespace Gx
open PySem PySem.Spec PyProof.Rows L2 LamX NdefX
section
variable {σ : L2.St} {H : Hp} {R : V → L2.St → Hp → Prop} {t1 : TS} {t2 ta tr : TSG} {te : TE} {tc : TT}
theorem k_gSeq (q : t1 { nx := fun σ' H' => t2 R σ' H', rt := fun v H' => ∀ σ', R v σ' H' } σ H) : gSeq t1 t2 R σ H := q
theorem k_gRet (q : te σ H fun v H' => R v σ H') : gRet te R σ H := q
theorem k_gIf (q : tc σ H fun b H1 => if b = true then ta R σ H1 else tr R σ H1) : gIf tc ta tr R σ H := q
end
def subStmt : Stmt → Nat → Stmt
  | .If _ b _ _, i => b.getD i (.Pass ⟨0, 0, 0, 0⟩)
  | s, _ => s
def lamIn : Stmt → Expr
  | .Return (some (.Call _ (l :: _) _ _)) _ => l
  | _ => .Constant .none 0 ⟨0, 0, 0, 0⟩
def lamArgs : Expr → Arguments
  | .Lambda a _ _ _ => a
  | _ => ⟨[], [], none, [], [], none, []⟩
def lamBody : Expr → Expr
  | .Lambda _ b _ _ => b
  | e => e
def lamScope : Expr → Scope
  | .Lambda _ _ s _ => s
  | _ => { kind := .function, names := [], isGenerator := false, isCoroutine := false }
end Gx
namespace Gx
open PySem PySem.Spec PyProof.Rows L2 LamX NdefX
theorem Clo.imm {H H' : Hp} {f : Addr} {F : FX} {fr : List Str} {ws : List V} (C : Clo H f F fr ws) (e : Imm H H') : Clo H' f F fr ws := C.mono fun b φ h => e _ _ h trivial
theorem imm_ext {H H' : Hp} (e : ExtN H H') : Imm H H' := fun a o h f => e a o h (by rintro ps rfl; exact f)
theorem frz_unpin {cs : List Addr} {H : Hp} (p : Pinned cs H) {l : Addr} {o : Obj} {u : HO} (h : H l = some (.frz o u)) : unpin cs H l = some (.frz o u) := unpin_at p h (by intro φ z; cases z)
end Gx
namespace Lw
open PySem PySem.Spec PyProof.Rows L2 Gx
theorem pairedT_unpin {K : PySem.W.Frag} {cs : List Addr} {H : Hp} (p : Pinned cs H) {α : Type} {f : α → List V} : ∀ {vs : List V} {qs : List α}, PySem.Paired (fun v q => ∃ p, v = V.ref p ∧ SqT K H p (f q)) vs qs → PySem.Paired (fun v q => ∃ p, v = V.ref p ∧ SqT K (unpin cs H) p (f q)) vs qs
  | _, _, .nil => .nil
  | _, _, .cons ⟨a, h, g⟩ r => .cons ⟨a, h, seqT_unpin p g⟩ (pairedT_unpin p r)
end Lw
namespace Gx
open PySem PySem.Spec PyProof.Rows L2 LamX NdefX
def ndefC (sc nsc : Scope) (fr : List Str) : Bool := (nsc.names.all fun y => !decide (y.2 = .free) || decide (sc.names.lookup y.1 = some .cell)) && fr.all fun y => decide ((y, NameKind.free) ∈ nsc.names)
theorem Gone.made {N : List Str} {σ : L2.St} {H H' : Hp} {f a L : Addr} {F : FX} {q : Str} {sc nsc : Scope} {cd : Value} {fr : List Str} {js : List Nat} {ws : List V} (g : Gone (envOfC q sc L a cd) N σ H H') (h : ndefC sc nsc fr = true) (hcl : F.cl = cloFrom (envOfC q sc L a cd).cells nsc.names []) (hf : H f = some (FxO f F)) (hc : H F.c = some (CodeO F.c F.qual))
    (hjs : js.map (fun j => N[j]?) = fr.map some) (hws : js.map (fun j => σ[j]?) = ws.map fun v => some (some v)) : Clo H' f F fr ws := by
  unfold ndefC at h
  simp only [Bool.and_eq_true, Bool.or_eq_true, Bool.not_eq_true', decide_eq_true_eq, decide_eq_false_iff_not, List.all_eq_true] at h
  refine g.clo hcl hf hc (fun y hy e => ?_) (fun y hy => cell_has hy) h.2 hjs hws
  rcases h.1 y hy with z | z
  · exact absurd e z
  · exact z
end Gx
namespace Gx
open PySem PySem.Spec PyProof.Rows L2 LamX NdefX
theorem TabK.but2 {K : PySem.W.Frag} {H H' : Hp} {p : He.Defn} {q : Str} {l m C dx : Addr} {fs : List (Str × V)} {ys : List V} (t : TabK K H p q) (e : But2 l m H H') (hl : H l = some (.ins C dx fs)) (hm : H m = some (.lst ys)) : TabK K H' p q :=
  t.mono fun b u h z => e _ _ (ne_of h hl (by rintro rfl; rcases z with ⟨_, z⟩ | ⟨_, z⟩ <;> cases z)) (ne_of h hm (by rintro rfl; rcases z with ⟨_, z⟩ | ⟨_, z⟩ <;> cases z)) h
end Gx
open PySem PySem.Spec PyProof.Rows L2 Gx
local macro_rules | `(tactic| walk_at "s1") => `(tactic| first
  | refine k_var rfl ?_ | refine k_c ?_ | refine k_op ?_ | refine k_seq ?_ | refine k_asg ?_ | refine k_gn ?_ | refine k_gcons ?_ | refine k_gnil ?_ | refine k_ifs ?_ | refine k_tst ?_ | refine k_B ?_ | refine k_bl ?_
  | refine k_ret ?_ | refine k_drop ?_ | refine k_next ?_ | refine k_par ?_ | refine k_two ?_ | refine k_for ?_ | refine k_iRng1 ?_ | refine k_iRng2 ?_ | refine k_iList ?_ | refine k_iTup ?_ | refine k_iSeqU ?_
  | refine k_cb ?_ | refine k_cons ?_ | refine k_nil ?_ | refine k_callS ?_ | refine k_call ?_ | refine k_tup0 ?_ | refine k_lst0 ?_ | refine k_bm0 ?_ | refine k_bm ?_
  | refine k_and ?_ | refine k_or ?_ | refine k_not ?_ | refine k_andV ?_ | refine k_orV ?_ | refine k_notV ?_ | refine k_ife ?_ | refine k_chain ?_ | refine k_un ?_ | refine k_rev ?_ | refine k_st ?_ | refine k_revT ?_
  | refine k_I0 ?_ | refine k_addI ?_ | refine k_eqI ?_ | refine k_neI ?_ | refine k_eqT ?_ | refine k_neT ?_ | refine k_eqB ?_ | refine k_neB ?_ | refine k_neg ?_
  | refine k_fld ?_ | refine k_sfld ?_ | refine k_meth ?_ | refine k_make ?_ | refine k_makeB ?_ | refine k_makeS ?_ | refine k_revR ?_ | refine k_iEnum ?_ | refine k_iEnumT ?_ | refine k_isBl ?_ | refine k_notBl ?_ | refine k_lenSetT ?_ | refine k_mk0 ?_ | refine k_mkF ?_ | refine k_iZipM ?_ | refine k_iZipN ?_ | refine k_iStr ?_ | refine k_itS ?_ | refine k_iZipU ?_ | refine k_cntT ?_ | refine k_veI ?_ | refine k_ost ?_ | refine k_xf ?_ | refine k_aug rfl ?_ | refine k_ip ?_ | refine k_frz ?_ | refine k_gsub ?_ | refine k_m1 ?_ | refine k_m0 ?_ | refine k_isS ?_ | refine k_abs ?_ | refine k_max ?_ | refine k_min ?_ | refine k_intI ?_ | refine k_intB ?_ | refine k_lc ?_ | refine k_yes ?_ | refine k_listRg ?_ | refine k_rg1 ?_ | refine k_sl ?_ | refine k_part ?_ | refine k_noPart ?_ | refine k_int ?_ | refine k_dict0 ?_ | refine k_isN ?_ | refine k_notN ?_
  | refine k_nonT ?_ | refine k_nonF ?_ | refine k_refT ?_ | refine k_refF ?_ | refine k_blT ?_ | refine k_blF ?_ | refine k_strT ?_ | refine k_strF ?_ | refine k_ifT ?_ | refine k_ifF ?_ | refine k_ifnT ?_ | refine k_ifnF ?_)
local macro_rules | `(tactic| walk_at "s2") => `(tactic| first
  | refine k_powc (a := 10) (b := 61) (c := 10000000000000000000000000000000000000000000000000000000000000) (by decide +kernel) (cpow (by decide) (by decide) (by decide)) ?_
  | refine k_powc (a := 10) (b := 60) (c := 1000000000000000000000000000000000000000000000000000000000000) (by decide +kernel) (cpow (by decide) (by decide) (by decide)) ?_
  | refine k_powc (a := 10) (b := 12) (c := 1000000000000) (by decide +kernel) (cpow (by decide) (by decide) (by decide)) ?_
  | refine k_powc (a := 10) (b := 5) (c := 100000) (by decide +kernel) (cpow (by decide) (by decide) (by decide)) ?_
  | refine k_powc (a := 10) (b := 6) (c := 1000000) (by decide +kernel) (cpow (by decide) (by decide) (by decide)) ?_
  | refine k_powc (a := 10) (b := 9) (c := 1000000000) (by decide +kernel) (cpow (by decide) (by decide) (by decide)) ?_
  | refine k_powc (a := 10) (b := 20) (c := 100000000000000000000) (by decide +kernel) (cpow (by decide) (by decide) (by decide)) ?_
  | refine k_powc (a := 10) (b := 50) (c := 100000000000000000000000000000000000000000000000000) (by decide +kernel) (cpow (by decide) (by decide) (by decide)) ?_
  | refine k_powc (a := 10) (b := 58) (c := 10000000000000000000000000000000000000000000000000000000000) (by decide +kernel) (cpow (by decide) (by decide) (by decide)) ?_
  | refine k_mod (by first | decide | omega) ?_
  | refine k_div (by first | decide | omega) (by first | decide +kernel | exact k_log (by omega)) ?_)
local macro_rules | `(tactic| walk_at "go") => `(tactic| repeat (first | with_reducible walk_at "s1" | with_reducible walk_at "s2"))
local macro_rules | `(tactic| walk_at "up") => `(tactic| first | assumption | (refine up_same (by assumption) ?_; walk_at "up") | (refine up_but (by assumption) (by first | assumption | (apply Ne.symm; assumption)) ?_; walk_at "up"))
local macro_rules | `(tactic| walk_at "ut") => `(tactic| first | assumption | exact SqT.of (by assumption) | (refine seqT_same (by assumption) ?_; walk_at "ut"))
local macro_rules | `(tactic| walk_at "ul") => `(tactic| first | assumption | exact SqL.of (by assumption) | (refine seqL_same (by assumption) ?_; walk_at "ul"))
local macro_rules | `(tactic| walk_at "n") => `(tactic| first | with_reducible walk_at "s1" | with_reducible walk_at "s2")
local macro_rules | `(tactic| walk_at "lk") => `(tactic| first | exact lk1 | (apply lkn; (decide +kernel); walk_at "lk"))
local macro_rules | `(tactic| walk_at "lz") => `(tactic| first | exact lk0 | (apply lkz; (decide +kernel); walk_at "lz"))
local macro_rules | `(tactic| walk_at "pf") => `(tactic| first | rfl | (rw [pfn]; (walk_at "pf"); (decide +kernel)) | (rw [pf1]; walk_at "pf") | (rw [pf0]; walk_at "pf"))
local macro_rules | `(tactic| walk_at "pl") => `(tactic| first | exact Nat.lt_of_lt_of_le pfl0 (by decide) | exact Nat.lt_of_lt_of_le (pfl pfl0) (by decide) | exact Nat.lt_of_lt_of_le (pfl (pfl pfl0)) (by decide) | exact Nat.lt_of_lt_of_le (pfl (pfl (pfl pfl0))) (by decide) | exact Nat.lt_of_lt_of_le (pfl (pfl (pfl (pfl pfl0)))) (by decide) | exact Nat.lt_of_lt_of_le (pfl (pfl (pfl (pfl (pfl pfl0))))) (by decide) | exact Nat.lt_of_lt_of_le (pfl (pfl (pfl (pfl (pfl (pfl pfl0)))))) (by decide) | exact Nat.lt_of_lt_of_le (pfl (pfl (pfl (pfl (pfl (pfl (pfl pfl0))))))) (by decide) | exact Nat.lt_of_lt_of_le (pfl (pfl (pfl (pfl (pfl (pfl (pfl (pfl pfl0)))))))) (by decide) | exact Nat.lt_of_lt_of_le (pfl (pfl (pfl (pfl (pfl (pfl (pfl (pfl (pfl pfl0))))))))) (by decide) | (simp; done))
local macro_rules | `(tactic| walk_at "st") => `(tactic| repeat (first | with_reducible refine k_next ?_ | with_reducible refine k_seq ?_))
open PySem PySem.Spec PyProof.Rows L2 Gx LamX NdefX
local macro_rules | `(tactic| walk_at "s1") => `(tactic| first
  | refine k_gSeq ?_ | refine k_gRet ?_ | refine k_gIf ?_ | refine k_fldcall ?_ | refine k_valcall ?_)
namespace Lw
open PySem PySem.Spec PyProof.Rows L2 Gx LamX NdefX
def top (i : Nat) : Stmt := PySem.Challenge.pw_surecount_k64_draws_alike.main.body.getD i (.Pass ⟨0, 0, 0, 0⟩)
abbrev s_NoStake___init__ : Stmt := inClass (top 8) 0
theorem sc_NoStake___init__ : FnScope ["self", "turn"] ["self", "turn"] (defScope s_NoStake___init__) := ⟨rfl, rfl, rfl, by decide +kernel, rfl, by decide +kernel, by decide +kernel⟩
abbrev s_is_whole : Stmt := top 10
theorem sc_is_whole : FnScope ["thing"] ["thing"] (defScope s_is_whole) := ⟨rfl, rfl, rfl, by decide +kernel, rfl, by decide +kernel, by decide +kernel⟩
abbrev s_in_common : Stmt := top 11
theorem sc_in_common : FnScope ["a", "b"] ["a", "b"] (defScope s_in_common) := ⟨rfl, rfl, rfl, by decide +kernel, rfl, by decide +kernel, by decide +kernel⟩
abbrev s_lowest : Stmt := top 12
theorem sc_lowest : FnScope ["a", "b", "divisor"] ["a", "b"] (defScope s_lowest) := ⟨rfl, rfl, rfl, by decide +kernel, rfl, by decide +kernel, by decide +kernel⟩
abbrev s_plus : Stmt := top 13
theorem sc_plus : FnScope ["x", "y"] ["x", "y"] (defScope s_plus) := ⟨rfl, rfl, rfl, by decide +kernel, rfl, by decide +kernel, by decide +kernel⟩
abbrev s_minus : Stmt := top 14
theorem sc_minus : FnScope ["x", "y"] ["x", "y"] (defScope s_minus) := ⟨rfl, rfl, rfl, by decide +kernel, rfl, by decide +kernel, by decide +kernel⟩
abbrev s_times : Stmt := top 15
theorem sc_times : FnScope ["x", "y"] ["x", "y"] (defScope s_times) := ⟨rfl, rfl, rfl, by decide +kernel, rfl, by decide +kernel, by decide +kernel⟩
abbrev s_over : Stmt := top 16
theorem sc_over : FnScope ["x", "y"] ["x", "y"] (defScope s_over) := ⟨rfl, rfl, rfl, by decide +kernel, rfl, by decide +kernel, by decide +kernel⟩
abbrev s_total : Stmt := top 17
theorem sc_total : FnScope ["some", "found", "x"] ["some"] (defScope s_total) := ⟨rfl, rfl, rfl, by decide +kernel, rfl, by decide +kernel, by decide +kernel⟩
abbrev s_below : Stmt := top 18
theorem sc_below : FnScope ["x", "y"] ["x", "y"] (defScope s_below) := ⟨rfl, rfl, rfl, by decide +kernel, rfl, by decide +kernel, by decide +kernel⟩
abbrev s_is_fraction : Stmt := top 19
theorem sc_is_fraction : FnScope ["thing"] ["thing"] (defScope s_is_fraction) := ⟨rfl, rfl, rfl, by decide +kernel, rfl, by decide +kernel, by decide +kernel⟩
abbrev s_Game___init__ : Stmt := inClass (top 23) 0
theorem sc_Game___init__ : FnScope ["self", "many", "again", "top", "rule"] ["self", "many", "again", "top", "rule"] (defScope s_Game___init__) := ⟨rfl, rfl, rfl, by decide +kernel, rfl, by decide +kernel, by decide +kernel⟩
abbrev s_Game_ended : Stmt := inClass (top 23) 2
theorem sc_Game_ended : FnScope ["self"] ["self"] (defScope s_Game_ended) := ⟨rfl, rfl, rfl, by decide +kernel, rfl, by decide +kernel, by decide +kernel⟩
abbrev s_Game_price : Stmt := inClass (top 23) 3
theorem sc_Game_price : FnScope ["self"] ["self"] (defScope s_Game_price) := ⟨rfl, rfl, rfl, by decide +kernel, rfl, by decide +kernel, by decide +kernel⟩
abbrev s_Game_worth_behind : Stmt := inClass (top 23) 4
theorem sc_Game_worth_behind : FnScope ["self", "value", "price", "stake", "grown"] ["self", "value"] (defScope s_Game_worth_behind) := ⟨rfl, rfl, rfl, by decide +kernel, rfl, by decide +kernel, by decide +kernel⟩
abbrev s_Game_play : Stmt := inClass (top 23) 5
theorem sc_Game_play : FnScope ["self", "value", "worth"] ["self", "value"] (defScope s_Game_play) := ⟨rfl, rfl, rfl, by decide +kernel, rfl, by decide +kernel, by decide +kernel⟩
abbrev s_Game_reached : Stmt := inClass (top 23) 9
theorem sc_Game_reached : FnScope ["self", "limit"] ["self", "limit"] (defScope s_Game_reached) := ⟨rfl, rfl, rfl, by decide +kernel, rfl, by decide +kernel, by decide +kernel⟩
abbrev s_Way___init__ : Stmt := inClass (top 28) 0
theorem sc_Way___init__ : FnScope ["self", "claim"] ["self", "claim"] (defScope s_Way___init__) := ⟨rfl, rfl, rfl, by decide +kernel, rfl, by decide +kernel, by decide +kernel⟩
abbrev s_Comparing___init__ : Stmt := inClass (top 29) 0
theorem sc_Comparing___init__ : FnScope ["self", "claim", "marks", "mean", "margin", "mark"] ["self", "claim", "marks"] (defScope s_Comparing___init__) := ⟨rfl, rfl, rfl, by decide +kernel, rfl, by decide +kernel, by decide +kernel⟩
abbrev s_Comparing_value : Stmt := inClass (top 29) 1
theorem sc_Comparing_value : FnScope ["self", "number", "mark", "lost", "part"] ["self", "number", "mark"] (defScope s_Comparing_value) := ⟨rfl, rfl, rfl, by decide +kernel, rfl, by decide +kernel, by decide +kernel⟩
abbrev s_Comparing_top : Stmt := inClass (top 29) 2
theorem sc_Comparing_top : FnScope ["self"] ["self"] (defScope s_Comparing_top) := ⟨rfl, rfl, rfl, by decide +kernel, rfl, by decide +kernel, by decide +kernel⟩
abbrev s_draws_alike : Stmt := top 32
theorem sc_draws_alike : FnScope ["claim", "marks", "rule", "limit", "again", "way", "game", "most", "many"] ["claim", "marks", "rule", "limit", "again"] (defScope s_draws_alike) := ⟨rfl, rfl, rfl, by decide +kernel, rfl, by decide +kernel, by decide +kernel⟩
abbrev s_Claim_value : Stmt := inClass (top 37) 0
theorem sc_Claim_value : FnScope ["self", "mark"] ["self", "mark"] (defScope s_Claim_value) := ⟨rfl, rfl, rfl, by decide +kernel, rfl, by decide +kernel, by decide +kernel⟩
abbrev s_Claim_value_of : Stmt := inClass (top 37) 1
theorem sc_Claim_value_of : FnScope ["self", "mark"] ["self", "mark"] (defScope s_Claim_value_of) := ⟨rfl, rfl, rfl, by decide +kernel, rfl, by decide +kernel, by decide +kernel⟩
abbrev s_Claim_greatest : Stmt := inClass (top 37) 2
theorem sc_Claim_greatest : FnScope ["self"] ["self"] (defScope s_Claim_greatest) := ⟨rfl, rfl, rfl, by decide +kernel, rfl, by decide +kernel, by decide +kernel⟩
abbrev s_Claim_holds : Stmt := inClass (top 37) 3
theorem sc_Claim_holds : FnScope ["self", "marks", "mark"] ["self", "marks"] (defScope s_Claim_holds) := ⟨rfl, rfl, rfl, by decide +kernel, rfl, by decide +kernel, by decide +kernel⟩
abbrev s_Beats___init__ : Stmt := inClass (top 38) 0
theorem sc_Beats___init__ : FnScope ["self", "one", "other"] ["self", "one", "other"] (defScope s_Beats___init__) := ⟨rfl, rfl, rfl, by decide +kernel, rfl, by decide +kernel, by decide +kernel⟩
abbrev s_Beats_value_of : Stmt := inClass (top 38) 1
theorem sc_Beats_value_of : FnScope ["self", "mark"] ["self", "mark"] (defScope s_Beats_value_of) := ⟨rfl, rfl, rfl, by decide +kernel, rfl, by decide +kernel, by decide +kernel⟩
abbrev s_Beats_greatest : Stmt := inClass (top 38) 2
theorem sc_Beats_greatest : FnScope ["self"] ["self"] (defScope s_Beats_greatest) := ⟨rfl, rfl, rfl, by decide +kernel, rfl, by decide +kernel, by decide +kernel⟩
abbrev s_Over___init__ : Stmt := inClass (top 39) 0
theorem sc_Over___init__ : FnScope ["self", "name", "share"] ["self", "name", "share"] (defScope s_Over___init__) := ⟨rfl, rfl, rfl, by decide +kernel, rfl, by decide +kernel, by decide +kernel⟩
abbrev s_Over_value_of : Stmt := inClass (top 39) 1
theorem sc_Over_value_of : FnScope ["self", "mark"] ["self", "mark"] (defScope s_Over_value_of) := ⟨rfl, rfl, rfl, by decide +kernel, rfl, by decide +kernel, by decide +kernel⟩
abbrev s_Over_greatest : Stmt := inClass (top 39) 2
theorem sc_Over_greatest : FnScope ["self"] ["self"] (defScope s_Over_greatest) := ⟨rfl, rfl, rfl, by decide +kernel, rfl, by decide +kernel, by decide +kernel⟩
abbrev s_Under___init__ : Stmt := inClass (top 40) 0
theorem sc_Under___init__ : FnScope ["self", "name", "share"] ["self", "name", "share"] (defScope s_Under___init__) := ⟨rfl, rfl, rfl, by decide +kernel, rfl, by decide +kernel, by decide +kernel⟩
abbrev s_Under_value_of : Stmt := inClass (top 40) 1
theorem sc_Under_value_of : FnScope ["self", "mark"] ["self", "mark"] (defScope s_Under_value_of) := ⟨rfl, rfl, rfl, by decide +kernel, rfl, by decide +kernel, by decide +kernel⟩
abbrev s_Under_greatest : Stmt := inClass (top 40) 2
theorem sc_Under_greatest : FnScope ["self"] ["self"] (defScope s_Under_greatest) := ⟨rfl, rfl, rfl, by decide +kernel, rfl, by decide +kernel, by decide +kernel⟩
abbrev s_within : Stmt := top 44
theorem sc_within : FnScope ["x"] ["x"] (defScope s_within) := ⟨rfl, rfl, rfl, by decide +kernel, rfl, by decide +kernel, by decide +kernel⟩
abbrev s_Rule_stake : Stmt := inClass (top 45) 0
theorem sc_Rule_stake : FnScope ["self", "past", "price", "top"] ["self", "past", "price", "top"] (defScope s_Rule_stake) := ⟨rfl, rfl, rfl, by decide +kernel, rfl, by decide +kernel, by decide +kernel⟩
abbrev s_Fixed___init__ : Stmt := inClass (top 46) 0
theorem sc_Fixed___init__ : FnScope ["self", "part"] ["self", "part"] (defScope s_Fixed___init__) := ⟨rfl, rfl, rfl, by decide +kernel, rfl, by decide +kernel, by decide +kernel⟩
abbrev s_Fixed_stake : Stmt := inClass (top 46) 1
theorem sc_Fixed_stake : FnScope ["self", "past", "price", "top"] ["self", "past", "price", "top"] (defScope s_Fixed_stake) := ⟨rfl, rfl, rfl, by decide +kernel, rfl, by decide +kernel, by decide +kernel⟩
abbrev s_Learning___init__ : Stmt := inClass (top 47) 0
theorem sc_Learning___init__ : FnScope ["self", "guess", "weight"] ["self", "guess", "weight"] (defScope s_Learning___init__) := ⟨rfl, rfl, rfl, by decide +kernel, rfl, by decide +kernel, by decide +kernel⟩
abbrev s_Learning_stake : Stmt := inClass (top 47) 1
theorem sc_Learning_stake : FnScope ["self", "past", "price", "top", "known", "expected"] ["self", "past", "price", "top"] (defScope s_Learning_stake) := ⟨rfl, rfl, rfl, by decide +kernel, rfl, by decide +kernel, by decide +kernel⟩
abbrev s_Asked___init__ : Stmt := inClass (top 48) 0
theorem sc_Asked___init__ : FnScope ["self", "function"] ["self", "function"] (defScope s_Asked___init__) := ⟨rfl, rfl, rfl, by decide +kernel, rfl, by decide +kernel, by decide +kernel⟩
abbrev s_Asked_stake : Stmt := inClass (top 48) 1
theorem sc_Asked_stake : FnScope ["self", "past", "price", "top", "told"] ["self", "past", "price", "top"] (defScope s_Asked_stake) := ⟨rfl, rfl, rfl, by decide +kernel, rfl, by decide +kernel, by decide +kernel⟩
abbrev s__law_digits : Stmt := top 51
theorem sc__law_digits : FnScope ["_law_script", "_law_k", "_law_cell", "_law_turn_here"] ["_law_script", "_law_k"] (defScope s__law_digits) := ⟨rfl, rfl, rfl, by decide +kernel, rfl, by decide +kernel, by decide +kernel⟩
abbrev s__law_deck : Stmt := top 52
theorem sc__law_deck : FnScope ["_law_script", "_law_most", "_law_deck_here", "_law_last", "_law_k", "_law_number"] ["_law_script", "_law_most"] (defScope s__law_deck) := ⟨rfl, rfl, rfl, by decide +kernel, rfl, by decide +kernel, by decide +kernel⟩
abbrev s__law_common : Stmt := top 53
theorem sc__law_common : FnScope ["_law_a", "_law_b"] ["_law_a", "_law_b"] (defScope s__law_common) := ⟨rfl, rfl, rfl, by decide +kernel, rfl, by decide +kernel, by decide +kernel⟩
abbrev s__law_made : Stmt := top 54
theorem sc__law_made : FnScope ["_law_a", "_law_b", "_law_common_here"] ["_law_a", "_law_b"] (defScope s__law_made) := ⟨rfl, rfl, rfl, by decide +kernel, rfl, by decide +kernel, by decide +kernel⟩
abbrev s__law_less : Stmt := top 55
theorem sc__law_less : FnScope ["_law_x", "_law_y"] ["_law_x", "_law_y"] (defScope s__law_less) := ⟨rfl, rfl, rfl, by decide +kernel, rfl, by decide +kernel, by decide +kernel⟩
abbrev s__law_sum : Stmt := top 56
theorem sc__law_sum : FnScope ["_law_x", "_law_y"] ["_law_x", "_law_y"] (defScope s__law_sum) := ⟨rfl, rfl, rfl, by decide +kernel, rfl, by decide +kernel, by decide +kernel⟩
abbrev s__law_product : Stmt := top 57
theorem sc__law_product : FnScope ["_law_x", "_law_y"] ["_law_x", "_law_y"] (defScope s__law_product) := ⟨rfl, rfl, rfl, by decide +kernel, rfl, by decide +kernel, by decide +kernel⟩
abbrev s__law_stake : Stmt := top 58
theorem sc__law_stake : FnScope ["_law_rule_here", "_law_past", "_law_price", "_law_top", "_law_known", "_law_value_here", "_law_short", "_law_more", "_law_room", "_law_part_here"] ["_law_rule_here", "_law_past", "_law_price", "_law_top"] (defScope s__law_stake) := ⟨rfl, rfl, rfl, by decide +kernel, rfl, by decide +kernel, by decide +kernel⟩
abbrev s__law_turn : Stmt := top 59
theorem sc__law_turn : FnScope ["_law_values", "_law_many", "_law_top", "_law_rule_here", "_law_limit_here", "_law_again", "_law_worth", "_law_gone", "_law_k", "_law_price", "_law_stake_here", "_law_grown"] ["_law_values", "_law_many", "_law_top", "_law_rule_here", "_law_limit_here", "_law_again"] (defScope s__law_turn) := ⟨rfl, rfl, rfl, by decide +kernel, rfl, by decide +kernel, by decide +kernel⟩
abbrev s__law_part : Stmt := top 60
theorem sc__law_part : FnScope ["_law_deck_here", "_law_b"] ["_law_deck_here"] (defScope s__law_part) := ⟨rfl, rfl, rfl, by decide +kernel, rfl, by decide +kernel, by decide +kernel⟩
abbrev s__law_rule : Stmt := top 61
theorem sc__law_rule : FnScope ["_law_deck_here", "_law_way", "_law_guess", "_law_k"] ["_law_deck_here"] (defScope s__law_rule) := ⟨rfl, rfl, rfl, by decide +kernel, rfl, by decide +kernel, by decide +kernel⟩
abbrev e__law_rule_of__lam : Expr := lamIn (subStmt ((defBody (top 62)).getD 2 (.Pass ⟨0, 0, 0, 0⟩)) 1)
theorem sc__law_rule_of__lam : NScope ["_law_past", "_law_parts"] ["_law_past"] ["_law_parts"] (lamScope e__law_rule_of__lam) := nscope_by (by decide +kernel)
def IsF__law_rule_of__lam (F : FX) : Prop := ∃ q cl c, F = FX.lam (lamArgs e__law_rule_of__lam) (lamBody e__law_rule_of__lam) (lamScope e__law_rule_of__lam) q cl c
abbrev p__law_rule_of__lam : He.Defn := ("_law_rule_of", none)
abbrev q__law_rule_of__lam : Str := (("_law_rule_of" : Str) ++ ".<locals>.") ++ "<lambda>"
abbrev s__law_rule_of : Stmt := top 62
theorem sc__law_rule_of : FnScope ["_law_rule_here", "_law_parts"] ["_law_rule_here"] (defScope s__law_rule_of) := ⟨rfl, rfl, rfl, by decide +kernel, rfl, by decide +kernel, by decide +kernel⟩
abbrev s__law_limit : Stmt := top 63
theorem sc__law_limit : FnScope ["_law_deck_here", "_law_b"] ["_law_deck_here"] (defScope s__law_limit) := ⟨rfl, rfl, rfl, by decide +kernel, rfl, by decide +kernel, by decide +kernel⟩
abbrev s__law_claim : Stmt := top 64
theorem sc__law_claim : FnScope ["_law_deck_here", "_law_way", "_law_b", "_law_share"] ["_law_deck_here"] (defScope s__law_claim) := ⟨rfl, rfl, rfl, by decide +kernel, rfl, by decide +kernel, by decide +kernel⟩
abbrev s__law_claim_of : Stmt := top 65
theorem sc__law_claim_of : FnScope ["_law_claim_here"] ["_law_claim_here"] (defScope s__law_claim_of) := ⟨rfl, rfl, rfl, by decide +kernel, rfl, by decide +kernel, by decide +kernel⟩
abbrev s__law_marks : Stmt := top 66
theorem sc__law_marks : FnScope ["_law_deck_here", "_law_claim_here", "_law_many", "_law_for_it", "_law_some", "_law_marks_here", "_law_seed", "_law_k"] ["_law_deck_here", "_law_claim_here"] (defScope s__law_marks) := ⟨rfl, rfl, rfl, by decide +kernel, rfl, by decide +kernel, by decide +kernel⟩
abbrev s__law_value : Stmt := top 67
theorem sc__law_value : FnScope ["_law_claim_here", "_law_mark"] ["_law_claim_here", "_law_mark"] (defScope s__law_value) := ⟨rfl, rfl, rfl, by decide +kernel, rfl, by decide +kernel, by decide +kernel⟩
abbrev s__law_told : Stmt := top 68
theorem sc__law_told : FnScope ["_law_claim_here", "_law_marks_here", "_law_rule_here", "_law_limit_here", "_law_again", "_law_found", "e", "_law_others"] ["_law_claim_here", "_law_marks_here", "_law_rule_here", "_law_limit_here", "_law_again"] (defScope s__law_told) := ⟨rfl, rfl, rfl, by decide +kernel, rfl, by decide +kernel, by decide +kernel⟩
abbrev s__law_due : Stmt := top 69
theorem sc__law_due : FnScope ["_law_claim_here", "_law_marks_here", "_law_rule_here", "_law_limit_here", "_law_again", "_law_many", "_law_values", "_law_mark", "_law_margin", "_law_share", "_law_left", "_law_most", "_law_value_here"] ["_law_claim_here", "_law_marks_here", "_law_rule_here", "_law_limit_here", "_law_again"] (defScope s__law_due) := ⟨rfl, rfl, rfl, by decide +kernel, rfl, by decide +kernel, by decide +kernel⟩
abbrev s_law : Stmt := top 70
theorem sc_law : FnScope ["_law_script", "_law_deck_here", "_law_claim_here", "_law_rule_here", "_law_limit_here", "_law_again", "_law_marks_here", "_law_due_here", "_law_found"] ["_law_script"] (defScope s_law) := ⟨rfl, rfl, rfl, by decide +kernel, rfl, by decide +kernel, by decide +kernel⟩
abbrev FnP (K : PySem.W.Frag) (x q : Str) (st : Stmt) (f : Addr) (fd : FuncData) : Prop := FunD K x q (defArgs st) (defBody st) (defScope st) [] [] f fd
structure Txt (K : PySem.W.Frag) (mg : Str → Option Value) : Prop where
  n_ValueError : mg "ValueError" = none
  n_abs : mg "abs" = none
  n_bool : mg "bool" = none
  n_int : mg "int" = none
  n_isinstance : mg "isinstance" = none
  n_len : mg "len" = none
  n_list : mg "list" = none
  n_max : mg "max" = none
  n_min : mg "min" = none
  n_range : mg "range" = none
  n_tuple : mg "tuple" = none
  c_Ended : ∃ u, mg "Ended" = some u ∧ RelV (.ref (He.ga K "Ended")) u
  c_HALF : ∃ u, mg "HALF" = some u ∧ RelV (.ref (He.ga K "HALF")) u
  t_HALF : ∀ H, SqT K H (He.ga K "HALF") [V.int 1, V.int 2]
  c_MOST_DRAWS : ∃ u, mg "MOST_DRAWS" = some u ∧ RelV (.int 60) u
  c_NOUGHT_claims : ∃ u, mg "NOUGHT_claims" = some u ∧ RelV (.ref (He.ga K "NOUGHT_claims")) u
  t_NOUGHT_claims : ∀ H, SqT K H (He.ga K "NOUGHT_claims") [V.int 0, V.int 1]
  c_NOUGHT_games : ∃ u, mg "NOUGHT_games" = some u ∧ RelV (.ref (He.ga K "NOUGHT_games")) u
  t_NOUGHT_games : ∀ H, SqT K H (He.ga K "NOUGHT_games") [V.int 0, V.int 1]
  c_NOUGHT_rules : ∃ u, mg "NOUGHT_rules" = some u ∧ RelV (.ref (He.ga K "NOUGHT_rules")) u
  t_NOUGHT_rules : ∀ H, SqT K H (He.ga K "NOUGHT_rules") [V.int 0, V.int 1]
  c_NOUGHT_ways : ∃ u, mg "NOUGHT_ways" = some u ∧ RelV (.ref (He.ga K "NOUGHT_ways")) u
  t_NOUGHT_ways : ∀ H, SqT K H (He.ga K "NOUGHT_ways") [V.int 0, V.int 1]
  c_NoFraction : ∃ u, mg "NoFraction" = some u ∧ RelV (.ref (He.ga K "NoFraction")) u
  c_NoMargin : ∃ u, mg "NoMargin" = some u ∧ RelV (.ref (He.ga K "NoMargin")) u
  c_NoNumber : ∃ u, mg "NoNumber" = some u ∧ RelV (.ref (He.ga K "NoNumber")) u
  c_NoOutcome : ∃ u, mg "NoOutcome" = some u ∧ RelV (.ref (He.ga K "NoOutcome")) u
  c_ONE_claims : ∃ u, mg "ONE_claims" = some u ∧ RelV (.ref (He.ga K "ONE_claims")) u
  t_ONE_claims : ∀ H, SqT K H (He.ga K "ONE_claims") [V.int 1, V.int 1]
  c_ONE_games : ∃ u, mg "ONE_games" = some u ∧ RelV (.ref (He.ga K "ONE_games")) u
  t_ONE_games : ∀ H, SqT K H (He.ga K "ONE_games") [V.int 1, V.int 1]
  c_ONE_rules : ∃ u, mg "ONE_rules" = some u ∧ RelV (.ref (He.ga K "ONE_rules")) u
  t_ONE_rules : ∀ H, SqT K H (He.ga K "ONE_rules") [V.int 1, V.int 1]
  c_ONE_ways : ∃ u, mg "ONE_ways" = some u ∧ RelV (.ref (He.ga K "ONE_ways")) u
  t_ONE_ways : ∀ H, SqT K H (He.ga K "ONE_ways") [V.int 1, V.int 1]
  c_TWO : ∃ u, mg "TWO" = some u ∧ RelV (.ref (He.ga K "TWO")) u
  t_TWO : ∀ H, SqT K H (He.ga K "TWO") [V.int 2, V.int 1]
  cl_Game : Cls K (He.ga K "Game")
  f_Game_many : NoAttr K (He.ga K "Game") "many"
  f_Game_again : NoAttr K (He.ga K "Game") "again"
  f_Game_highest : NoAttr K (He.ga K "Game") "highest"
  f_Game_rule : NoAttr K (He.ga K "Game") "rule"
  f_Game_drawn_values : NoAttr K (He.ga K "Game") "drawn_values"
  f_Game_sum_so_far : NoAttr K (He.ga K "Game") "sum_so_far"
  f_Game_now : NoAttr K (He.ga K "Game") "now"
  f_Game_most : NoAttr K (He.ga K "Game") "most"
  f_Game_certain : NoAttr K (He.ga K "Game") "certain"
  cl_Asked : Cls K (He.ga K "Asked")
  f_Asked_function : NoAttr K (He.ga K "Asked") "function"
  cl_Learning : Cls K (He.ga K "Learning")
  f_Learning_guess : NoAttr K (He.ga K "Learning") "guess"
  f_Learning_weight : NoAttr K (He.ga K "Learning") "weight"
  cl_Fixed : Cls K (He.ga K "Fixed")
  f_Fixed_part : NoAttr K (He.ga K "Fixed") "part"
  cl_Rule : Cls K (He.ga K "Rule")
  cl_Under : Cls K (He.ga K "Under")
  f_Under_name : NoAttr K (He.ga K "Under") "name"
  f_Under_share : NoAttr K (He.ga K "Under") "share"
  cl_Over : Cls K (He.ga K "Over")
  f_Over_name : NoAttr K (He.ga K "Over") "name"
  f_Over_share : NoAttr K (He.ga K "Over") "share"
  cl_Beats : Cls K (He.ga K "Beats")
  f_Beats_one : NoAttr K (He.ga K "Beats") "one"
  f_Beats_other : NoAttr K (He.ga K "Beats") "other"
  cl_Claim : Cls K (He.ga K "Claim")
  cl_Way : Cls K (He.ga K "Way")
  f_Way_claim : NoAttr K (He.ga K "Way") "claim"
  cl_Comparing : Cls K (He.ga K "Comparing")
  f_Comparing_told : NoAttr K (He.ga K "Comparing") "told"
  f_Comparing_scale : NoAttr K (He.ga K "Comparing") "scale"
  f_Comparing_claim : NoAttr K (He.ga K "Comparing") "claim"
  mb_Rule : MbC K mg "Rule"
  me_Game_ended : Meth K (He.ga K "Game") "ended" (He.ma K (He.ga K "Game") "ended")
  me_Asked_stake : Meth K (He.ga K "Asked") "stake" (He.ma K (He.ga K "Asked") "stake")
  me_Learning_stake : Meth K (He.ga K "Learning") "stake" (He.ma K (He.ga K "Learning") "stake")
  me_Fixed_stake : Meth K (He.ga K "Fixed") "stake" (He.ma K (He.ga K "Fixed") "stake")
  me_Rule_stake : Meth K (He.ga K "Rule") "stake" (He.ma K (He.ga K "Rule") "stake")
  me_Game_price : Meth K (He.ga K "Game") "price" (He.ma K (He.ga K "Game") "price")
  me_Game_worth_behind : Meth K (He.ga K "Game") "worth_behind" (He.ma K (He.ga K "Game") "worth_behind")
  me_Under_greatest : Meth K (He.ga K "Under") "greatest" (He.ma K (He.ga K "Under") "greatest")
  me_Over_greatest : Meth K (He.ga K "Over") "greatest" (He.ma K (He.ga K "Over") "greatest")
  me_Beats_greatest : Meth K (He.ga K "Beats") "greatest" (He.ma K (He.ga K "Beats") "greatest")
  me_Claim_greatest : Meth K (He.ga K "Claim") "greatest" (He.ma K (He.ga K "Claim") "greatest")
  me_Under_value : Meth K (He.ga K "Under") "value" (He.ma K (He.ga K "Claim") "value")
  me_Over_value : Meth K (He.ga K "Over") "value" (He.ma K (He.ga K "Claim") "value")
  me_Beats_value : Meth K (He.ga K "Beats") "value" (He.ma K (He.ga K "Claim") "value")
  me_Claim_value : Meth K (He.ga K "Claim") "value" (He.ma K (He.ga K "Claim") "value")
  me_Under_holds : Meth K (He.ga K "Under") "holds" (He.ma K (He.ga K "Claim") "holds")
  me_Over_holds : Meth K (He.ga K "Over") "holds" (He.ma K (He.ga K "Claim") "holds")
  me_Beats_holds : Meth K (He.ga K "Beats") "holds" (He.ma K (He.ga K "Claim") "holds")
  me_Claim_holds : Meth K (He.ga K "Claim") "holds" (He.ma K (He.ga K "Claim") "holds")
  su_Way___init__ : ClX.CRead K (He.ga K "Way") (.type "type") ∧ PySem.W.findCls K (.ref (He.ga K "Way")) (.type "type") "__init__" = some (.val (.ref (He.ma K (He.ga K "Way") "__init__"))) ∧ PySem.W.keepIn K (.ref (He.ma K (He.ga K "Way") "__init__")) = true
  gs_Way___init__ : mg "Way" = some (.ref (He.ga K "Way"))
  me_Game_reached : Meth K (He.ga K "Game") "reached" (He.ma K (He.ga K "Game") "reached")
  me_Game_play : Meth K (He.ga K "Game") "play" (He.ma K (He.ga K "Game") "play")
  me_Comparing_value : Meth K (He.ga K "Comparing") "value" (He.ma K (He.ga K "Comparing") "value")
  mk_Game : Mk K (He.ga K "Game") (He.ma K (He.ga K "Game") "__init__")
  gk_Game : mg "Game" = some (.ref (He.ga K "Game"))
  me_Comparing_top : Meth K (He.ga K "Comparing") "top" (He.ma K (He.ga K "Comparing") "top")
  mk_Comparing : Mk K (He.ga K "Comparing") (He.ma K (He.ga K "Comparing") "__init__")
  gk_Comparing : mg "Comparing" = some (.ref (He.ga K "Comparing"))
  me_Under_value_of : Meth K (He.ga K "Under") "value_of" (He.ma K (He.ga K "Under") "value_of")
  me_Over_value_of : Meth K (He.ga K "Over") "value_of" (He.ma K (He.ga K "Over") "value_of")
  me_Beats_value_of : Meth K (He.ga K "Beats") "value_of" (He.ma K (He.ga K "Beats") "value_of")
  me_Claim_value_of : Meth K (He.ga K "Claim") "value_of" (He.ma K (He.ga K "Claim") "value_of")
  mk_Fixed : Mk K (He.ga K "Fixed") (He.ma K (He.ga K "Fixed") "__init__")
  gk_Fixed : mg "Fixed" = some (.ref (He.ga K "Fixed"))
  mk_Asked : Mk K (He.ga K "Asked") (He.ma K (He.ga K "Asked") "__init__")
  gk_Asked : mg "Asked" = some (.ref (He.ga K "Asked"))
  mk_Learning : Mk K (He.ga K "Learning") (He.ma K (He.ga K "Learning") "__init__")
  gk_Learning : mg "Learning" = some (.ref (He.ga K "Learning"))
  mk_Under : Mk K (He.ga K "Under") (He.ma K (He.ga K "Under") "__init__")
  gk_Under : mg "Under" = some (.ref (He.ga K "Under"))
  mk_Over : Mk K (He.ga K "Over") (He.ma K (He.ga K "Over") "__init__")
  gk_Over : mg "Over" = some (.ref (He.ga K "Over"))
  mk_Beats : Mk K (He.ga K "Beats") (He.ma K (He.ga K "Beats") "__init__")
  gk_Beats : mg "Beats" = some (.ref (He.ga K "Beats"))
  g_Ended : mg "Ended" = some (.ref (He.ga K "Ended"))
  g_NoFraction : mg "NoFraction" = some (.ref (He.ga K "NoFraction"))
  g_NoMargin : mg "NoMargin" = some (.ref (He.ga K "NoMargin"))
  g_NoStake : mg "NoStake" = some (.ref (He.ga K "NoStake"))
  g_Rule : mg "Rule" = some (.ref (He.ga K "Rule"))
  g_SureError : mg "SureError" = some (.ref (He.ga K "SureError"))
  o_NoStake : OexC K (He.ga K "NoStake")
  oi_NoStake : PySem.W.findIn K (.ref (He.ga K "NoStake")) "__init__" = some (some (.ref (He.ma K (He.ga K "NoStake") "__init__"))) ∧ PySem.W.typeIn K (.ref (He.ma K (He.ga K "NoStake") "__init__")) = some (.type "function")
  f_NoStake_turn : PySem.W.findIn K (.ref (He.ga K "NoStake")) "turn" = some none
  s_SureError : SupC K (He.ga K "SureError")
  e_NoMargin : ExcC K (He.ga K "NoMargin")
  i_NoMargin_Ended : PySem.W.kitOne K (.ref (He.ga K "NoMargin")) (.ref (He.ga K "Ended")) = some false
  i_NoMargin_NoMargin : PySem.W.kitOne K (.ref (He.ga K "NoMargin")) (.ref (He.ga K "NoMargin")) = some true
  i_NoMargin_NoNumber : PySem.W.kitOne K (.ref (He.ga K "NoMargin")) (.ref (He.ga K "NoNumber")) = some false
  i_NoMargin_NoOutcome : PySem.W.kitOne K (.ref (He.ga K "NoMargin")) (.ref (He.ga K "NoOutcome")) = some false
  i_NoMargin_ValueError : PySem.W.kitOne K (.ref (He.ga K "NoMargin")) (.type "ValueError") = some true
  m_NoMargin_SureError : PySem.W.exmOne K (.ref (He.ga K "NoMargin")) (.ref (He.ga K "SureError")) = some true
  x_Ended : PySem.W.excIn K (He.ga K "Ended") He.veBase "ValueError.__new__" = true ∧ PySem.W.keepIn K (.ref (He.ga K "Ended")) = true ∧ PySem.W.subIn K (.ref (He.ga K "Ended")) (.type "BaseException") = some true ∧ PySem.W.typeIn K (.ref (He.ga K "Ended")) = some (.type "type")
  x_NoFraction : PySem.W.excIn K (He.ga K "NoFraction") He.veBase "ValueError.__new__" = true ∧ PySem.W.keepIn K (.ref (He.ga K "NoFraction")) = true ∧ PySem.W.subIn K (.ref (He.ga K "NoFraction")) (.type "BaseException") = some true ∧ PySem.W.typeIn K (.ref (He.ga K "NoFraction")) = some (.type "type")
  x_NoMargin : PySem.W.excIn K (He.ga K "NoMargin") He.veBase "ValueError.__new__" = true ∧ PySem.W.keepIn K (.ref (He.ga K "NoMargin")) = true ∧ PySem.W.subIn K (.ref (He.ga K "NoMargin")) (.type "BaseException") = some true ∧ PySem.W.typeIn K (.ref (He.ga K "NoMargin")) = some (.type "type")
end Lw
namespace Lw
open PySem PySem.Spec PyProof.Rows L2 Gx
def d_NoStake___init__ : He.DefD := ⟨("NoStake", some "__init__"), "__init__", "NoStake.__init__", defArgs s_NoStake___init__, defBody s_NoStake___init__, defScope s_NoStake___init__, [], []⟩
def d_is_whole : He.DefD := ⟨("is_whole", none), "is_whole", "is_whole", defArgs s_is_whole, defBody s_is_whole, defScope s_is_whole, [], []⟩
def d_in_common : He.DefD := ⟨("in_common", none), "in_common", "in_common", defArgs s_in_common, defBody s_in_common, defScope s_in_common, [], []⟩
def d_lowest : He.DefD := ⟨("lowest", none), "lowest", "lowest", defArgs s_lowest, defBody s_lowest, defScope s_lowest, [], []⟩
def d_plus : He.DefD := ⟨("plus", none), "plus", "plus", defArgs s_plus, defBody s_plus, defScope s_plus, [], []⟩
def d_minus : He.DefD := ⟨("minus", none), "minus", "minus", defArgs s_minus, defBody s_minus, defScope s_minus, [], []⟩
def d_times : He.DefD := ⟨("times", none), "times", "times", defArgs s_times, defBody s_times, defScope s_times, [], []⟩
def d_over : He.DefD := ⟨("over", none), "over", "over", defArgs s_over, defBody s_over, defScope s_over, [], []⟩
def d_total : He.DefD := ⟨("total", none), "total", "total", defArgs s_total, defBody s_total, defScope s_total, [], []⟩
def d_below : He.DefD := ⟨("below", none), "below", "below", defArgs s_below, defBody s_below, defScope s_below, [], []⟩
def d_is_fraction : He.DefD := ⟨("is_fraction", none), "is_fraction", "is_fraction", defArgs s_is_fraction, defBody s_is_fraction, defScope s_is_fraction, [], []⟩
def d_Game___init__ : He.DefD := ⟨("Game", some "__init__"), "__init__", "Game.__init__", defArgs s_Game___init__, defBody s_Game___init__, defScope s_Game___init__, [], []⟩
def d_Game_ended : He.DefD := ⟨("Game", some "ended"), "ended", "Game.ended", defArgs s_Game_ended, defBody s_Game_ended, defScope s_Game_ended, [], []⟩
def d_Game_price : He.DefD := ⟨("Game", some "price"), "price", "Game.price", defArgs s_Game_price, defBody s_Game_price, defScope s_Game_price, [], []⟩
def d_Game_worth_behind : He.DefD := ⟨("Game", some "worth_behind"), "worth_behind", "Game.worth_behind", defArgs s_Game_worth_behind, defBody s_Game_worth_behind, defScope s_Game_worth_behind, [], []⟩
def d_Game_play : He.DefD := ⟨("Game", some "play"), "play", "Game.play", defArgs s_Game_play, defBody s_Game_play, defScope s_Game_play, [], []⟩
def d_Game_reached : He.DefD := ⟨("Game", some "reached"), "reached", "Game.reached", defArgs s_Game_reached, defBody s_Game_reached, defScope s_Game_reached, [], []⟩
def d_Way___init__ : He.DefD := ⟨("Way", some "__init__"), "__init__", "Way.__init__", defArgs s_Way___init__, defBody s_Way___init__, defScope s_Way___init__, [], []⟩
def d_Comparing___init__ : He.DefD := ⟨("Comparing", some "__init__"), "__init__", "Comparing.__init__", defArgs s_Comparing___init__, defBody s_Comparing___init__, defScope s_Comparing___init__, [], []⟩
def d_Comparing_value : He.DefD := ⟨("Comparing", some "value"), "value", "Comparing.value", defArgs s_Comparing_value, defBody s_Comparing_value, defScope s_Comparing_value, [], []⟩
def d_Comparing_top : He.DefD := ⟨("Comparing", some "top"), "top", "Comparing.top", defArgs s_Comparing_top, defBody s_Comparing_top, defScope s_Comparing_top, [], []⟩
def d_draws_alike : He.DefD := ⟨("draws_alike", none), "draws_alike", "draws_alike", defArgs s_draws_alike, defBody s_draws_alike, defScope s_draws_alike, [], []⟩
def d_Claim_value : He.DefD := ⟨("Claim", some "value"), "value", "Claim.value", defArgs s_Claim_value, defBody s_Claim_value, defScope s_Claim_value, [], []⟩
def d_Claim_value_of : He.DefD := ⟨("Claim", some "value_of"), "value_of", "Claim.value_of", defArgs s_Claim_value_of, defBody s_Claim_value_of, defScope s_Claim_value_of, [], []⟩
def d_Claim_greatest : He.DefD := ⟨("Claim", some "greatest"), "greatest", "Claim.greatest", defArgs s_Claim_greatest, defBody s_Claim_greatest, defScope s_Claim_greatest, [], []⟩
def d_Claim_holds : He.DefD := ⟨("Claim", some "holds"), "holds", "Claim.holds", defArgs s_Claim_holds, defBody s_Claim_holds, defScope s_Claim_holds, [], []⟩
def d_Beats___init__ : He.DefD := ⟨("Beats", some "__init__"), "__init__", "Beats.__init__", defArgs s_Beats___init__, defBody s_Beats___init__, defScope s_Beats___init__, [], []⟩
def d_Beats_value_of : He.DefD := ⟨("Beats", some "value_of"), "value_of", "Beats.value_of", defArgs s_Beats_value_of, defBody s_Beats_value_of, defScope s_Beats_value_of, [], []⟩
def d_Beats_greatest : He.DefD := ⟨("Beats", some "greatest"), "greatest", "Beats.greatest", defArgs s_Beats_greatest, defBody s_Beats_greatest, defScope s_Beats_greatest, [], []⟩
def d_Over___init__ : He.DefD := ⟨("Over", some "__init__"), "__init__", "Over.__init__", defArgs s_Over___init__, defBody s_Over___init__, defScope s_Over___init__, [], []⟩
def d_Over_value_of : He.DefD := ⟨("Over", some "value_of"), "value_of", "Over.value_of", defArgs s_Over_value_of, defBody s_Over_value_of, defScope s_Over_value_of, [], []⟩
def d_Over_greatest : He.DefD := ⟨("Over", some "greatest"), "greatest", "Over.greatest", defArgs s_Over_greatest, defBody s_Over_greatest, defScope s_Over_greatest, [], []⟩
def d_Under___init__ : He.DefD := ⟨("Under", some "__init__"), "__init__", "Under.__init__", defArgs s_Under___init__, defBody s_Under___init__, defScope s_Under___init__, [], []⟩
def d_Under_value_of : He.DefD := ⟨("Under", some "value_of"), "value_of", "Under.value_of", defArgs s_Under_value_of, defBody s_Under_value_of, defScope s_Under_value_of, [], []⟩
def d_Under_greatest : He.DefD := ⟨("Under", some "greatest"), "greatest", "Under.greatest", defArgs s_Under_greatest, defBody s_Under_greatest, defScope s_Under_greatest, [], []⟩
def d_within : He.DefD := ⟨("within", none), "within", "within", defArgs s_within, defBody s_within, defScope s_within, [], []⟩
def d_Rule_stake : He.DefD := ⟨("Rule", some "stake"), "stake", "Rule.stake", defArgs s_Rule_stake, defBody s_Rule_stake, defScope s_Rule_stake, [], []⟩
def d_Fixed___init__ : He.DefD := ⟨("Fixed", some "__init__"), "__init__", "Fixed.__init__", defArgs s_Fixed___init__, defBody s_Fixed___init__, defScope s_Fixed___init__, [], []⟩
def d_Fixed_stake : He.DefD := ⟨("Fixed", some "stake"), "stake", "Fixed.stake", defArgs s_Fixed_stake, defBody s_Fixed_stake, defScope s_Fixed_stake, [], []⟩
def d_Learning___init__ : He.DefD := ⟨("Learning", some "__init__"), "__init__", "Learning.__init__", defArgs s_Learning___init__, defBody s_Learning___init__, defScope s_Learning___init__, [], []⟩
def d_Learning_stake : He.DefD := ⟨("Learning", some "stake"), "stake", "Learning.stake", defArgs s_Learning_stake, defBody s_Learning_stake, defScope s_Learning_stake, [], []⟩
def d_Asked___init__ : He.DefD := ⟨("Asked", some "__init__"), "__init__", "Asked.__init__", defArgs s_Asked___init__, defBody s_Asked___init__, defScope s_Asked___init__, [], []⟩
def d_Asked_stake : He.DefD := ⟨("Asked", some "stake"), "stake", "Asked.stake", defArgs s_Asked_stake, defBody s_Asked_stake, defScope s_Asked_stake, [], []⟩
def d__law_digits : He.DefD := ⟨("_law_digits", none), "_law_digits", "_law_digits", defArgs s__law_digits, defBody s__law_digits, defScope s__law_digits, [], []⟩
def d__law_deck : He.DefD := ⟨("_law_deck", none), "_law_deck", "_law_deck", defArgs s__law_deck, defBody s__law_deck, defScope s__law_deck, [], []⟩
def d__law_common : He.DefD := ⟨("_law_common", none), "_law_common", "_law_common", defArgs s__law_common, defBody s__law_common, defScope s__law_common, [], []⟩
def d__law_made : He.DefD := ⟨("_law_made", none), "_law_made", "_law_made", defArgs s__law_made, defBody s__law_made, defScope s__law_made, [], []⟩
def d__law_less : He.DefD := ⟨("_law_less", none), "_law_less", "_law_less", defArgs s__law_less, defBody s__law_less, defScope s__law_less, [], []⟩
def d__law_sum : He.DefD := ⟨("_law_sum", none), "_law_sum", "_law_sum", defArgs s__law_sum, defBody s__law_sum, defScope s__law_sum, [], []⟩
def d__law_product : He.DefD := ⟨("_law_product", none), "_law_product", "_law_product", defArgs s__law_product, defBody s__law_product, defScope s__law_product, [], []⟩
def d__law_stake : He.DefD := ⟨("_law_stake", none), "_law_stake", "_law_stake", defArgs s__law_stake, defBody s__law_stake, defScope s__law_stake, [], []⟩
def d__law_turn : He.DefD := ⟨("_law_turn", none), "_law_turn", "_law_turn", defArgs s__law_turn, defBody s__law_turn, defScope s__law_turn, [], []⟩
def d__law_part : He.DefD := ⟨("_law_part", none), "_law_part", "_law_part", defArgs s__law_part, defBody s__law_part, defScope s__law_part, [], []⟩
def d__law_rule : He.DefD := ⟨("_law_rule", none), "_law_rule", "_law_rule", defArgs s__law_rule, defBody s__law_rule, defScope s__law_rule, [], []⟩
def d__law_rule_of : He.DefD := ⟨("_law_rule_of", none), "_law_rule_of", "_law_rule_of", defArgs s__law_rule_of, defBody s__law_rule_of, defScope s__law_rule_of, [], []⟩
def d__law_limit : He.DefD := ⟨("_law_limit", none), "_law_limit", "_law_limit", defArgs s__law_limit, defBody s__law_limit, defScope s__law_limit, [], []⟩
def d__law_claim : He.DefD := ⟨("_law_claim", none), "_law_claim", "_law_claim", defArgs s__law_claim, defBody s__law_claim, defScope s__law_claim, [], []⟩
def d__law_claim_of : He.DefD := ⟨("_law_claim_of", none), "_law_claim_of", "_law_claim_of", defArgs s__law_claim_of, defBody s__law_claim_of, defScope s__law_claim_of, [], []⟩
def d__law_marks : He.DefD := ⟨("_law_marks", none), "_law_marks", "_law_marks", defArgs s__law_marks, defBody s__law_marks, defScope s__law_marks, [], []⟩
def d__law_value : He.DefD := ⟨("_law_value", none), "_law_value", "_law_value", defArgs s__law_value, defBody s__law_value, defScope s__law_value, [], []⟩
def d__law_told : He.DefD := ⟨("_law_told", none), "_law_told", "_law_told", defArgs s__law_told, defBody s__law_told, defScope s__law_told, [], []⟩
def d__law_due : He.DefD := ⟨("_law_due", none), "_law_due", "_law_due", defArgs s__law_due, defBody s__law_due, defScope s__law_due, [], []⟩
def d_law : He.DefD := ⟨("law", none), "law", "law", defArgs s_law, defBody s_law, defScope s_law, [], []⟩
def fn : List He.DefD := [d_NoStake___init__, d_is_whole, d_in_common, d_lowest, d_plus, d_minus, d_times, d_over, d_total, d_below, d_is_fraction, d_Game___init__, d_Game_ended, d_Game_price, d_Game_worth_behind, d_Game_play, d_Game_reached, d_Way___init__, d_Comparing___init__, d_Comparing_value, d_Comparing_top, d_draws_alike, d_Claim_value, d_Claim_value_of, d_Claim_greatest, d_Claim_holds, d_Beats___init__, d_Beats_value_of, d_Beats_greatest, d_Over___init__, d_Over_value_of, d_Over_greatest, d_Under___init__, d_Under_value_of, d_Under_greatest, d_within, d_Rule_stake, d_Fixed___init__, d_Fixed_stake, d_Learning___init__, d_Learning_stake, d_Asked___init__, d_Asked_stake, d__law_digits, d__law_deck, d__law_common, d__law_made, d__law_less, d__law_sum, d__law_product, d__law_stake, d__law_turn, d__law_part, d__law_rule, d__law_rule_of, d__law_limit, d__law_claim, d__law_claim_of, d__law_marks, d__law_value, d__law_told, d__law_due, d_law]
def fa : List He.Fa := [.free "ValueError", .free "abs", .free "bool", .free "int", .free "isinstance", .free "len", .free "list", .free "max", .free "min", .free "range", .free "tuple", .glo "Ended", .glo "HALF", .int "MOST_DRAWS" 60, .glo "NOUGHT_claims", .glo "NOUGHT_games", .glo "NOUGHT_rules", .glo "NOUGHT_ways", .glo "NoFraction", .glo "NoMargin", .glo "NoNumber", .glo "NoOutcome", .glo "ONE_claims", .glo "ONE_games", .glo "ONE_rules", .glo "ONE_ways", .glo "TWO", .cls "Game", .noat "Game" "many", .noat "Game" "again", .noat "Game" "highest", .noat "Game" "rule", .noat "Game" "drawn_values", .noat "Game" "sum_so_far", .noat "Game" "now", .noat "Game" "most", .noat "Game" "certain", .cls "Asked", .noat "Asked" "function", .cls "Learning", .noat "Learning" "guess", .noat "Learning" "weight", .cls "Fixed", .noat "Fixed" "part", .cls "Rule", .cls "Under", .noat "Under" "name", .noat "Under" "share", .cls "Over", .noat "Over" "name", .noat "Over" "share", .cls "Beats", .noat "Beats" "one", .noat "Beats" "other", .cls "Claim", .cls "Way", .noat "Way" "claim", .cls "Comparing", .noat "Comparing" "told", .noat "Comparing" "scale", .noat "Comparing" "claim", .meth "Game" "ended", .meth "Asked" "stake", .meth "Learning" "stake", .meth "Fixed" "stake", .meth "Rule" "stake", .meth "Game" "price", .meth "Game" "worth_behind", .meth "Under" "greatest", .meth "Over" "greatest", .meth "Beats" "greatest", .meth "Claim" "greatest", .meth "Under" "value", .meth "Over" "value", .meth "Beats" "value", .meth "Claim" "value", .meth "Under" "holds", .meth "Over" "holds", .meth "Beats" "holds", .meth "Claim" "holds", .glo "Way", .meth "Game" "reached", .meth "Game" "play", .meth "Comparing" "value", .mkr "Game", .glo "Game", .meth "Comparing" "top", .mkr "Comparing", .glo "Comparing", .meth "Under" "value_of", .meth "Over" "value_of", .meth "Beats" "value_of", .meth "Claim" "value_of", .mkr "Fixed", .glo "Fixed", .mkr "Asked", .glo "Asked", .mkr "Learning", .glo "Learning", .mkr "Under", .glo "Under", .mkr "Over", .glo "Over", .mkr "Beats", .glo "Beats", .glo "Ended", .glo "NoFraction", .glo "NoMargin", .glo "NoStake", .glo "Rule", .glo "SureError", .exm "NoMargin" "SureError" true, .noat "NoStake" "turn", .exc "Ended", .exc "NoFraction", .exc "NoMargin", .glo "is_whole", .glo "in_common", .glo "lowest", .glo "plus", .glo "minus", .glo "times", .glo "over", .glo "total", .glo "below", .glo "is_fraction", .glo "draws_alike", .glo "within", .glo "_law_digits", .glo "_law_deck", .glo "_law_common", .glo "_law_made", .glo "_law_less", .glo "_law_sum", .glo "_law_product", .glo "_law_stake", .glo "_law_turn", .glo "_law_part", .glo "_law_rule", .glo "_law_rule_of", .glo "_law_limit", .glo "_law_claim", .glo "_law_claim_of", .glo "_law_marks", .glo "_law_value", .glo "_law_told", .glo "_law_due", .glo "law"]
abbrev R : PySem.W.OpenRow := PySem.W.OpenLaw.row PySem.Challenge.rw_surecount_k64_draws_alike
def exl : List (PySem.W.Frag → Bool) := [fun K => oexB K "NoStake", fun K => oinB K "NoStake", fun K => supmB K "Way" "__init__", fun K => decide (He.ma K (He.ga K "Under") "value" = He.ma K (He.ga K "Claim") "value"), fun K => decide (He.ma K (He.ga K "Over") "value" = He.ma K (He.ga K "Claim") "value"), fun K => decide (He.ma K (He.ga K "Beats") "value" = He.ma K (He.ga K "Claim") "value"), fun K => decide (He.ma K (He.ga K "Under") "holds" = He.ma K (He.ga K "Claim") "holds"), fun K => decide (He.ma K (He.ga K "Over") "holds" = He.ma K (He.ga K "Claim") "holds"), fun K => decide (He.ma K (He.ga K "Beats") "holds" = He.ma K (He.ga K "Claim") "holds"), fun K => mbB K "Rule", fun K => He.tupB K "HALF" [.int 1, .int 2], fun K => He.tupB K "NOUGHT_claims" [.int 0, .int 1], fun K => He.tupB K "NOUGHT_games" [.int 0, .int 1], fun K => He.tupB K "NOUGHT_rules" [.int 0, .int 1], fun K => He.tupB K "NOUGHT_ways" [.int 0, .int 1], fun K => He.tupB K "ONE_claims" [.int 1, .int 1], fun K => He.tupB K "ONE_games" [.int 1, .int 1], fun K => He.tupB K "ONE_rules" [.int 1, .int 1], fun K => He.tupB K "ONE_ways" [.int 1, .int 1], fun K => He.tupB K "TWO" [.int 2, .int 1], fun K => supB K "SureError", fun K => excB K "NoMargin", fun K => kitB2 K "NoMargin" (.ref (He.ga K "Ended")) false, fun K => kitB2 K "NoMargin" (.ref (He.ga K "NoMargin")) true, fun K => kitB2 K "NoMargin" (.ref (He.ga K "NoNumber")) false, fun K => kitB2 K "NoMargin" (.ref (He.ga K "NoOutcome")) false, fun K => kitB2 K "NoMargin" (.type "ValueError") true]
def exB (K : PySem.W.Frag) : Bool := exl.all fun f => f K
def reachA : List PySem.Addr := ([3, 6, 4, 21, 31, 44, 56, 68, 80, 92, 111, 120, 127, 134, 141, 148, 155, 162, 169, 176, 183, 184, 185, 265] : List PySem.Addr) ++ ([270, 271, 272, 303, 336, 345, 346, 347, 348, 391, 433, 473, 513, 516, 517, 524, 541, 569, 595, 621, 630, 637, 644, 651] : List PySem.Addr) ++ ([658, 665, 672, 679, 686, 693, 700, 705, 712, 719, 726, 733, 740, 747, 754, 761, 768, 0, 20, 30, 43, 55, 67, 79] : List PySem.Addr) ++ ([91, 110, 119, 126, 133, 140, 147, 154, 161, 168, 175, 182, 264, 302, 335, 344, 390, 432, 472, 512, 523, 540, 568, 594] : List PySem.Addr) ++ ([620, 629, 636, 643, 650, 657, 664, 671, 678, 685, 692, 699, 704, 711, 718, 725, 732, 739, 746, 753, 760, 767, 15, 16] : List PySem.Addr) ++ ([17, 18, 19, 29, 32, 42, 54, 66, 78, 90, 108, 109, 114, 115, 116, 117, 118, 121, 122, 123, 124, 125, 128, 129] : List PySem.Addr) ++ ([130, 131, 132, 135, 136, 137, 138, 139, 142, 143, 144, 145, 146, 149, 150, 151, 152, 153, 156, 157, 158, 159, 160, 163] : List PySem.Addr) ++ ([164, 165, 166, 167, 170, 171, 172, 173, 174, 177, 178, 179, 180, 181, 199, 206, 213, 220, 227, 234, 241, 248, 255, 262] : List PySem.Addr) ++ ([263, 266, 267, 286, 293, 300, 301, 304, 305, 319, 326, 333, 334, 339, 340, 341, 342, 343, 362, 369, 376, 381, 388, 389] : List PySem.Addr) ++ ([392, 393, 409, 416, 423, 430, 431, 449, 456, 463, 470, 471, 489, 496, 503, 510, 511, 518, 519, 520, 521, 522, 538, 539] : List PySem.Addr) ++ ([542, 543, 559, 566, 567, 585, 592, 593, 611, 618, 619, 624, 625, 626, 627, 628, 631, 632, 633, 634, 635, 638, 639, 640] : List PySem.Addr) ++ ([641, 642, 645, 646, 647, 648, 649, 652, 653, 654, 655, 656, 659, 660, 661, 662, 663, 666, 667, 668, 669, 670, 673, 674] : List PySem.Addr) ++ ([675, 676, 677, 680, 681, 682, 683, 684, 687, 688, 689, 690, 691, 694, 695, 696, 697, 698, 701, 702, 703, 706, 707, 708] : List PySem.Addr) ++ ([709, 710, 713, 714, 715, 716, 717, 720, 721, 722, 723, 724, 727, 728, 729, 730, 731, 734, 735, 736, 737, 738, 741, 742] : List PySem.Addr) ++ ([743, 744, 745, 748, 749, 750, 751, 752, 755, 756, 757, 758, 759, 762, 763, 764, 765, 766, 107, 198, 205, 212, 219, 226] : List PySem.Addr) ++ ([233, 240, 247, 254, 261, 285, 292, 299, 318, 325, 332, 361, 368, 375, 380, 387, 408, 415, 422, 429, 448, 455, 462, 469] : List PySem.Addr) ++ ([488, 495, 502, 509, 537, 558, 565, 584, 591, 610, 617, 102, 103, 104, 105, 106, 193, 194, 195, 196, 197, 200, 201, 202] : List PySem.Addr) ++ ([203, 204, 207, 208, 209, 210, 211, 214, 215, 216, 217, 218, 221, 222, 223, 224, 225, 228, 229, 230, 231, 232, 235, 236] : List PySem.Addr) ++ ([237, 238, 239, 242, 243, 244, 245, 246, 249, 250, 251, 252, 253, 256, 257, 258, 259, 260, 280, 281, 282, 283, 284, 287] : List PySem.Addr) ++ ([288, 289, 290, 291, 294, 295, 296, 297, 298, 315, 316, 317, 320, 321, 322, 323, 324, 327, 328, 329, 330, 331, 356, 357] : List PySem.Addr) ++ ([358, 359, 360, 363, 364, 365, 366, 367, 370, 371, 372, 373, 374, 377, 378, 379, 382, 383, 384, 385, 386, 403, 404, 405] : List PySem.Addr) ++ ([406, 407, 410, 411, 412, 413, 414, 417, 418, 419, 420, 421, 424, 425, 426, 427, 428, 443, 444, 445, 446, 447, 450, 451] : List PySem.Addr) ++ ([452, 453, 454, 457, 458, 459, 460, 461, 464, 465, 466, 467, 468, 483, 484, 485, 486, 487, 490, 491, 492, 493, 494, 497] : List PySem.Addr) ++ ([498, 499, 500, 501, 504, 505, 506, 507, 508, 532, 533, 534, 535, 536, 553, 554, 555, 556, 557, 560, 561, 562, 563, 564] : List PySem.Addr) ++ ([579, 580, 581, 582, 583, 586, 587, 588, 589, 590, 605, 606, 607, 608, 609, 612, 613, 614, 615, 616, 2] : List PySem.Addr)
def tf : List He.Defn := [p__law_rule_of__lam]
abbrev hk : PySem.W.Hook := Gx.hookTA reachA fa fn exB tf
def ob (s : PySem.W.SharedT) : He.AlD × Bool := Gx.obsTA reachA fa fn exB tf (HandSHeadRun.getT s)
theorem ob_eq (s : PySem.W.SharedT) : ob s = hk.obs s.abs := Gx.obsTA_eq (HandSHeadRun.getT_eq s)
def loose : List PySem.Str := (["_wall", "is_whole", "in_common", "lowest", "plus", "minus", "times", "over", "total", "below", "is_fraction", "draws_alike", "within", "_law_whole", "_law_digits", "_law_deck"] : List PySem.Str) ++ (["_law_common", "_law_made", "_law_less", "_law_sum", "_law_product", "_law_stake", "_law_turn", "_law_part", "_law_rule", "_law_rule_of", "_law_limit", "_law_claim", "_law_claim_of", "_law_marks", "_law_value", "_law_told"] : List PySem.Str) ++ (["_law_due", "SureError", "NoFraction", "NoOutcome", "NoNumber", "Ended", "NoMargin", "NoStake", "Game", "Way", "Comparing", "Claim", "Beats", "Over", "Under", "Rule"] : List PySem.Str) ++ (["Fixed", "Learning", "Asked", "NOUGHT_games", "ONE_games", "NOUGHT_ways", "ONE_ways", "TWO", "MOST_DRAWS", "NOUGHT_claims", "HALF", "ONE_claims", "NOUGHT_rules", "ONE_rules"] : List PySem.Str)
def kof (s : PySem.W.SharedT) : PySem.W.Frag := He.frT (HandSHeadRun.getT s) reachA
def exT (s : PySem.W.SharedT) : Bool := exB (kof s) && He.tabsB (HandSHeadRun.getT s) tf (kof s)
open PySem PySem.W HandSHeadRun PySem.Calls in
theorem runB (w : World) : ∀ os : OsState, (HandSHeadRun.endF (HandSHeadRun.stepQ (HandSHeadRun.denQ HandSHeadRun.tabQ) R.prog w) 12000 R.prog w os).map (fun s => looksF R.prog (boot_heap w.params) s.abs && (((fa.all fun f => f.ok (kof s)) && fn.all fun d => d.ok (kof s)) && exT s)) = some true := by
  intro os
  kernel_rfl
open PySem PySem.W HandSHeadRun PySem.Calls in
theorem runS (w : World) : ∀ os : OsState, (HandSHeadRun.endF (HandSHeadRun.stepQ (HandSHeadRun.denQ HandSHeadRun.tabQ) R.prog w) 12000 R.prog w os).map (fun s => seenQ (PySem.W.view R.prog [70]) loose (importedModules R.prog.main.body) (fun s => xlAt (PySem.W.view R.prog [70]) [] s && recOk R.toRowW.records s) s.abs) = some (openGood (PySem.W.view R.prog [70]) loose) := by
  intro os
  kernel_rfl
open PySem PySem.W HandSHeadRun PySem.Calls in
theorem runF (w : World) : ∀ os : OsState, (HandSHeadRun.endF (HandSHeadRun.stepQ (HandSHeadRun.denQ HandSHeadRun.tabQ) R.prog w) 12000 R.prog w os).map (fun s => fn.map fun d => He.fnW (kof s) d.at_) = some (fn.map He.DefD.val) := by
  intro os
  kernel_rfl
theorem map3 {α γ ε : Type} {x : Option α} {l : α → Bool} {a b e : α → Bool} {g : α → γ} {h : α → ε} {vg : γ} {vh : ε} (h1 : x.map (fun s => l s && ((a s && b s) && e s)) = some true) (h2 : x.map g = some vg) (h3 : x.map h = some vh) : x.map (fun s => (l s, g s, ((a s && b s, h s), e s))) = some (true, vg, ((true, vh), true)) := by
  cases x with
  | none => cases h1
  | some s =>
    rw [Option.map_some] at h1 h2 h3 ⊢
    have k := Bool.and_eq_true_iff.mp (Option.some.inj h1)
    have k2 := Bool.and_eq_true_iff.mp k.2
    rw [k.1, k2.1, k2.2, Option.some.inj h2, Option.some.inj h3]
theorem run (w : World) : HandSHeadRun.RunEq R (PySem.W.view R.prog [70]) hk ob 12000 loose w := fun os => map3 (runB w os) (runS w os) (runF w os)
end Lw
namespace Dk
open PySem PySem.Spec PyProof.Rows L2
theorem at_map {ns : List Int} {i : Int} (h0 : 0 ≤ i) (h1 : i < ns.length) : ∃ z : Int, atI (ns.map V.int) i = some (.int z) := by
  obtain ⟨n, rfl⟩ : ∃ n : Nat, i = (n : Int) := ⟨i.toNat, by omega⟩
  have hl : n < ns.length := by omega
  exact ⟨ns[n], atI_nat (by simp [hl])⟩
theorem dp_all {K : PySem.W.Frag} {H : Hp} : ∀ ns : List Int, DpAll K H (ns.map V.int) (ns.map PyData.int)
  | [] => .nil
  | n :: r => .cons (.int n) (dp_all r)
theorem dp_ints {K : PySem.W.Frag} {H : Hp} {a : Addr} {ns : List Int} (h : SqL K H a (ns.map V.int)) : Dp K H (.ref a) (.list (ns.map PyData.int)) := .lst h (dp_all ns)
theorem shaped_ints (ns : List Int) : SeqAt.shaped (.list (ns.map PyData.int)) = true := by
  have h : ∀ l : List Int, PyData.canLayAll0 (l.map PyData.int) = true ∧ PyData.depthAll (l.map PyData.int) = 0 := fun l => by
    induction l with
    | nil => exact ⟨by simp [PyData.canLayAll0], by simp [PyData.depthAll]⟩
    | cons n r ih => exact ⟨by simp [PyData.canLayAll0, PyData.canLay0, ih.1], by simp [PyData.depthAll, PyData.depth, ih.2]⟩
  obtain ⟨h1, h2⟩ := h ns
  simp [SeqAt.shaped, PyData.canLay0, PyData.depth, h1, h2]
theorem eqv_nil (ns : List Int) : (!PyData.eqv (.list (ns.map PyData.int)) (.list [])) = !ns.isEmpty := by
  cases ns <;> simp [PyData.eqv, PyData.eqvAll]
theorem last (ds : List Int) (h : 0 < ds.length) : ∃ es e, ds = es ++ [e] := ⟨ds.dropLast, ds.getLast (by intro z; rw [z] at h; exact absurd h (by decide)), (List.dropLast_concat_getLast _).symm⟩
theorem last2 (ds : List Int) (h : 1 < ds.length) : ∃ es e2 e1, ds = es ++ [e2, e1] := by
  obtain ⟨fs, e1, rfl⟩ := last ds (by omega)
  obtain ⟨es, e2, rfl⟩ := last fs (by simp at h; omega)
  exact ⟨es, e2, e1, by simp⟩
theorem last3 (ds : List Int) (h : 2 < ds.length) : ∃ es e3 e2 e1, ds = es ++ [e3, e2, e1] := by
  obtain ⟨fs, e1, rfl⟩ := last ds (by omega)
  obtain ⟨es, e3, e2, rfl⟩ := last2 fs (by simp at h; omega)
  exact ⟨es, e3, e2, e1, by simp⟩
theorem sub {P : Int → Prop} {es r : List Int} (h : ∀ d ∈ es ++ r, P d) : ∀ d ∈ es, P d := fun d hd => h d (List.mem_append_left _ hd)
theorem shaped_tints (ns : List Int) : SeqAt.shaped (.tuple (ns.map PyData.int)) = true := by
  have h : ∀ l : List Int, PyData.canLayAll0 (l.map PyData.int) = true ∧ PyData.depthAll (l.map PyData.int) = 0 := fun l => by
    induction l with
    | nil => exact ⟨by simp [PyData.canLayAll0], by simp [PyData.depthAll]⟩
    | cons n r ih => exact ⟨by simp [PyData.canLayAll0, PyData.canLay0, ih.1], by simp [PyData.depthAll, PyData.depth, ih.2]⟩
  obtain ⟨h1, h2⟩ := h ns
  simp [SeqAt.shaped, PyData.canLay0, PyData.depth, h1, h2]
theorem emod_le {a b : Int} (h : 0 ≤ a) (hb : 0 < b) : a % b ≤ a := by
  have e := Int.emod_add_mul_ediv a b
  have z := Int.mul_nonneg (Int.le_of_lt hb) (Int.ediv_nonneg h (Int.le_of_lt hb))
  omega
end Dk
namespace Lw
open PySem PySem.Spec PyProof.Rows L2 Gx
/-- a deck: a new list of so many numbers, each from 0 on, of at most 61 figures -/
def Deck (ds : List Int) : Prop := ∀ d ∈ ds, 0 ≤ d ∧ d < 10000000000000000000000000000000000000000000000000000000000000
theorem Deck.last {es : List Int} {e : Int} (h : Deck (es ++ [e])) : Deck es ∧ 0 ≤ e ∧ e < 10000000000000000000000000000000000000000000000000000000000000 := ⟨fun d hd => h d (List.mem_append_left _ hd), h e (by simp)⟩
end Lw
namespace Dw
open PySem PySem.Spec PyProof.Rows L2
/-- draws through those that are left -/
def dr (again : Bool) : List Int → List Int → List Int → Option (List Int)
  | _, [], found => some found
  | left, n :: r, found => if 0 ≤ n ∧ n < (left.length : Int) then dr again (if again then left else left.eraseIdx n.toNat) r (found ++ [left.getD n.toNat 0]) else none
/-- 0, 1, .. -/
def rg (m : Nat) : List Int := (List.range m).map fun (i : Nat) => (i : Int)
theorem rg_len (m : Nat) : (rg m).length = m := by simp [rg]
theorem rgV_eq (m : Nat) : rgV 0 (m : Int) = (rg m).map V.int := by
  unfold rgV rg
  rw [List.map_map, show ((m : Int) - 0).toNat = m by omega]
  congr 1
  funext i
  show V.int (0 + (i : Int)) = V.int (i : Int)
  rw [Int.zero_add]
theorem dr_app {again : Bool} : ∀ {ns ms left found : List Int}, dr again left (ns ++ ms) found = match dr again left ns found with
    | none => none
    | some f => dr again ((fun (z : List Int) => z) (ns.foldl (fun (l : List Int) n => if again then l else l.eraseIdx n.toNat) left)) ms f
  | [], ms, left, found => rfl
  | n :: r, ms, left, found => by
    show (if 0 ≤ n ∧ n < (left.length : Int) then dr again (if again then left else left.eraseIdx n.toNat) (r ++ ms) (found ++ [left.getD n.toNat 0]) else none) = match (if 0 ≤ n ∧ n < (left.length : Int) then dr again (if again then left else left.eraseIdx n.toNat) r (found ++ [left.getD n.toNat 0]) else none) with
      | none => none
      | some f => dr again ((n :: r).foldl (fun (l : List Int) n => if again then l else l.eraseIdx n.toNat) left) ms f
    by_cases c : 0 ≤ n ∧ n < (left.length : Int)
    · rw [if_pos c, if_pos c]
      exact dr_app
    · rw [if_neg c, if_neg c]
/-- how many are left -/
def lf (again : Bool) (m k : Nat) : Int := (m : Int) - (k : Int) * (if again then 0 else 1)
theorem fold_len {again : Bool} : ∀ {ns left : List Int}, (∀ (k : Nat) (n : Int), ns[k]? = some n → 0 ≤ n ∧ n < (left.length : Int) - (k : Int) * (if again then 0 else 1)) →
    ((ns.foldl (fun (l : List Int) n => if again then l else l.eraseIdx n.toNat) left).length : Int) = (left.length : Int) - (ns.length : Int) * (if again then 0 else 1)
  | [], left, _ => by simp
  | n :: r, left, h => by
    have h0 := h 0 n rfl
    have l1 : (((if again then left else left.eraseIdx n.toNat) : List Int).length : Int) = (left.length : Int) - (if again then 0 else 1) := by
      cases again
      · show ((left.eraseIdx n.toNat).length : Int) = _
        rw [List.length_eraseIdx]
        simp at h0
        rw [if_pos (by omega)]
        simp
        omega
      · simp
    have ih := fold_len (again := again) (ns := r) (left := if again then left else left.eraseIdx n.toNat) fun k x hx => by
      have := h (k + 1) x hx
      rw [l1]
      cases again <;> simp at this ⊢ <;> omega
    show ((r.foldl _ (if again then left else left.eraseIdx n.toNat)).length : Int) = _
    rw [ih, l1]
    cases again <;> simp
    omega
theorem dr_ok {again : Bool} : ∀ {ns left found : List Int}, (∀ (k : Nat) (n : Int), ns[k]? = some n → 0 ≤ n ∧ n < (left.length : Int) - (k : Int) * (if again then 0 else 1)) → ∃ out, dr again left ns found = some out
  | [], left, found, _ => ⟨found, rfl⟩
  | n :: r, left, found, h => by
    have h0 := h 0 n rfl
    have h0' : 0 ≤ n ∧ n < (left.length : Int) := by simpa using h0
    show ∃ out, (if 0 ≤ n ∧ n < (left.length : Int) then _ else none) = some out
    rw [if_pos h0']
    refine dr_ok fun k x hx => ?_
    have := h (k + 1) x hx
    cases again
    · show 0 ≤ x ∧ x < ((left.eraseIdx n.toNat).length : Int) - _
      rw [List.length_eraseIdx, if_pos (by omega)]
      simp at this ⊢
      omega
    · simpa using this
/-- a bad number behind good ones -/
theorem dr_bad {again : Bool} {ns ms left found : List Int} {x : Int} (h : ∀ (k : Nat) (n : Int), ns[k]? = some n → 0 ≤ n ∧ n < (left.length : Int) - (k : Int) * (if again then 0 else 1)) (hx : x < 0 ∨ (left.length : Int) - (ns.length : Int) * (if again then 0 else 1) ≤ x) :
    dr again left (ns ++ x :: ms) found = none := by
  rw [dr_app]
  obtain ⟨out, e⟩ := dr_ok (found := found) h
  rw [e]
  show (if 0 ≤ x ∧ x < ((ns.foldl (fun (l : List Int) n => if again then l else l.eraseIdx n.toNat) left).length : Int) then _ else none) = none
  rw [fold_len h, if_neg (by omega)]
theorem seqIx {n : Int} {k : Nat} (h0 : 0 ≤ n) (h1 : n < (k : Int)) : seqIndex? n k = some n.toNat := by
  unfold seqIndex?
  show (if (decide (0 ≤ (if n < 0 then n + (k : Int) else n)) && decide ((if n < 0 then n + (k : Int) else n) < (k : Int))) = true then some (if n < 0 then n + (k : Int) else n).toNat else none) = _
  rw [if_neg (show ¬ n < 0 by omega), decide_eq_true h0, decide_eq_true h1]
  rfl
theorem erase_map {α β : Type} (f : α → β) : ∀ (l : List α) (k : Nat), (l.map f).eraseIdx k = (l.eraseIdx k).map f
  | [], _ => rfl
  | _ :: _, 0 => rfl
  | a :: l, k + 1 => congrArg (fun z => f a :: z) (erase_map f l k)
end Dw
namespace D24
open PySem PySem.Spec PyProof.Rows L2 Dw
/-- those of a list that aren't gone -/
def ng (g l : List Int) : List Int := l.filter fun x => !g.contains x
theorem rg_succ (n : Nat) : rg (n + 1) = rg n ++ [(n : Int)] := by simp [rg, List.range_succ]
theorem mem_rg {n : Nat} {x : Int} : x ∈ rg n ↔ 0 ≤ x ∧ x < (n : Int) := by
  simp [rg]
  constructor
  · rintro ⟨k, h, rfl⟩; omega
  · rintro ⟨h0, h1⟩; exact ⟨x.toNat, by omega, by omega⟩
theorem cnt_in {g : List Int} {b : Nat} (h : (b : Int) ∈ g) : ng g (rg (b + 1)) = ng g (rg b) := by
  unfold ng
  rw [rg_succ, List.filter_append]
  simp [h]
theorem cnt_out {g : List Int} {b : Nat} (h : (b : Int) ∉ g) : ng g (rg (b + 1)) = ng g (rg b) ++ [(b : Int)] := by
  unfold ng
  rw [rg_succ, List.filter_append]
  simp [h]
/-- the numbers from b on -/
def up (b : Nat) : Nat → List Int
  | 0 => []
  | k + 1 => (b : Int) :: up (b + 1) k
theorem rg_up : ∀ (k b : Nat), rg (b + k) = rg b ++ up b k
  | 0, b => by simp [up]
  | k + 1, b => by
    rw [show b + (k + 1) = (b + 1) + k by omega, rg_up k (b + 1), rg_succ]
    simp [up]
theorem mem_up : ∀ {k b : Nat} {x : Int}, x ∈ up b k → (b : Int) ≤ x
  | k + 1, b, x, h => by
    rcases List.mem_cons.mp h with e | h
    · omega
    · have := mem_up h; omega
theorem rg_split {b m : Nat} (h : b < m) : rg m = rg b ++ (b : Int) :: up (b + 1) (m - b - 1) := by
  have e := rg_up (m - b) b
  rw [show b + (m - b) = m by omega] at e
  rw [e]
  congr 1
  rw [show m - b = (m - b - 1) + 1 by omega]
  rfl
theorem ng_split {g : List Int} {b m : Nat} (h : b < m) (hg : (b : Int) ∉ g) : ng g (rg m) = ng g (rg b) ++ (b : Int) :: ng g (up (b + 1) (m - b - 1)) := by
  unfold ng
  rw [rg_split h, List.filter_append, List.filter_cons]
  simp [hg]
theorem ng_le {g : List Int} {b m : Nat} (h : b ≤ m) : (ng g (rg b)).length ≤ (ng g (rg m)).length := by
  have e := rg_up (m - b) b
  rw [show b + (m - b) = m by omega] at e
  unfold ng
  rw [e, List.filter_append, List.length_append]
  omega
theorem at_ {g : List Int} {b m n : Nat} (h : b < m) (hg : (b : Int) ∉ g) (e : (ng g (rg b)).length = n) : (ng g (rg m)).getD n 0 = (b : Int) := by
  rw [ng_split h hg, ← e]
  simp
theorem erase_ {g : List Int} {b m n : Nat} (h : b < m) (hg : (b : Int) ∉ g) (e : (ng g (rg b)).length = n) : (ng g (rg m)).eraseIdx n = ng (g ++ [(b : Int)]) (rg m) := by
  have h1 : ng (g ++ [(b : Int)]) (rg b) = ng g (rg b) := by
    unfold ng
    refine List.filter_congr fun x hx => ?_
    have := mem_rg.mp hx
    have hne : ¬ x = (b : Int) := by omega
    simp [hne]
  have h2 : ng (g ++ [(b : Int)]) (up (b + 1) (m - b - 1)) = ng g (up (b + 1) (m - b - 1)) := by
    unfold ng
    refine List.filter_congr fun x hx => ?_
    have := mem_up hx
    have hne : ¬ x = (b : Int) := by omega
    simp [hne]
  have e2 : ng (g ++ [(b : Int)]) (rg m) = ng (g ++ [(b : Int)]) (rg b) ++ ng (g ++ [(b : Int)]) (up (b + 1) (m - b - 1)) := by
    unfold ng
    rw [rg_split h, List.filter_append, List.filter_cons]
    simp
  rw [e2, h1, h2, ng_split h hg, ← e, List.eraseIdx_append_of_length_le (Nat.le_refl _)]
  simp
theorem in_ints {x : Int} {g : List Int} : inV (.int x) (g.map V.int) = g.contains x := by
  unfold inV
  induction g with
  | nil => rfl
  | cons a r ih =>
    rw [List.map_cons, List.any_cons, ih, List.contains_cons]
    congr 1
    show (a == x) = (x == a)
    by_cases h : a = x
    · simp [h]
    · have h2 : ¬ x = a := fun z => h z.symm
      rw [beq_eq_false_iff_ne.mpr h, beq_eq_false_iff_ne.mpr h2]
theorem flat_ints (g : List Int) : (g.map V.int).all flatV = true := by
  induction g with
  | nil => rfl
  | cons a r ih => rw [List.map_cons, List.all_cons, ih]; rfl
end D24
namespace Ct
open PySem PySem.Spec PyProof.Rows L2
theorem to {xs : List V} {k : Nat} (h : k ≤ xs.length) : cutV xs none (some (k : Int)) = xs.take k := by
  unfold cutV
  rw [HT.sIx_none, HT.sIx_nat, Nat.min_eq_left h]
  simp
theorem from_ {xs : List V} {k : Nat} (h : k ≤ xs.length) : cutV xs (some (k : Int)) none = xs.drop k := by
  unfold cutV
  rw [HT.sIx_none, HT.sIx_nat, Nat.min_eq_left h]
  rw [List.take_of_length_le]
  simp
theorem but1 {xs : List V} : cutV xs none (some (-1)) = xs.dropLast := by
  unfold cutV
  rw [HT.sIx_none]
  have e : HT.sIx xs.length xs.length (some (-1)) = xs.length - 1 := by
    unfold HT.sIx
    simp
    omega
  rw [e, List.dropLast_eq_take]
  simp
theorem cutI {ns : List Int} {lo hi : Nat} : ∃ ms : List Int, cutV (ns.map V.int) (some (lo : Int)) (some (hi : Int)) = ms.map V.int ∧ ms.length ≤ hi - lo := by
  refine ⟨(ns.drop (min lo ns.length)).take (min hi ns.length - min lo ns.length), ?_, ?_⟩
  · unfold cutV
    rw [HT.sIx_nat, HT.sIx_nat, List.length_map, List.map_take, List.map_drop]
  · rw [List.length_take, List.length_drop]
    omega
end Ct
namespace Dt
open PySem PySem.Spec PyProof.Rows L2 Gx
/-! shape, with its depth -/
def Sh (k : Nat) (d : PyData) : Prop := d.canLay0 = true ∧ d.depth ≤ k
theorem sh_int {k : Nat} (i : Int) : Sh k (.int i) := ⟨by simp [PyData.canLay0], by simp [PyData.depth]⟩
theorem sh_bl {k : Nat} (b : Bool) : Sh k (.bool b) := ⟨by simp [PyData.canLay0], by simp [PyData.depth]⟩
theorem sh_non {k : Nat} : Sh k .none := ⟨by simp [PyData.canLay0], by simp [PyData.depth]⟩
theorem sh_str {k : Nat} {x : Str} (h : PyData.strOk x = true) : Sh k (.str x) := ⟨by simpa [PyData.canLay0] using h, by simp [PyData.depth]⟩
theorem shAll {k : Nat} : ∀ {ds : List PyData}, (∀ d ∈ ds, Sh k d) → PyData.canLayAll0 ds = true ∧ PyData.depthAll ds ≤ k
  | [], _ => ⟨by simp [PyData.canLayAll0], by simp [PyData.depthAll]⟩
  | d :: ds, h => by
    obtain ⟨h1, h2⟩ := shAll fun x hx => h x (List.mem_cons_of_mem d hx)
    obtain ⟨g1, g2⟩ := h d (List.mem_cons_self ..)
    exact ⟨by simp [PyData.canLayAll0, g1, h1], by simp [PyData.depthAll]; omega⟩
theorem sh_tup {k : Nat} {ds : List PyData} (h : ∀ d ∈ ds, Sh k d) : Sh (k + 1) (.tuple ds) := by
  obtain ⟨h1, h2⟩ := shAll h
  exact ⟨by simpa [PyData.canLay0] using h1, by simp [PyData.depth]; omega⟩
theorem sh_lst {k : Nat} {ds : List PyData} (h : ∀ d ∈ ds, Sh k d) : Sh (k + 1) (.list ds) := by
  obtain ⟨h1, h2⟩ := shAll h
  exact ⟨by simpa [PyData.canLay0] using h1, by simp [PyData.depth]; omega⟩
theorem Sh.mono {k n : Nat} {d : PyData} (h : Sh k d) (e : k ≤ n) : Sh n d := ⟨h.1, Nat.le_trans h.2 e⟩
theorem Sh.ok {k : Nat} {d : PyData} (h : Sh k d) (e : k ≤ 64 := by decide) : SeqAt.shaped d = true := by
  unfold SeqAt.shaped
  rw [h.1, decide_eq_true (Nat.le_trans h.2 e)]
  rfl
theorem refl {k : Nat} {d : PyData} (h : Sh k d) : PyData.eqv d d = true := SeqAt.eqv_refl _ h.1
/-! data taken apart -/
variable {K : PySem.W.Frag} {H : Hp}
theorem tup {v : V} {ds : List PyData} (h : Dp K H v (.tuple ds)) : ∃ p xs, v = .ref p ∧ SqT K H p xs ∧ DpAll K H xs ds := by
  cases h with
  | tup a b => exact ⟨_, _, rfl, a, b⟩
theorem lst {v : V} {ds : List PyData} (h : Dp K H v (.list ds)) : ∃ p xs, v = .ref p ∧ SqL K H p xs ∧ DpAll K H xs ds := by
  cases h with
  | lst a b => exact ⟨_, _, rfl, a, b⟩
theorem int {v : V} {i : Int} (h : Dp K H v (.int i)) : v = .int i := by cases h; rfl
theorem str {v : V} {x : Str} (h : Dp K H v (.str x)) : v = .str x := by cases h; rfl
theorem bl {v : V} {b : Bool} (h : Dp K H v (.bool b)) : v = .bl b := by cases h; rfl
theorem non {v : V} (h : Dp K H v .none) : v = .non := by cases h; rfl
theorem len : ∀ {xs : List V} {ds : List PyData}, DpAll K H xs ds → xs.length = ds.length
  | _, _, .nil => rfl
  | _, _, .cons _ r => congrArg (· + 1) (len r)
theorem at_ : ∀ {xs : List V} {ds : List PyData} {i : Nat} {x : V}, DpAll K H xs ds → xs[i]? = some x → ∃ d, ds[i]? = some d ∧ Dp K H x d
  | _, _, 0, x, .cons (d := d) a r, e => ⟨d, rfl, (Option.some.inj e) ▸ a⟩
  | _, _, i + 1, x, .cons a r, e => at_ (i := i) r e
theorem at2 : ∀ {xs : List V} {ds : List PyData} {i : Nat} {d : PyData}, DpAll K H xs ds → ds[i]? = some d → ∃ x, xs[i]? = some x ∧ Dp K H x d
  | _, _, 0, d, .cons (v := v) a r, e => ⟨v, rfl, (Option.some.inj e) ▸ a⟩
  | _, _, i + 1, d, .cons a r, e => at2 (i := i) r e
theorem cons {x : V} {xs : List V} {d : PyData} {ds : List PyData} (h : DpAll K H (x :: xs) (d :: ds)) : Dp K H x d ∧ DpAll K H xs ds := by
  cases h with
  | cons a b => exact ⟨a, b⟩
theorem pair {v : V} {a b : PyData} (h : Dp K H v (.tuple [a, b])) : ∃ p x y, v = .ref p ∧ SqT K H p [x, y] ∧ Dp K H x a ∧ Dp K H y b := by
  obtain ⟨p, xs, rfl, s, g⟩ := tup h
  cases g with
  | cons h1 g =>
    cases g with
    | cons h2 g =>
      cases g
      exact ⟨p, _, _, rfl, s, h1, h2⟩
theorem app : ∀ {xs : List V} {ds : List PyData} {ys : List V} {es : List PyData}, DpAll K H xs ds → DpAll K H ys es → DpAll K H (xs ++ ys) (ds ++ es)
  | _, _, _, _, .nil, g => g
  | _, _, _, _, .cons a r, g => .cons a (app r g)
theorem take : ∀ {xs : List V} {ds : List PyData} (n : Nat), DpAll K H xs ds → DpAll K H (xs.take n) (ds.take n)
  | _, _, 0, _ => .nil
  | _, _, n + 1, .nil => .nil
  | _, _, n + 1, .cons a r => .cons a (take n r)
theorem drop : ∀ {xs : List V} {ds : List PyData} (n : Nat), DpAll K H xs ds → DpAll K H (xs.drop n) (ds.drop n)
  | _, _, 0, h => h
  | _, _, n + 1, .nil => .nil
  | _, _, n + 1, .cons a r => drop n r
theorem set : ∀ {xs : List V} {ds : List PyData} (n : Nat) {x : V} {d : PyData}, DpAll K H xs ds → Dp K H x d → DpAll K H (xs.set n x) (ds.set n d)
  | _, _, _, _, _, .nil, _ => .nil
  | _, _, 0, _, _, .cons a r, h => .cons h r
  | _, _, n + 1, _, _, .cons a r, h => .cons a (set n r h)
theorem two {x y : V} {a b : PyData} (h1 : Dp K H x a) (h2 : Dp K H y b) : DpAll K H [x, y] [a, b] := .cons h1 (.cons h2 .nil)
theorem intz (ns : List Int) : DpAll K H (ns.map V.int) (ns.map PyData.int) := Dk.dp_all ns
theorem strz : ∀ ns : List Str, DpAll K H (ns.map V.str) (ns.map PyData.str)
  | [] => .nil
  | n :: r => .cons (.str n) (strz r)
theorem of_strs : ∀ {xs : List V} {ns : List Str}, DpAll K H xs (ns.map PyData.str) → xs = ns.map V.str
  | _, [], .nil => rfl
  | _, n :: r, .cons a g => by rw [str a, of_strs g]; rfl
theorem of_ints : ∀ {xs : List V} {ns : List Int}, DpAll K H xs (ns.map PyData.int) → xs = ns.map V.int
  | _, [], .nil => rfl
  | _, n :: r, .cons a g => by rw [int a, of_ints g]; rfl
/-- the list's own data, once more where others are appended -/
theorem snoc {xs : List V} {ds : List PyData} {x : V} {d : PyData} (h : DpAll K H xs ds) (g : Dp K H x d) : DpAll K H (xs ++ [x]) (ds ++ [d]) := app h (.cons g .nil)
theorem noLs_of : ∀ {ds : List PyData}, (∀ d ∈ ds, noL d = true) → noLs ds = true
  | [], _ => by simp [noLs]
  | d :: ds, h => by simp [noLs, h d (List.mem_cons_self ..), noLs_of fun x hx => h x (List.mem_cons_of_mem d hx)]
theorem noL_tup {ds : List PyData} (h : ∀ d ∈ ds, noL d = true) : noL (.tuple ds) = true := by simpa [noL] using noLs_of h
/-! == of data, told -/
theorem eqv_int (a b : Int) : PyData.eqv (.int a) (.int b) = decide (a = b) := by simp [PyData.eqv]; by_cases h : a = b <;> simp [h]
theorem eqv_bl (a b : Bool) : PyData.eqv (.bool a) (.bool b) = decide (a = b) := by cases a <;> cases b <;> simp [PyData.eqv]
end Dt
namespace Dt
open PySem PySem.Spec PyProof.Rows L2 Gx
theorem k_ne {K : PySem.W.Frag} {H : Hp} {Q : VK} {x y : V} {d : PyData} {k : Nat} (hx : Dp K H x d) (hy : Dp K H y d) (s : Sh k d) (q : Q (.bl false) H) (e : k ≤ 64 := by decide) : rNeU K x y H Q := k_neD hx hy (by rw [refl s]; exact q) (s.ok e) (s.ok e)
end Dt
namespace Cn
def fac (m : Int) (b : Bool) (i : Nat) : Int := if b then m else max 0 (m - (i : Int))
/-- so many draws -/
def cnt (m : Int) (b : Bool) : Nat → Int
  | 0 => 1
  | n + 1 => cnt m b n * fac m b n
theorem fac_small {m : Int} (h : m.natAbs < 2 ^ 20) (b : Bool) (i : Nat) : (fac m b i).natAbs < 2 ^ 20 := by
  unfold fac
  cases b
  · show (max 0 (m - (i : Int))).natAbs < 2 ^ 20
    omega
  · exact h
theorem cnt_small {m : Int} (h : m.natAbs < 2 ^ 20) (b : Bool) : ∀ i, (cnt m b i).natAbs < 2 ^ (20 * i + 1)
  | 0 => by show (1 : Int).natAbs < 2 ^ 1; decide
  | i + 1 => by
    show (cnt m b i * fac m b i).natAbs < _
    rw [Int.natAbs_mul, show 20 * (i + 1) + 1 = (20 * i + 1) + 20 by omega, Nat.pow_add]
    exact Nat.mul_lt_mul'' (cnt_small h b i) (fac_small h b i)
/-- the first factor taken out -/
theorem cnt_front (m : Int) (b : Bool) : ∀ n, cnt m b (n + 1) = fac m b 0 * cnt (m - (if b then 0 else 1)) b n
  | 0 => by
    show 1 * fac m b 0 = fac m b 0 * 1
    omega
  | n + 1 => by
    show cnt m b (n + 1) * fac m b (n + 1) = fac m b 0 * (cnt (m - (if b then 0 else 1)) b n * fac (m - (if b then 0 else 1)) b n)
    rw [cnt_front m b n, Int.mul_assoc]
    congr 2
    unfold fac
    cases b
    · show max 0 (m - ((n + 1 : Nat) : Int)) = max 0 (m - 1 - (n : Int))
      omega
    · show m = m - 0
      omega
theorem cnt_none {m : Int} (h0 : 0 ≤ m) : ∀ {n : Nat}, m < (n : Int) → cnt m false n = 0
  | 0, h => by omega
  | n + 1, h => by
    show cnt m false n * max 0 (m - (n : Int)) = 0
    by_cases c : m < (n : Int)
    · rw [cnt_none h0 c, Int.zero_mul]
    · rw [show max 0 (m - (n : Int)) = 0 by omega, Int.mul_zero]
end Cn
namespace Fr
open PySem PySem.Spec PyProof.Rows L2
/-- a fraction's two parts -/
abbrev fq (q : Rat) : List V := [.int q.num, .int (q.den : Int)]
def fqd (q : Rat) : PyData := .tuple [.int q.num, .int (q.den : Int)]
theorem dp_fq {K : PySem.W.Frag} {H : Hp} {p : Addr} {q : Rat} (h : SqT K H p (fq q)) : Dp K H (.ref p) (fqd q) := .tup h (.cons (.int _) (.cons (.int _) .nil))
theorem shaped_fq (q : Rat) : SeqAt.shaped (fqd q) = true := by simp [SeqAt.shaped, fqd, PyData.canLay0, PyData.canLayAll0, PyData.depth, PyData.depthAll]
theorem eqv_fq (x y : Rat) : PyData.eqv (fqd x) (fqd y) = decide (x = y) := by
  have e : PyData.eqv (fqd x) (fqd y) = (decide (x.num = y.num) && decide (x.den = y.den)) := by
    simp [fqd, PyData.eqv, PyData.eqvAll]
    by_cases h1 : x.num = y.num <;> by_cases h2 : x.den = y.den <;> simp [h1, h2] <;> omega
  rw [e]
  by_cases h : x = y
  · simp [h]
  · have : ¬ (x.num = y.num ∧ x.den = y.den) := fun z => h (Rat.ext z.1 z.2)
    simp [h]
    exact fun z w => this ⟨z, w⟩
/-! ### the greatest divisor -/
theorem gcd_fmod (a b : Int) : Int.gcd b (a.fmod b) = Int.gcd a b := by
  rw [Int.fmod_def, Int.gcd_sub_mul_left_right, Int.gcd_comm]
theorem fmod_nn (a : Int) {b : Int} (h : 0 < b) : 0 ≤ a.fmod b := by
  rw [Int.fmod_eq_emod_of_nonneg a (by omega)]
  exact Int.emod_nonneg _ (by omega)
theorem fmod_less {a b : Int} (h : b ≠ 0) : (a.fmod b).natAbs < b.natAbs := by
  rcases Int.lt_or_lt_of_ne h with c | c
  · have e : a.fmod b = -((-a).fmod (-b)) := by
      rw [Int.fmod_def, Int.fmod_def, Int.neg_fdiv_neg]
      have := Int.neg_mul b (a.fdiv b)
      omega
    have h1 := fmod_nn (-a) (show 0 < -b by omega)
    have h2 := Int.fmod_lt_of_pos (-a) (show 0 < -b by omega)
    omega
  · have h1 := fmod_nn a c
    have h2 := Int.fmod_lt_of_pos a c
    omega
/-- what lowest makes -/
theorem low_num {a b d : Int} (hb : b ≠ 0) (hd : d = if b < 0 then 0 - (Int.gcd a b : Int) else (Int.gcd a b : Int)) : a.fdiv d = (Rat.divInt a b).num := by
  have g0 : (0 : Int) < Int.gcd a b := by have := Int.gcd_pos_of_ne_zero_right a hb; omega
  obtain ⟨k, hk⟩ := Int.gcd_dvd_left a b
  rw [Rat.num_divInt, Int.gcd_comm b a]
  rcases Int.lt_or_lt_of_ne hb with c | c
  · rw [if_pos c] at hd
    rw [Int.sign_eq_neg_one_of_neg c]
    have e1 : a.fdiv d = -k := by
      have : a = d * (-k) := by rw [hd, Int.zero_sub, Int.neg_mul_neg]; exact hk
      rw [this]
      exact Int.mul_fdiv_cancel_left _ (by omega)
    have e2 : -1 * a / (Int.gcd a b : Int) = -k := by
      have : -1 * a = (Int.gcd a b : Int) * (-k) := by rw [Int.mul_neg, ← hk]; omega
      rw [this]
      exact Int.mul_ediv_cancel_left _ (by omega)
    rw [e1, e2]
  · rw [if_neg (by omega)] at hd
    rw [Int.sign_eq_one_of_pos c, Int.one_mul, hd, Int.fdiv_eq_ediv_of_nonneg a (by omega)]
theorem low_den {a b d : Int} (hb : b ≠ 0) (hd : d = if b < 0 then 0 - (Int.gcd a b : Int) else (Int.gcd a b : Int)) : b.fdiv d = ((Rat.divInt a b).den : Int) := by
  have g0 : (0 : Int) < Int.gcd a b := by have := Int.gcd_pos_of_ne_zero_right a hb; omega
  obtain ⟨k, hk⟩ := Int.gcd_dvd_right a b
  have e3 : ((Rat.divInt a b).den : Int) = (b.natAbs : Int) / (Int.gcd a b : Int) := by
    rw [Rat.den_divInt, if_neg hb, Int.gcd_comm b a]
    rfl
  rw [e3]
  rcases Int.lt_or_lt_of_ne hb with c | c
  · rw [if_pos c] at hd
    have e1 : b.fdiv d = -k := by
      have : b = d * (-k) := by rw [hd, Int.zero_sub, Int.neg_mul_neg]; exact hk
      rw [this]
      exact Int.mul_fdiv_cancel_left _ (by omega)
    have e2 : (b.natAbs : Int) / (Int.gcd a b : Int) = -k := by
      have : (b.natAbs : Int) = (Int.gcd a b : Int) * (-k) := by rw [Int.mul_neg, ← hk]; omega
      rw [this]
      exact Int.mul_ediv_cancel_left _ (by omega)
    rw [e1, e2]
  · rw [if_neg (by omega)] at hd
    rw [hd, Int.fdiv_eq_ediv_of_nonneg b (by omega)]
    congr 1
    omega
/-! ### sizes -/
def Sz (n : Nat) (q : Rat) : Prop := q.num.natAbs < 2 ^ n ∧ q.den < 2 ^ n
theorem pw {a b : Nat} (h : a ≤ b) : 2 ^ a ≤ 2 ^ b := Nat.pow_le_pow_right (by decide) h
theorem Sz.mono {m n : Nat} {q : Rat} (h : Sz m q) (l : m ≤ n) : Sz n q := ⟨Nat.lt_of_lt_of_le h.1 (pw l), Nat.lt_of_lt_of_le h.2 (pw l)⟩
theorem divInt_num_le {a b : Int} (hb : b ≠ 0) : (Rat.divInt a b).num.natAbs ≤ a.natAbs := by
  rw [Rat.num_divInt]
  have h : (b.sign * a / (Int.gcd b a : Int)).natAbs ≤ (b.sign * a).natAbs := Int.natAbs_ediv_le_natAbs _ _
  have e : (b.sign * a).natAbs = a.natAbs := by
    rw [Int.natAbs_mul, Int.natAbs_sign_of_ne_zero hb, Nat.one_mul]
  omega
theorem divInt_den_le {a b : Int} (hb : b ≠ 0) : (Rat.divInt a b).den ≤ b.natAbs := by
  rw [Rat.den_divInt, if_neg hb]
  exact Nat.div_le_self _ _
theorem sz_divInt {a b : Int} {n : Nat} (hb : b ≠ 0) (h1 : a.natAbs < 2 ^ n) (h2 : b.natAbs < 2 ^ n) : Sz n (Rat.divInt a b) := ⟨Nat.lt_of_le_of_lt (divInt_num_le hb) h1, Nat.lt_of_le_of_lt (divInt_den_le hb) h2⟩
theorem mul_lt {a b : Int} {m n : Nat} (ha : a.natAbs < 2 ^ m) (hb : b.natAbs < 2 ^ n) : (a * b).natAbs < 2 ^ (m + n) := by
  rw [Int.natAbs_mul, Nat.pow_add]
  exact Nat.mul_lt_mul'' ha hb
theorem add_lt {a b : Int} {m : Nat} (ha : a.natAbs < 2 ^ m) (hb : b.natAbs < 2 ^ m) : (a + b).natAbs < 2 ^ (m + 1) := by
  rw [Nat.pow_succ]
  omega
theorem sub_lt {a b : Int} {m : Nat} (ha : a.natAbs < 2 ^ m) (hb : b.natAbs < 2 ^ m) : (a - b).natAbs < 2 ^ (m + 1) := by
  rw [Nat.pow_succ]
  omega
theorem den_ne (q : Rat) : (q.den : Int) ≠ 0 := by have := q.den_nz; omega
theorem den_pos (q : Rat) : (0 : Int) < (q.den : Int) := by have := q.den_nz; omega
theorem add_eq (x y : Rat) : Rat.divInt (x.num * y.den + y.num * x.den) (x.den * y.den) = x + y := by
  rw [Rat.add_def']
  exact Rat.divInt_ofNat _ (x.den * y.den)
theorem sub_eq (x y : Rat) : Rat.divInt (x.num * y.den - y.num * x.den) (x.den * y.den) = x - y := by
  rw [Rat.sub_def']
  exact Rat.divInt_ofNat _ (x.den * y.den)
theorem mul_eq (x y : Rat) : Rat.divInt (x.num * y.num) (x.den * y.den) = x * y := by
  rw [Rat.mul_def']
  exact Rat.divInt_ofNat _ (x.den * y.den)
theorem div_eq (x y : Rat) : Rat.divInt (x.num * y.den) (x.den * y.num) = x / y := by
  rw [Rat.div_def, Rat.inv_def, ← Rat.divInt_mul_divInt, Rat.num_divInt_den]
theorem Sz.den {n : Nat} {q : Rat} (h : Sz n q) : ((q.den : Int)).natAbs < 2 ^ n := h.2
theorem dd_lt {x y : Rat} {m n : Nat} (hx : Sz m x) (hy : Sz n y) : ((x.den : Int) * (y.den : Int)).natAbs < 2 ^ (m + n) := mul_lt hx.den hy.den
theorem up1 {a : Int} {n : Nat} (h : a.natAbs < 2 ^ n) : a.natAbs < 2 ^ (n + 1) := Nat.lt_of_lt_of_le h (pw (by omega))
theorem nn_lt {x y : Rat} {m n : Nat} (hx : Sz m x) (hy : Sz n y) : (x.num * (y.den : Int) + y.num * (x.den : Int)).natAbs < 2 ^ (m + n + 1) := by
  have h1 := mul_lt hx.1 hy.den
  have h2 := mul_lt hy.1 hx.den
  rw [Nat.add_comm n m] at h2
  exact add_lt h1 h2
theorem ns_lt {x y : Rat} {m n : Nat} (hx : Sz m x) (hy : Sz n y) : (x.num * (y.den : Int) - y.num * (x.den : Int)).natAbs < 2 ^ (m + n + 1) := by
  have h1 := mul_lt hx.1 hy.den
  have h2 := mul_lt hy.1 hx.den
  rw [Nat.add_comm n m] at h2
  exact sub_lt h1 h2
theorem Sz.add {x y : Rat} {m n : Nat} (hx : Sz m x) (hy : Sz n y) : Sz (m + n + 1) (x + y) := by
  rw [← add_eq]
  exact sz_divInt (Int.mul_ne_zero (den_ne x) (den_ne y)) (nn_lt hx hy) (up1 (dd_lt hx hy))
theorem Sz.sub {x y : Rat} {m n : Nat} (hx : Sz m x) (hy : Sz n y) : Sz (m + n + 1) (x - y) := by
  rw [← sub_eq]
  exact sz_divInt (Int.mul_ne_zero (den_ne x) (den_ne y)) (ns_lt hx hy) (up1 (dd_lt hx hy))
theorem Sz.mul {x y : Rat} {m n : Nat} (hx : Sz m x) (hy : Sz n y) : Sz (m + n) (x * y) := by
  rw [← mul_eq]
  exact sz_divInt (Int.mul_ne_zero (den_ne x) (den_ne y)) (mul_lt hx.1 hy.1) (dd_lt hx hy)
theorem num_ne {y : Rat} (h : y ≠ 0) : y.num ≠ 0 := fun z => h (Rat.num_eq_zero.mp z)
theorem Sz.div {x y : Rat} {m n : Nat} (hx : Sz m x) (hy : Sz n y) : Sz (m + n) (x / y) := by
  by_cases h : y = 0
  · rw [h, Rat.div_def, Rat.inv_zero, Rat.mul_zero]
    have h3 : 1 < 2 ^ m := by have := hx.2; have := x.den_nz; omega
    exact ⟨Nat.lt_of_lt_of_le (by decide) (Nat.one_le_two_pow (n := m + n)), Nat.lt_of_lt_of_le h3 (pw (by omega))⟩
  · rw [← div_eq]
    exact sz_divInt (Int.mul_ne_zero (den_ne x) (num_ne h)) (mul_lt hx.1 hy.den) (mul_lt hx.den hy.1)
theorem gcd_small {a b : Int} {n : Nat} (hb : b ≠ 0) (h : b.natAbs < 2 ^ n) : Int.gcd a b < 2 ^ n := Nat.lt_of_le_of_lt (Int.gcd_le_natAbs_right a hb) h
end Fr
namespace Lw
open PySem PySem.Spec PyProof.Rows L2 Gx
/-- a divisor that the division may have -/
def Okd (a b : Int) : Prop := (a.natAbs < 2 ^ 13500 ∧ b.natAbs < 2 ^ 13500) ∨ Int.gcd a b < 2 ^ 9000
theorem Okd.div {a b d : Int} (h : Okd a b) (e : d.natAbs = Int.gcd a b) : Builtin.divisionGoesByPylong a d = false ∧ Builtin.divisionGoesByPylong b d = false := by
  rcases h with ⟨h1, h2⟩ | h
  · exact ⟨noPy_mid h1, noPy_mid h2⟩
  · exact ⟨noPy_low (by rw [e]; exact h), noPy_low (by rw [e]; exact h)⟩
theorem okd_den {a b : Int} {n : Nat} (hb : b ≠ 0) (h : b.natAbs < 2 ^ n) (hn : n ≤ 9000) : Okd a b := .inr (Nat.lt_of_lt_of_le (Fr.gcd_small hb h) (Fr.pw hn))
/-- a great fraction times a small one: what both parts have in common is small -/
theorem okd_mul {x y : Rat} {n : Nat} (hy : y ≠ 0) (sy : Fr.Sz n y) (h : 2 * n ≤ 9000) : Okd (x.num * y.num) ((x.den : Int) * (y.den : Int)) := by
  refine .inr (Nat.lt_of_lt_of_le ?_ (Fr.pw h))
  have e : Int.gcd (x.num * y.num) ((x.den : Int) * (y.den : Int)) = Nat.gcd (x.num.natAbs * y.num.natAbs) (x.den * y.den) := by
    unfold Int.gcd
    rw [Int.natAbs_mul, Int.natAbs_mul, Int.natAbs_natCast, Int.natAbs_natCast]
  rw [e]
  have d := Nat.gcd_mul_right_dvd_mul_gcd (x.num.natAbs * y.num.natAbs) x.den y.den
  have c0 : Nat.gcd (x.num.natAbs * y.num.natAbs) x.den ∣ y.num.natAbs := by
    have cp : Nat.Coprime x.den x.num.natAbs := x.reduced.symm
    have h2 : Nat.Coprime (Nat.gcd (x.num.natAbs * y.num.natAbs) x.den) x.num.natAbs := Nat.Coprime.coprime_dvd_left (Nat.gcd_dvd_right ..) cp
    exact h2.dvd_of_dvd_mul_left (Nat.gcd_dvd_left ..)
  have c1 := Nat.gcd_dvd_right (x.num.natAbs * y.num.natAbs) y.den
  have yn : y.num.natAbs ≠ 0 := fun z => hy (Rat.num_eq_zero.mp (Int.natAbs_eq_zero.mp z))
  have l0 := Nat.le_of_dvd (by omega) c0
  have l1 := Nat.le_of_dvd y.den_pos c1
  have pos : 0 < Nat.gcd (x.num.natAbs * y.num.natAbs) x.den * Nat.gcd (x.num.natAbs * y.num.natAbs) y.den := Nat.mul_pos (Nat.gcd_pos_of_pos_right _ x.den_pos) (Nat.gcd_pos_of_pos_right _ y.den_pos)
  have l2 := Nat.le_of_dvd pos d
  have l3 := Nat.mul_le_mul l0 l1
  have l4 : y.num.natAbs * y.den < 2 ^ n * 2 ^ n := Nat.mul_lt_mul'' sy.1 sy.2
  have e2 : 2 ^ (2 * n) = 2 ^ n * 2 ^ n := by rw [Nat.two_mul, Nat.pow_add]
  omega
end Lw
namespace Lw
open PySem PySem.Spec PyProof.Rows L2 Gx
/-- whether a value is a whole number, by its type -/
def Whole (K : PySem.W.Frag) (H : Hp) (x : V) (b : Bool) : Prop := ∃ (t : Value) (b1 b2 : Bool), TyX K H x t ∧ PySem.W.kitOne K t (.type "int") = some b1 ∧ PySem.W.kitOne K t (.type "bool") = some b2 ∧ b = (b1 && !b2)
theorem Whole.int {K : PySem.W.Frag} {H : Hp} (i : Int) : Whole K H (.int i) true := ⟨.type "int", true, false, .base (.int i), kit_ty (by decide +kernel), kit_ty (by decide +kernel), rfl⟩
theorem Whole.bl {K : PySem.W.Frag} {H : Hp} (b : Bool) : Whole K H (.bl b) false := ⟨.type "bool", true, true, .base (.bl b), kit_ty (by decide +kernel), kit_ty (by decide +kernel), rfl⟩
theorem Whole.str {K : PySem.W.Frag} {H : Hp} (x : Str) : Whole K H (.str x) false := ⟨.type "str", false, false, .base (.str x), kit_ty (by decide +kernel), kit_ty (by decide +kernel), rfl⟩
theorem Whole.non {K : PySem.W.Frag} {H : Hp} : Whole K H .non false := ⟨.type "NoneType", false, false, .base .non, kit_ty (by decide +kernel), kit_ty (by decide +kernel), rfl⟩
theorem Whole.same {K : PySem.W.Frag} {H H' : Hp} (e : Same H H') {x : V} {b : Bool} (h : Whole K H x b) : Whole K H' x b := by
  obtain ⟨t, b1, b2, ht, h⟩ := h
  exact ⟨t, b1, b2, tyx_same e ht, h⟩
theorem Whole.tup {K : PySem.W.Frag} {H : Hp} {p : Addr} {xs : List V} (h : SqT K H p xs) : Whole K H (.ref p) false := ⟨.type "tuple", false, false, ty_tup h, kit_ty (by decide +kernel), kit_ty (by decide +kernel), rfl⟩
theorem Whole.lst {K : PySem.W.Frag} {H : Hp} {p : Addr} {xs : List V} (h : SqL K H p xs) : Whole K H (.ref p) false := ⟨.type "list", false, false, ty_lst h, kit_ty (by decide +kernel), kit_ty (by decide +kernel), rfl⟩
theorem Whole.dict {K : PySem.W.Frag} {H : Hp} {p : Addr} {kvs : List (Key × V)} (h : H p = some (.dK kvs)) : Whole K H (.ref p) false := ⟨.type "dict", false, false, .base (.dK h), kit_ty (by decide +kernel), kit_ty (by decide +kernel), rfl⟩
/-- whether a thing is a fraction -/
inductive IsF (K : PySem.W.Frag) (H : Hp) : V → Bool → Prop
  | kind {x : V} {t : Value} (ht : TyX K H x t) (hk : PySem.W.kitOne K t (.type "tuple") = some false) : IsF K H x false
  | len {p : Addr} {xs : List V} (h : SqT K H p xs) (hl : xs.length ≠ 2) : IsF K H (.ref p) false
  | parts {p : Addr} {u v : V} {bu bv : Bool} (h : SqT K H p [u, v]) (hu : Whole K H u bu) (hv : Whole K H v bv) (hb : (bu && bv) = false) : IsF K H (.ref p) false
  | whole {p : Addr} {c d : Int} (h : SqT K H p [.int c, .int d]) : IsF K H (.ref p) (decide (0 < d) && decide (Int.gcd c d = 1))
theorem IsF.int {K : PySem.W.Frag} {H : Hp} (i : Int) : IsF K H (.int i) false := .kind (.base (.int i)) (kit_ty (by decide +kernel))
theorem IsF.bl {K : PySem.W.Frag} {H : Hp} (b : Bool) : IsF K H (.bl b) false := .kind (.base (.bl b)) (kit_ty (by decide +kernel))
theorem IsF.str {K : PySem.W.Frag} {H : Hp} (x : Str) : IsF K H (.str x) false := .kind (.base (.str x)) (kit_ty (by decide +kernel))
theorem IsF.non {K : PySem.W.Frag} {H : Hp} : IsF K H .non false := .kind (.base .non) (kit_ty (by decide +kernel))
theorem IsF.lst {K : PySem.W.Frag} {H : Hp} {p : Addr} {xs : List V} (h : SqL K H p xs) : IsF K H (.ref p) false := .kind (ty_lst h) (kit_ty (by decide +kernel))
theorem IsF.dict {K : PySem.W.Frag} {H : Hp} {p : Addr} {kvs : List (Key × V)} (h : H p = some (.dK kvs)) : IsF K H (.ref p) false := .kind (.base (.dK h)) (kit_ty (by decide +kernel))
theorem IsF.yes {K : PySem.W.Frag} {H : Hp} {p : Addr} {q : Rat} (h : SqT K H p (Fr.fq q)) : IsF K H (.ref p) true := by
  have e2 : Int.gcd q.num (q.den : Int) = 1 := q.reduced
  have z := IsF.whole h
  rw [decide_eq_true (Fr.den_pos q), decide_eq_true e2] at z
  exact z
theorem all_cons {α : Type} {P : α → Prop} {a : α} {l : List α} (h : P a) (r : ∀ x ∈ l, P x) : ∀ x ∈ a :: l, P x := fun x hx => by
  rcases List.mem_cons.mp hx with e | e
  · rw [e]; exact h
  · exact r x e
theorem at_mem {xs : List V} {i : Int} (h0 : 0 ≤ i) (h1 : i < xs.length) : ∃ v, v ∈ xs ∧ atI xs i = some v := by
  obtain ⟨n, rfl⟩ : ∃ n : Nat, i = (n : Int) := ⟨i.toNat, by omega⟩
  exact ⟨xs[n]'(by omega), List.getElem_mem _, atI_nat (by simp)⟩
end Lw
namespace Lw
open PySem PySem.Spec PyProof.Rows L2 Gx
/-- fractions at some addresses -/
def Fqs (K : PySem.W.Frag) (H : Hp) (vs : List V) (qs : List Rat) : Prop := Paired (fun v q => ∃ p, v = V.ref p ∧ SqT K H p (Fr.fq q)) vs qs
theorem Fqs.same {K : PySem.W.Frag} {H H' : Hp} (e : Same H H') : ∀ {vs : List V} {qs : List Rat}, Fqs K H vs qs → Fqs K H' vs qs
  | _, _, .nil => .nil
  | _, _, .cons ⟨p, h1, h2⟩ r => .cons ⟨p, h1, seqT_same e h2⟩ (Fqs.same e r)
theorem Fqs.get {K : PySem.W.Frag} {H : Hp} : ∀ {vs : List V} {qs : List Rat} {i : Nat} {v : V}, Fqs K H vs qs → vs[i]? = some v → ∃ p q, v = .ref p ∧ qs[i]? = some q ∧ SqT K H p (Fr.fq q)
  | _, _, 0, v, .cons (b := q) ⟨p, h1, h2⟩ r, e => ⟨p, q, (Option.some.inj e).symm.trans h1, rfl, h2⟩
  | _, _, i + 1, v, .cons ⟨p, h1, h2⟩ r, e => Fqs.get (i := i) r e
theorem Fqs.len {K : PySem.W.Frag} {H : Hp} {vs : List V} {qs : List Rat} (h : Fqs K H vs qs) : vs.length = qs.length := Paired.length h
def sum (qs : List Rat) : Rat := qs.foldl (· + ·) 0
def szs (ns : List Nat) : Nat := ns.foldl (fun a n => a + n + 1) 1
theorem szs_snoc (l : List Nat) (n : Nat) : szs (l ++ [n]) = szs l + n + 1 := by simp [szs]
theorem sum_snoc (l : List Rat) (q : Rat) : sum (l ++ [q]) = sum l + q := by simp [sum]
theorem szs_take (l : List Nat) (i : Nat) : szs (l.take i) ≤ szs l := by
  have h : ∀ (m : List Nat) (a b : Nat), a ≤ b → a ≤ m.foldl (fun a n => a + n + 1) b := fun m => by
    induction m with
    | nil => intro a b h; exact h
    | cons x r ih => intro a b h; exact ih a _ (show a ≤ b + x + 1 by omega)
  have e : szs l = (l.drop i).foldl (fun a n => a + n + 1) (szs (l.take i)) := by
    unfold szs
    rw [← List.foldl_append, List.take_append_drop]
  rw [e]
  exact h _ _ _ (Nat.le_refl _)
theorem take_snoc {α : Type} {l : List α} {i : Nat} {x : α} (h : l[i]? = some x) : l.take (i + 1) = l.take i ++ [x] := by
  rw [List.take_add_one, h]
  rfl
theorem Paired.get {α β : Type} {F : α → β → Prop} : ∀ {as : List α} {bs : List β} {i : Nat} {a : α}, Paired F as bs → as[i]? = some a → ∃ b, bs[i]? = some b ∧ F a b
  | _, _, 0, a, .cons (b := b) h r, e => ⟨b, rfl, (Option.some.inj e) ▸ h⟩
  | _, _, i + 1, a, .cons h r, e => Paired.get (i := i) r e
theorem Fqs.snoc {K : PySem.W.Frag} {H : Hp} {p : Addr} {q : Rat} (h : SqT K H p (Fr.fq q)) : ∀ {vs : List V} {qs : List Rat}, Fqs K H vs qs → Fqs K H (vs ++ [.ref p]) (qs ++ [q])
  | _, _, .nil => .cons ⟨p, rfl, h⟩ .nil
  | _, _, .cons a r => .cons a (Fqs.snoc h r)
theorem Fqs.put {K : PySem.W.Frag} {H : Hp} {p : Addr} {q : Rat} (h : SqT K H p (Fr.fq q)) : ∀ (k : Nat) {vs : List V} {qs : List Rat}, Fqs K H vs qs → Fqs K H (vs.take k ++ [.ref p] ++ vs.drop k) (qs.take k ++ [q] ++ qs.drop k)
  | 0, _, _, r => .cons ⟨p, rfl, h⟩ r
  | _ + 1, _, _, .nil => .cons ⟨p, rfl, h⟩ .nil
  | k + 1, _, _, .cons a r => .cons a (Fqs.put h k r)
theorem foldl_add (l : List Rat) (a : Rat) : l.foldl (· + ·) a = a + sum l := by
  induction l generalizing a with
  | nil => show a = a + 0; rw [Rat.add_zero]
  | cons x r ih =>
    show r.foldl (· + ·) (a + x) = a + r.foldl (· + ·) (0 + x)
    rw [ih, ih, Rat.zero_add, Rat.add_assoc]
theorem sum_app (l m : List Rat) : sum (l ++ m) = sum l + sum m := by
  show (l ++ m).foldl (· + ·) 0 = _
  rw [List.foldl_append]
  exact foldl_add m _
theorem sum_put (l : List Rat) (k : Nat) (q : Rat) : sum (l.take k ++ [q] ++ l.drop k) = sum l + q := by
  have e : sum l = sum (l.take k) + sum (l.drop k) := by rw [← sum_app, List.take_append_drop]
  rw [sum_app, sum_app, e, show sum [q] = q from Rat.zero_add q, Rat.add_assoc, Rat.add_assoc, Rat.add_comm q]
theorem Fqs.dp {K : PySem.W.Frag} {H : Hp} : ∀ {vs : List V} {qs : List Rat}, Fqs K H vs qs → DpAll K H vs (qs.map Fr.fqd)
  | _, _, .nil => .nil
  | _, _, .cons ⟨p, e, h⟩ r => by
    subst e
    exact .cons (Fr.dp_fq h) (Fqs.dp r)
theorem shaped_fqs (qs : List Rat) : SeqAt.shaped (.list (qs.map Fr.fqd)) = true := by
  have h : ∀ l : List Rat, PyData.canLayAll0 (l.map Fr.fqd) = true ∧ PyData.depthAll (l.map Fr.fqd) ≤ 1 := fun l => by
    induction l with
    | nil => exact ⟨by simp [PyData.canLayAll0], by simp [PyData.depthAll]⟩
    | cons n r ih => exact ⟨by simp [PyData.canLayAll0, PyData.canLay0, Fr.fqd, ih.1], by simp [PyData.depthAll, PyData.depth, Fr.fqd]; have := ih.2; omega⟩
  obtain ⟨h1, h2⟩ := h qs
  have h3 : PyData.depthAll (qs.map Fr.fqd) + 1 ≤ 64 := by omega
  simp [SeqAt.shaped, PyData.canLay0, PyData.depth, h1, h3]
theorem szs_rep (n : Nat) : szs (List.replicate n 200) = 1 + 201 * n := by
  induction n with
  | zero => rfl
  | succ n ih => rw [List.replicate_succ', szs_snoc, ih]; omega
def All200 (qs : List Rat) : Prop := ∀ q ∈ qs, Fr.Sz 200 q
theorem All200.paired : ∀ {qs : List Rat}, All200 qs → Paired (fun q n => Fr.Sz n q) qs (List.replicate qs.length 200)
  | [], _ => .nil
  | q :: r, h => .cons (h q (List.mem_cons_self ..)) (All200.paired fun x hx => h x (List.mem_cons_of_mem _ hx))
end Lw
namespace Lw
open PySem PySem.Spec PyProof.Rows L2 Gx
theorem Fqs.imm {K : PySem.W.Frag} {H H' : Hp} (e : Imm H H') : ∀ {vs : List V} {qs : List Rat}, Fqs K H vs qs → Fqs K H' vs qs
  | _, _, .nil => .nil
  | _, _, .cons ⟨p, h, g⟩ r => .cons ⟨p, h, seqT_imm e g⟩ (Fqs.imm e r)
end Lw
namespace Pl
open PySem PySem.Spec PyProof.Rows L2 Gx
abbrev P := List (Str × Int)
def pd (p : Str × Int) : PyData := .tuple [.str p.1, .int p.2]
def d (pl : P) : PyData := .tuple (pl.map pd)
def tot (pl : P) : Int := (pl.map (·.2)).sum
/-- a name: one to eight small letters -/
def Nm (s : Str) : Prop := 1 ≤ s.cps.size ∧ s.cps.size ≤ 8 ∧ ∀ c ∈ s.cps.toList, 97 ≤ c ∧ c ≤ 122
structure Good (pl : P) : Prop where
  nd : (pl.map (·.1)).Nodup
  nm : ∀ p ∈ pl, Nm p.1
  pos : ∀ p ∈ pl, 0 ≤ p.2
  t1 : 1 ≤ tot pl
  t2 : tot pl ≤ 60
  len : pl.length ≤ 9
def place : P → Int → Option (Str × Int)
  | [], _ => none
  | p :: r, k => if k < p.2 then some (p.1, k) else place r (k - p.2)
def numb : P → Str → Int → Int → Option Int
  | [], _, _, _ => none
  | p :: r, s, k, a => if p.1 = s ∧ 0 ≤ k ∧ k < p.2 then some (a + k) else numb r s k (a + p.2)
def row (p : Str × Int) : List (Str × Int) := (List.range p.2.toNat).map fun (k : Nat) => (p.1, (k : Int))
def places (pl : P) : List (Str × Int) := pl.flatMap row
theorem row_len (p : Str × Int) : (row p).length = p.2.toNat := by simp [row]
theorem tot_cons (p : Str × Int) (r : P) : tot (p :: r) = p.2 + tot r := by simp [tot]
theorem tot_nn : ∀ {pl : P}, (∀ p ∈ pl, 0 ≤ p.2) → 0 ≤ tot pl
  | [], _ => by simp [tot]
  | p :: r, h => by
    rw [tot_cons]
    have := tot_nn fun x hx => h x (List.mem_cons_of_mem p hx)
    have := h p (List.mem_cons_self ..)
    omega
theorem places_len : ∀ {pl : P}, (∀ p ∈ pl, 0 ≤ p.2) → ((places pl).length : Int) = tot pl
  | [], _ => rfl
  | p :: r, h => by
    have e : places (p :: r) = row p ++ places r := rfl
    rw [e, List.length_append, row_len, tot_cons]
    have := places_len fun x hx => h x (List.mem_cons_of_mem p hx)
    have := h p (List.mem_cons_self ..)
    omega
theorem row_at {p : Str × Int} {k : Nat} (h : (k : Int) < p.2) : (row p)[k]? = some (p.1, (k : Int)) := by
  unfold row
  rw [List.getElem?_map, List.getElem?_range (by omega)]
  rfl
theorem place_eq : ∀ {pl : P} {k : Nat}, (∀ p ∈ pl, 0 ≤ p.2) → place pl (k : Int) = (places pl)[k]?
  | [], k, _ => by simp [place, places]
  | p :: r, k, h => by
    have h0 := h p (List.mem_cons_self ..)
    have e : places (p :: r) = row p ++ places r := rfl
    rw [e]
    show (if (k : Int) < p.2 then _ else _) = _
    by_cases c : (k : Int) < p.2
    · rw [if_pos c, List.getElem?_append_left (by rw [row_len]; omega), row_at c]
    · rw [if_neg c, List.getElem?_append_right (by rw [row_len]; omega), row_len, show (k : Int) - p.2 = ((k - p.2.toNat : Nat) : Int) by omega]
      exact place_eq fun x hx => h x (List.mem_cons_of_mem p hx)
theorem mem_row {p q : Str × Int} (h : q ∈ row p) : q.1 = p.1 ∧ 0 ≤ q.2 ∧ q.2 < p.2 := by
  unfold row at h
  obtain ⟨k, hk, rfl⟩ := List.mem_map.mp h
  have := List.mem_range.mp hk
  exact ⟨rfl, by simp, by show (k : Int) < p.2; omega⟩
theorem mem_places : ∀ {pl : P} {q : Str × Int}, q ∈ places pl ↔ ∃ p ∈ pl, q.1 = p.1 ∧ 0 ≤ q.2 ∧ q.2 < p.2
  | pl, q => by
    unfold places
    rw [List.mem_flatMap]
    constructor
    · rintro ⟨p, hp, hq⟩
      exact ⟨p, hp, mem_row hq⟩
    · rintro ⟨p, hp, e, h0, h1⟩
      refine ⟨p, hp, ?_⟩
      unfold row
      rw [List.mem_map]
      refine ⟨q.2.toNat, List.mem_range.mpr (by omega), ?_⟩
      rw [← e, Int.toNat_of_nonneg h0]
theorem numb_none : ∀ {pl : P} {s : Str} {k a : Int}, numb pl s k a = none ↔ (s, k) ∉ places pl
  | [], s, k, a => by simp [numb, places]
  | p :: r, s, k, a => by
    have ih := numb_none (pl := r) (s := s) (k := k) (a := a + p.2)
    show (if _ then _ else _) = none ↔ _
    by_cases c : p.1 = s ∧ 0 ≤ k ∧ k < p.2
    · rw [if_pos c]
      refine ⟨fun z => (by cases z), fun z => (z ?_).elim⟩
      exact mem_places.mpr ⟨p, List.mem_cons_self .., c.1.symm, c.2.1, c.2.2⟩
    · rw [if_neg c, ih, mem_places, mem_places]
      constructor
      · rintro h ⟨x, hx, e⟩
        rcases List.mem_cons.mp hx with q | q
        · subst q; exact c ⟨e.1.symm, e.2.1, e.2.2⟩
        · exact h ⟨x, q, e⟩
      · rintro h ⟨x, hx, e⟩
        exact h ⟨x, List.mem_cons_of_mem _ hx, e⟩
theorem numb_at : ∀ {pl : P} {s : Str} {k a : Int} {i : Nat}, (pl.map (·.1)).Nodup → (∀ p ∈ pl, 0 ≤ p.2) → (places pl)[i]? = some (s, k) → numb pl s k a = some (a + (i : Int))
  | [], s, k, a, i, _, _, h => by simp [places] at h
  | p :: r, s, k, a, i, nd, h0, h => by
    have e : places (p :: r) = row p ++ places r := rfl
    have hp := h0 p (List.mem_cons_self ..)
    rw [List.map_cons, List.nodup_cons] at nd
    rw [e] at h
    show (if _ then _ else _) = _
    by_cases c : i < (row p).length
    · rw [List.getElem?_append_left c] at h
      rw [row_len] at c
      rw [row_at (by omega)] at h
      cases h
      rw [if_pos ⟨rfl, by omega, by omega⟩]
    · rw [List.getElem?_append_right (by omega)] at h
      rw [row_len] at h c
      have hm := mem_places.mp (List.mem_of_getElem? h)
      obtain ⟨x, hx, ex, _, _⟩ := hm
      rw [if_neg (fun z => nd.1 (by rw [z.1, show s = x.1 from ex]; exact List.mem_map_of_mem hx))]
      rw [numb_at nd.2 (fun x hx => h0 x (List.mem_cons_of_mem p hx)) h]
      congr 1
      omega
theorem sum_set : ∀ (cs : List Int) (j : Nat) (v : Int), j < cs.length → (cs.set j v).sum = cs.sum - cs.getD j 0 + v
  | [], j, v, h => by simp at h
  | c :: r, 0, v, h => by simp; omega
  | c :: r, j + 1, v, h => by
    have ih := sum_set r j v (by simpa using h)
    simp at ih ⊢
    omega
theorem sum_nn : ∀ {cs : List Int}, (∀ c ∈ cs, 0 ≤ c) → 0 ≤ cs.sum ∧ ∀ c ∈ cs, c ≤ cs.sum
  | [], _ => ⟨by simp, fun _ h => nomatch h⟩
  | c :: r, h => by
    obtain ⟨h1, h2⟩ := sum_nn fun x hx => h x (List.mem_cons_of_mem c hx)
    have h0 := h c (List.mem_cons_self ..)
    rw [List.sum_cons]
    refine ⟨by omega, fun x hx => ?_⟩
    rcases List.mem_cons.mp hx with e | e
    · rw [e]; omega
    · have := h2 x e; omega
theorem sum_set0 {cs : List Int} (h : ∀ c ∈ cs, 0 ≤ c) (h0 : cs.sum = 0) {j : Nat} (hj : j < cs.length) (v : Int) : (cs.set j v).sum = v := by
  obtain ⟨_, h2⟩ := sum_nn h
  have hm : cs.getD j 0 ∈ cs := by
    rw [show cs.getD j 0 = cs[j] by simp [hj]]
    exact List.getElem_mem hj
  have := h2 _ hm
  have := h _ hm
  rw [sum_set cs j v hj]
  omega
theorem zip_set : ∀ {ns : List Str} {cs : List Int} {j : Nat} {s : Str} (v : Int), ns[j]? = some s → ns.zip (cs.set j v) = (ns.zip cs).set j (s, v)
  | [], _, _, _, _, h => by simp at h
  | n :: r, [], j, s, v, h => by simp
  | n :: r, c :: t, 0, s, v, h => by simp at h; simp [h]
  | n :: r, c :: t, j + 1, s, v, h => by
    have ih := zip_set (cs := t) v (show r[j]? = some s by simpa using h)
    simp [ih]
/-! data -/
theorem noL_d (pl : P) : noL (d pl) = true := Dt.noL_tup fun x hx => by
  obtain ⟨p, _, rfl⟩ := List.mem_map.mp hx
  rfl
theorem Nm.ok {s : Str} (h : Nm s) : PyData.strOk s = true := by
  unfold PyData.strOk
  rw [← Array.all_toList, List.all_eq_true]
  intro c hc
  have := h.2.2 c hc
  simp
  omega
theorem sh_pd0 {k : Nat} {p : Str × Int} (h : PyData.strOk p.1 = true) : Dt.Sh (k + 1) (pd p) := Dt.sh_tup fun x hx => by
  rcases List.mem_cons.mp hx with e | e
  · rw [e]; exact Dt.sh_str h
  · rw [List.mem_singleton.mp e]; exact Dt.sh_int _
theorem ok_app {a b : Str} (h : PyData.strOk a = true) (g : PyData.strOk b = true) : PyData.strOk (a ++ b) = true := by
  unfold PyData.strOk at h g ⊢
  show (a.cps ++ b.cps).all _ = true
  rw [Array.all_append, h, g]
  rfl
theorem sh_pd {k : Nat} {p : Str × Int} (h : Nm p.1) : Dt.Sh (k + 1) (pd p) := Dt.sh_tup fun x hx => by
  rcases List.mem_cons.mp hx with e | e
  · rw [e]; exact Dt.sh_str h.ok
  · rw [List.mem_singleton.mp e]; exact Dt.sh_int _
theorem sh_places {pl : P} (h : ∀ p ∈ pl, Nm p.1) : ∀ q ∈ places pl, Nm q.1 := fun q hq => by
  obtain ⟨p, hp, e, _⟩ := mem_places.mp hq
  rw [e]
  exact h p hp
/-- a piles' tuple at a place -/
theorem at_pd {K : PySem.W.Frag} {H : Hp} {xs : List V} {pl : P} {i : Nat} {x : V} (h : DpAll K H xs (pl.map pd)) (e : xs[i]? = some x) : ∃ p s, pl[i]? = some p ∧ x = .ref s ∧ SqT K H s [.str p.1, .int p.2] := by
  obtain ⟨z, hz, hd⟩ := Dt.at_ h e
  rw [List.getElem?_map] at hz
  cases q : pl[i]? with
  | none => rw [q] at hz; cases hz
  | some p =>
    rw [q] at hz
    cases hz
    obtain ⟨s, u, v, rfl, hs, h1, h2⟩ := Dt.pair hd
    rw [Dt.str h1, Dt.int h2] at hs
    exact ⟨p, s, rfl, rfl, hs⟩
theorem dp_pd {K : PySem.W.Frag} {H : Hp} {s : Addr} {p : Str × Int} (h : SqT K H s [.str p.1, .int p.2]) : Dp K H (.ref s) (pd p) := .tup h (Dt.two (.str _) (.int _))
/-! what a place is -/
inductive IsPl (K : PySem.W.Frag) (H : Hp) : V → Option (Str × Int) → Prop
  | kind {x : V} {t : Value} (ht : TyX K H x t) (hk : PySem.W.kitOne K t (.type "tuple") = some false) : IsPl K H x none
  | len {p : Addr} {xs : List V} (h : SqT K H p xs) (hl : xs.length ≠ 2) : IsPl K H (.ref p) none
  | key {p : Addr} {u v : V} {t : Value} (h : SqT K H p [u, v]) (ht : TyX K H u t) (hk : PySem.W.kitOne K t (.type "str") = some false) : IsPl K H (.ref p) none
  | num {p : Addr} {s : Str} {v : V} (h : SqT K H p [.str s, v]) (hv : Lw.Whole K H v false) : IsPl K H (.ref p) none
  | yes {p : Addr} {s : Str} {k : Int} (h : SqT K H p [.str s, .int k]) : IsPl K H (.ref p) (some (s, k))
theorem IsPl.same {K : PySem.W.Frag} {H H' : Hp} (e : Same H H') {x : V} {o : Option (Str × Int)} (h : IsPl K H x o) : IsPl K H' x o := by
  cases h with
  | kind ht hk => exact .kind (tyx_same e ht) hk
  | len h hl => exact .len (seqT_same e h) hl
  | key h ht hk => exact .key (seqT_same e h) (tyx_same e ht) hk
  | num h hv => exact .num (seqT_same e h) (hv.same e)
  | yes h => exact .yes (seqT_same e h)
/-- a place, its name a text that can be laid -/
def Pq (K : PySem.W.Frag) (H : Hp) (x : V) : Prop := ∃ o, IsPl K H x o ∧ ∀ z, o = some z → PyData.strOk z.1 = true
theorem Pq.same {K : PySem.W.Frag} {H H' : Hp} (e : Same H H') {x : V} (h : Pq K H x) : Pq K H' x := by
  obtain ⟨o, h, g⟩ := h
  exact ⟨o, h.same e, g⟩
theorem Pq.no {K : PySem.W.Frag} {H : Hp} {x : V} (h : IsPl K H x none) : Pq K H x := ⟨none, h, fun _ z => nomatch z⟩
theorem Pq.yes {K : PySem.W.Frag} {H : Hp} {p : Addr} {s : Str} {k : Int} (h : SqT K H p [.str s, .int k]) (g : PyData.strOk s = true) : Pq K H (.ref p) := ⟨_, .yes h, fun z e => by cases e; exact g⟩
theorem eqv_pd (a b : Str × Int) : PyData.eqv (pd a) (pd b) = decide (a = b) := by
  obtain ⟨s, k⟩ := a
  obtain ⟨t, j⟩ := b
  by_cases h : s = t <;> by_cases g : k = j <;> simp [pd, PyData.eqv, PyData.eqvAll, h, g]
end Pl
namespace Pl
open PySem PySem.Spec PyProof.Rows L2 Gx
def abc : Str := "abcdefghijklmnopqrstuvwxyz"
theorem abc_at {i : Int} (h0 : 0 ≤ i) (h1 : i < 26) : atI abc.cps.toList i = some (97 + i.toNat) := by
  obtain ⟨k, rfl⟩ := Int.eq_ofNat_of_zero_le h0
  have h : ∀ k : Fin 26, atI abc.cps.toList ((k.1 : Nat) : Int) = some (97 + ((k.1 : Nat) : Int).toNat) := by decide +kernel
  exact h ⟨k, by omega⟩
def one (c : Nat) : Str := ⟨#[c]⟩
theorem join_ones : ∀ cs : List Nat, Txt.join Str.empty (cs.map one) = ⟨cs.toArray⟩ := fun cs => by
  show Builtin.Str.glued Str.empty (cs.map one) = _
  rw [PySem.StrLaws.glued_eq_join]
  induction cs with
  | nil => rfl
  | cons c r ih =>
    cases r with
    | nil => rfl
    | cons c2 r =>
      rw [List.map_cons, List.map_cons, join_cons_cons, ← List.map_cons, ih]
      show Str.append (Str.append (one c) Str.empty) ⟨_⟩ = _
      simp [Str.append, one, Str.empty]
theorem sum_ones (cs : List Nat) : ((cs.map one).map (·.length)).sum = cs.length := by
  induction cs with
  | nil => rfl
  | cons c r ih => rw [List.map_cons, List.map_cons, List.sum_cons, ih, List.length_cons]; show 1 + r.length = _; omega
/-- a text, one letter of it changed -/
def nm (cs : List Nat) (k : Nat) (c : Nat) : Str := ⟨(cs.set k c).toArray⟩
def Letters (cs : List Nat) : Prop := ∀ c ∈ cs, 97 ≤ c ∧ c ≤ 122
theorem Letters.set {cs : List Nat} (h : Letters cs) (k : Nat) {c : Nat} (hc : 97 ≤ c ∧ c ≤ 122) : Letters (cs.set k c) := fun x hx => by
  rcases List.mem_or_eq_of_mem_set hx with e | e
  · exact h x e
  · rw [e]; exact hc
theorem nm_of {cs : List Nat} (h : Letters cs) (h1 : 1 ≤ cs.length) (h8 : cs.length ≤ 8) : Nm ⟨cs.toArray⟩ := ⟨by simpa using h1, by simpa using h8, fun c hc => h c (by simpa using hc)⟩
theorem nm_inj {cs : List Nat} {k c d : Nat} (hk : k < cs.length) (h : nm cs k c = nm cs k d) : c = d := by
  unfold nm at h
  have h2 : cs.set k c = cs.set k d := by simpa using h
  have h3 := congrArg (fun l => l[k]?) h2
  simpa [hk] using h3
/-- so many names, one after another -/
def some_ (cs : List Nat) (k : Nat) (c0 : Int) (m : Nat) : List Str := (List.range m).map fun (j : Nat) => nm cs k (97 + ((c0 + (j : Int)) % 26).toNat)
theorem some_len (cs : List Nat) (k : Nat) (c0 : Int) (m : Nat) : (some_ cs k c0 m).length = m := by simp [some_]
theorem some_succ (cs : List Nat) (k : Nat) (c0 : Int) (m : Nat) : some_ cs k c0 (m + 1) = some_ cs k c0 m ++ [nm cs k (97 + ((c0 + (m : Int)) % 26).toNat)] := by simp [some_, List.range_succ]
theorem some_nd {cs : List Nat} {k : Nat} (hk : k < cs.length) (c0 : Int) {m : Nat} (hm : m ≤ 9) : (some_ cs k c0 m).Nodup := by
  unfold some_
  refine List.pairwise_map.mpr (List.Pairwise.imp_of_mem ?_ List.pairwise_lt_range)
  intro a b ha hb hab e
  have := nm_inj hk e
  have := List.mem_range.mp ha
  have := List.mem_range.mp hb
  omega
theorem some_nm {cs : List Nat} {k : Nat} (h : Letters cs) (h1 : 1 ≤ cs.length) (h8 : cs.length ≤ 8) (c0 : Int) (m : Nat) : ∀ s ∈ some_ cs k c0 m, Nm s := fun s hs => by
  obtain ⟨j, _, rfl⟩ := List.mem_map.mp hs
  exact nm_of (h.set k (by omega)) (by simpa using h1) (by simpa using h8)
theorem some_size {cs : List Nat} {k : Nat} {c0 : Int} {m : Nat} : ∀ s ∈ some_ cs k c0 m, s.cps.size = cs.length := fun s hs => by
  obtain ⟨j, _, rfl⟩ := List.mem_map.mp hs
  simp [nm]
/-- a text's front -/
theorem cut_front {s : Str} {k : Nat} (h : k ≤ s.cps.size) : cutS s none (some (k : Int)) = ⟨(s.cps.toList.take k).toArray⟩ := by
  unfold cutS
  rw [HT.sIx_none, HT.sIx_nat, Nat.min_eq_left (show k ≤ s.length from h)]
  rfl
def fr (s : Str) (k : Nat) : Str := ⟨(s.cps.toList.take (k + 1)).toArray⟩
theorem fr_size {s : Str} {k : Nat} (h : k < s.cps.size) : (fr s k).cps.size = k + 1 := by
  simp [fr]
  omega
theorem fr_nm {s : Str} {k : Nat} (h : Nm s) (hk : k < s.cps.size) : Nm (fr s k) := by
  refine ⟨by rw [fr_size hk]; omega, by rw [fr_size hk]; have := h.2.1; omega, fun c hc => h.2.2 c ?_⟩
  have : c ∈ s.cps.toList.take (k + 1) := by simpa [fr] using hc
  exact List.mem_of_mem_take this
theorem fr_all {s : Str} (h : s.cps.size = 8) : fr s 7 = s := by
  cases s with
  | mk a =>
    unfold fr
    congr 1
    have : a.toList.length = 8 := by simpa using h
    show (a.toList.take 8).toArray = a
    rw [List.take_of_length_le (by omega)]
/-- the fronts of the first, then the others -/
theorem fronts_nd {s : Str} {r : List Str} (h : s.cps.size = 8) (hr : ∀ x ∈ r, x.cps.size = 8) (nd : (s :: r).Nodup) : ((List.range 8).map (fr s) ++ r).Nodup := by
  have nd2 := List.nodup_cons.mp nd
  refine List.pairwise_append.mpr ⟨?_, nd2.2, ?_⟩
  · refine List.pairwise_map.mpr (List.Pairwise.imp_of_mem ?_ List.pairwise_lt_range)
    intro a b ha hb hab e
    have := List.mem_range.mp ha
    have := List.mem_range.mp hb
    have e2 : (fr s a).cps.size = (fr s b).cps.size := congrArg (fun x : Str => x.cps.size) e
    rw [fr_size (by omega), fr_size (by omega)] at e2
    omega
  · intro a ha b hb e
    obtain ⟨j, hj, rfl⟩ := List.mem_map.mp ha
    have := List.mem_range.mp hj
    have e2 : (fr s j).cps.size = b.cps.size := congrArg (fun x : Str => x.cps.size) e
    rw [fr_size (by omega), hr b hb] at e2
    obtain rfl : j = 7 := by omega
    rw [fr_all h] at e
    exact nd2.1 (e ▸ hb)
end Pl
namespace Cm
open PySem PySem.Spec PyProof.Rows L2 Gx
/-- a claim -/
inductive C
  | claim
  | beats (o t : Str)
  | over (n : Str) (s : Rat)
  | under (n : Str) (s : Rat)
def greatest : C → Rat
  | .claim => 1/2
  | .beats _ _ => 1
  | .over _ s => (1/2) / s
  | .under _ s => (1/2) / (1 - s)
def valueOf : C → Option Str → Rat
  | .claim, _ => 1/2
  | .beats o t, m => if m = some o then 1 else if m = some t then 0 else 1/2
  | .over n s, m => if m = none ∨ m = some (Str.ofString "") then 1/2 else if m = some n then greatest (.over n s) else 0
  | .under n s, m => if m = none ∨ m = some (Str.ofString "") then 1/2 else if m = some n then 0 else greatest (.under n s)
def value (c : C) (m : Option Str) : Rat := if m = some (Str.ofString "?") then 0 else valueOf c m
def Ok (n : Nat) : C → Prop
  | .over _ s => 0 < s ∧ s < 1 ∧ Fr.Sz n s
  | .under _ s => 0 < s ∧ s < 1 ∧ Fr.Sz n s
  | _ => True
def At (K : PySem.W.Frag) (H : Hp) (a : Addr) : C → Prop
  | .claim => ∃ dx, H a = some (.ins (He.ga K "Claim") dx [])
  | .beats o t => ∃ dx, H a = some (.ins (He.ga K "Beats") dx [("one", .str o), ("other", .str t)])
  | .over n s => ∃ dx q, H a = some (.ins (He.ga K "Over") dx [("name", .str n), ("share", .ref q)]) ∧ SqT K H q (Fr.fq s)
  | .under n s => ∃ dx q, H a = some (.ins (He.ga K "Under") dx [("name", .str n), ("share", .ref q)]) ∧ SqT K H q (Fr.fq s)
theorem At.same {K : PySem.W.Frag} {H H' : Hp} (e : Same H H') {a : Addr} : ∀ {c : C}, At K H a c → At K H' a c
  | .claim, ⟨dx, h⟩ => ⟨dx, e _ _ h⟩
  | .beats _ _, ⟨dx, h⟩ => ⟨dx, e _ _ h⟩
  | .over _ _, ⟨dx, q, h, g⟩ => ⟨dx, q, e _ _ h, seqT_same e g⟩
  | .under _ _, ⟨dx, q, h, g⟩ => ⟨dx, q, e _ _ h, seqT_same e g⟩
theorem ins_lst {C dx : Addr} {fs : List (Str × V)} {xs : List V} : HO.ins C dx fs ≠ HO.lst xs := fun z => by cases z
theorem At.but {K : PySem.W.Frag} {H H' : Hp} {l : Addr} {ys : List V} (b : But l H H') (hl : H l = some (.lst ys)) {a : Addr} : ∀ {c : C}, At K H a c → At K H' a c
  | .claim, ⟨dx, h⟩ => ⟨dx, b _ _ (ne_of h hl ins_lst) h⟩
  | .beats _ _, ⟨dx, h⟩ => ⟨dx, b _ _ (ne_of h hl ins_lst) h⟩
  | .over _ _, ⟨dx, q, h, g⟩ => ⟨dx, q, b _ _ (ne_of h hl ins_lst) h, seqT_but b hl g⟩
  | .under _ _, ⟨dx, q, h, g⟩ => ⟨dx, q, b _ _ (ne_of h hl ins_lst) h, seqT_but b hl g⟩
/-- a mark: a text, or None -/
def mv : Option Str → V
  | none => .non
  | some s => .str s
theorem k_eqM {K : PySem.W.Frag} {H : Hp} {Q : VK} {m : Option Str} {s : Str} (q : Q (.bl (decide (m = some s))) H) : rEqU K (mv m) (.str s) H Q := by
  cases m with
  | none => exact k_eqS rfl (by rw [show decide (mv none = .str s) = decide ((none : Option Str) = some s) by simp [mv]]; exact q)
  | some t => exact k_eqT (by rw [show decide (t = s) = decide (some t = some s) by by_cases h : t = s <;> simp [h]]; exact q)
theorem k_neM {K : PySem.W.Frag} {H : Hp} {Q : VK} {m : Option Str} {s : Str} (q : Q (.bl (!decide (m = some s))) H) : rNeU K (mv m) (.str s) H Q := by
  cases m with
  | none => exact k_neS rfl (by rw [show decide (mv none = .str s) = decide ((none : Option Str) = some s) by simp [mv]]; exact q)
  | some t => exact k_neT (by rw [show decide (t = s) = decide (some t = some s) by by_cases h : t = s <;> simp [h]]; exact q)
theorem dec_non (m : Option Str) : decide (mv m = V.non) = decide (m = none) := by
  cases m <;> simp [mv]
theorem fq0 : Fr.fq 0 = [.int 0, .int 1] := rfl
theorem fq1 : Fr.fq 1 = [.int 1, .int 1] := rfl
theorem fqh : Fr.fq (1/2) = [.int 1, .int 2] := by
  have e1 : (1/2 : Rat).num = 1 := by decide +kernel
  have e2 : (1/2 : Rat).den = 2 := by decide +kernel
  show [V.int (1/2 : Rat).num, V.int ((1/2 : Rat).den : Int)] = _
  rw [e1, e2]
  rfl
theorem sz0 {n : Nat} : Fr.Sz (n + 2) 0 := ⟨by show (0 : Int).natAbs < _; exact Nat.two_pow_pos _, by show 1 < 2 ^ (n + 2); have := Nat.two_pow_pos n; rw [Nat.pow_add]; omega⟩
theorem sz1 {n : Nat} : Fr.Sz (n + 2) 1 := ⟨by show 1 < 2 ^ (n + 2); have := Nat.two_pow_pos n; rw [Nat.pow_add]; omega, by show 1 < 2 ^ (n + 2); have := Nat.two_pow_pos n; rw [Nat.pow_add]; omega⟩
theorem szh {n : Nat} : Fr.Sz (n + 2) (1/2) := by
  have e1 : (1/2 : Rat).num = 1 := by decide +kernel
  have e2 : (1/2 : Rat).den = 2 := by decide +kernel
  have := Nat.two_pow_pos n
  refine ⟨?_, ?_⟩
  · rw [e1, Nat.pow_add]; show 1 < _; omega
  · rw [e2, Nat.pow_add]; omega
theorem ne1 {s : Rat} (h : s < 1) : 1 - s ≠ 0 := fun z => by
  have e : s = 1 := by grind
  rw [e] at h
  exact absurd h (by decide)
theorem ne0 {s : Rat} (h : 0 < s) : s ≠ 0 := fun z => by rw [z] at h; exact absurd h (by decide)
theorem sz_greatest {n : Nat} : ∀ {c : C}, Ok n c → Fr.Sz (n + 5) (greatest c)
  | .claim, _ => (szh (n := n)).mono (by omega)
  | .beats _ _, _ => (sz1 (n := n)).mono (by omega)
  | .over _ s, h => (Fr.Sz.div (m := 2) (szh (n := 0)) h.2.2).mono (by omega)
  | .under _ s, h => (Fr.Sz.div (m := 2) (szh (n := 0)) (Fr.Sz.sub (m := 2) (sz1 (n := 0)) h.2.2)).mono (by omega)
theorem sz_valueOf {n : Nat} (c : C) (h : Ok n c) (m : Option Str) : Fr.Sz (n + 5) (valueOf c m) := by
  have g := sz_greatest h
  have a0 : Fr.Sz (n + 5) 0 := (sz0 (n := n)).mono (by omega)
  have a1 : Fr.Sz (n + 5) 1 := (sz1 (n := n)).mono (by omega)
  have ah : Fr.Sz (n + 5) (1/2) := (szh (n := n)).mono (by omega)
  cases c with
  | claim => exact ah
  | beats o t =>
    show Fr.Sz (n + 5) (if m = some o then 1 else if m = some t then 0 else 1/2)
    split
    · exact a1
    · split
      · exact a0
      · exact ah
  | over k s =>
    show Fr.Sz (n + 5) (if m = none ∨ m = some (Str.ofString "") then 1/2 else if m = some k then greatest (.over k s) else 0)
    split
    · exact ah
    · split
      · exact g
      · exact a0
  | under k s =>
    show Fr.Sz (n + 5) (if m = none ∨ m = some (Str.ofString "") then 1/2 else if m = some k then 0 else greatest (.under k s))
    split
    · exact ah
    · split
      · exact a0
      · exact g
theorem sz_value {n : Nat} (c : C) (h : Ok n c) (m : Option Str) : Fr.Sz (n + 5) (value c m) := by
  unfold value
  split
  · exact (sz0 (n := n)).mono (by omega)
  · exact sz_valueOf c h m
/-! shares -/
theorem num_pos {s : Rat} (h : 0 < s) : 0 < s.num := by
  have := (Rat.lt_iff 0 s).mp h
  have e : (0 : Rat).num * (s.den : Int) = 0 := by rw [show (0 : Rat).num = 0 from rfl, Int.zero_mul]
  have e2 : s.num * ((0 : Rat).den : Int) = s.num := by rw [show (0 : Rat).den = 1 from rfl]; omega
  rw [e, e2] at this
  exact this
theorem num_lt {s : Rat} (h : s < 1) : s.num < (s.den : Int) := by
  have := (Rat.lt_iff s 1).mp h
  have e : s.num * ((1 : Rat).den : Int) = s.num := by rw [show (1 : Rat).den = 1 from rfl]; omega
  have e2 : (1 : Rat).num * (s.den : Int) = (s.den : Int) := by rw [show (1 : Rat).num = 1 from rfl]; omega
  rw [e, e2] at this
  exact this
theorem share_pos {a b : Int} (ha : 1 ≤ a) (hb : a < b) : 0 < Rat.divInt a b ∧ Rat.divInt a b < 1 := by
  constructor
  · have e : Rat.divInt a b = (a : Rat) / (b : Rat) := Rat.divInt_eq_div a b
    rw [e, Rat.lt_div_iff (by exact_mod_cast (show (0 : Int) < b by omega)), Rat.zero_mul]
    exact_mod_cast (show (0 : Int) < a by omega)
  · have e : Rat.divInt a b = (a : Rat) / (b : Rat) := Rat.divInt_eq_div a b
    rw [e, Rat.div_lt_iff (by exact_mod_cast (show (0 : Int) < b by omega)), Rat.one_mul]
    exact_mod_cast hb
theorem half_num : (1/2 : Rat).num = 1 := by decide +kernel
theorem half_den : (1/2 : Rat).den = 2 := by decide +kernel
theorem half_over (s : Rat) : Rat.divInt (s.den : Int) (2 * s.num) = (1/2) / s := by
  rw [← Fr.div_eq, half_num, half_den, Int.one_mul]
  rfl
theorem one_sub (s : Rat) : Rat.divInt ((s.den : Int) - s.num) (s.den : Int) = 1 - s := by
  rw [← Fr.sub_eq]
  show _ = Rat.divInt (1 * (s.den : Int) - s.num * 1) (1 * (s.den : Int))
  rw [Int.one_mul, Int.mul_one]
theorem half_under (s : Rat) : Rat.divInt (s.den : Int) (2 * ((s.den : Int) - s.num)) = (1/2) / (1 - s) := by
  rw [← one_sub s]
  have e : (1/2 : Rat) = Rat.divInt 1 2 := by decide +kernel
  rw [e, Rat.div_def, Rat.inv_divInt, Rat.divInt_mul_divInt, Int.one_mul]
/-! marks among names -/
theorem flat_mv (m : Option Str) : flatV (mv m) = true := by cases m <;> rfl
theorem flat_strs (ns : List Str) : (ns.map V.str).all flatV = true := by simp [flatV]
theorem in_mv (m : Option Str) : ∀ ns : List Str, inV (mv m) (ns.map V.str) = decide (∃ n ∈ ns, m = some n) := fun ns => by
  unfold inV
  induction ns with
  | nil => simp
  | cons a r ih =>
    rw [List.map_cons, List.any_cons, ih]
    cases m with
    | none => simp [mv, eqV]
    | some t =>
      have e : eqV (V.str a) (mv (some t)) = decide (a = t) := by
        show (a == t) = _
        by_cases h : a = t
        · simp [h]
        · rw [decide_eq_false h, beq_eq_false_iff_ne.mpr h]
      rw [e]
      by_cases h : a = t
      · simp [h]
      · have h2 : ¬ t = a := fun z => h z.symm
        simp [h, h2]
/-! a claim's method, whatever its class -/
def pick {α : Type} (c : C) (a b d e : α) : α := match c with
  | .claim => a
  | .beats _ _ => b
  | .over _ _ => d
  | .under _ _ => e
theorem pick_same {α : Type} (c : C) (a : α) : pick c a a a a = a := by cases c <;> rfl
theorem k_m4 {K : PySem.W.Frag} {σ : L2.St} {H : Hp} {Q : VK} {ta : TE} {t : TA} {m : Str} {sp1 sp2 sp3 sp4 : Sp} {E : L2.St → XK} {a : Addr} {c : C} (hev : ∀ Q : VK, Q (.ref a) H → ta σ H Q) (hc : At K H a c) (q : t σ H fun vs H2 => (pick c sp1 sp2 sp3 sp4) (.ref a :: vs) H2 Q (E σ))
    (h1 : (m == (Str.ofString "one")) = false := by decide +kernel) (h2 : (m == (Str.ofString "other")) = false := by decide +kernel) (h3 : (m == (Str.ofString "name")) = false := by decide +kernel) (h4 : (m == (Str.ofString "share")) = false := by decide +kernel) :
    tOr2 (tMethS (He.ga K "Claim") m sp1 E ta t) (tOr2 (tMethS (He.ga K "Beats") m sp2 E ta t) (tOr2 (tMethS (He.ga K "Over") m sp3 E ta t) (tMethS (He.ga K "Under") m sp4 E ta t))) σ H Q := by
  cases c with
  | claim =>
    obtain ⟨dx, hi⟩ := hc
    exact k_o1 (k_meth (hev _ (k_methx hi lk0 q)))
  | beats o u =>
    obtain ⟨dx, hi⟩ := hc
    exact k_o2 (k_o1 (k_meth (hev _ (k_methx hi (lkz h1 (lkz h2 lk0)) q))))
  | over n s =>
    obtain ⟨dx, p, hi, _⟩ := hc
    exact k_o2 (k_o2 (k_o1 (k_meth (hev _ (k_methx hi (lkz h3 (lkz h4 lk0)) q)))))
  | under n s =>
    obtain ⟨dx, p, hi, _⟩ := hc
    exact k_o2 (k_o2 (k_o2 (k_meth (hev _ (k_methx hi (lkz h3 (lkz h4 lk0)) q)))))
end Cm
namespace Cm
open PySem PySem.Spec PyProof.Rows L2 Gx
/-- a claim as the law tells it: a tuple -/
def Ct (K : PySem.W.Frag) (H : Hp) (p : Addr) : C → Prop
  | .claim => False
  | .beats o t => SqT K H p [.str (Str.ofString "beats"), .str o, .str t]
  | .over n s => ∃ q, SqT K H p [.str (Str.ofString "over"), .str n, .ref q] ∧ SqT K H q (Fr.fq s)
  | .under n s => ∃ q, SqT K H p [.str (Str.ofString "under"), .str n, .ref q] ∧ SqT K H q (Fr.fq s)
theorem Ct.same {K : PySem.W.Frag} {H H' : Hp} (e : Same H H') {p : Addr} : ∀ {c : C}, Ct K H p c → Ct K H' p c
  | .beats _ _, h => seqT_same e h
  | .over _ _, ⟨q, h, g⟩ => ⟨q, seqT_same e h, seqT_same e g⟩
  | .under _ _, ⟨q, h, g⟩ => ⟨q, seqT_same e h, seqT_same e g⟩
theorem Ct.but {K : PySem.W.Frag} {H H' : Hp} {l : Addr} {ys : List V} (b : But l H H') (hl : H l = some (.lst ys)) {p : Addr} : ∀ {c : C}, Ct K H p c → Ct K H' p c
  | .beats _ _, h => seqT_but b hl h
  | .over _ _, ⟨q, h, g⟩ => ⟨q, seqT_but b hl h, seqT_but b hl g⟩
  | .under _ _, ⟨q, h, g⟩ => ⟨q, seqT_but b hl h, seqT_but b hl g⟩
/-- of two names that are unlike -/
def Un : C → Prop
  | .beats o t => o ≠ t
  | _ => True
/-- of these names -/
def Of (ns : List Str) : C → Prop
  | .claim => True
  | .beats o t => o ∈ ns ∧ t ∈ ns
  | .over n _ => n ∈ ns
  | .under n _ => n ∈ ns
def kindOf : C → Str
  | .claim => Str.ofString ""
  | .beats _ _ => Str.ofString "beats"
  | .over _ _ => Str.ofString "over"
  | .under _ _ => Str.ofString "under"
/-- the kind stands ahead, a name behind it -/
theorem Ct.at0 {K : PySem.W.Frag} {H : Hp} {p : Addr} : ∀ {c : C}, Ct K H p c → ∃ xs, SqT K H p xs ∧ atI xs 0 = some (.str (kindOf c))
  | .beats _ _, h => ⟨_, h, rfl⟩
  | .over _ _, ⟨q, h, g⟩ => ⟨_, h, rfl⟩
  | .under _ _, ⟨q, h, g⟩ => ⟨_, h, rfl⟩
theorem d_bo : decide (Str.ofString "beats" = Str.ofString "over") = false := by decide +kernel
theorem d_ob : decide (Str.ofString "over" = Str.ofString "beats") = false := by decide +kernel
theorem d_ub : decide (Str.ofString "under" = Str.ofString "beats") = false := by decide +kernel
theorem d_uo : decide (Str.ofString "under" = Str.ofString "over") = false := by decide +kernel
theorem d_bb : decide (Str.ofString "beats" = Str.ofString "beats") = true := by decide +kernel
theorem d_oo : decide (Str.ofString "over" = Str.ofString "over") = true := by decide +kernel
theorem cval_over (n : Str) (s : Rat) (m : Option Str) (h : ¬ (m = none ∨ m = some (Str.ofString ""))) : valueOf (.over n s) m = if m = some n then (1/2) / s else 0 := if_neg h
theorem cval_under (n : Str) (s : Rat) (m : Option Str) (h : ¬ (m = none ∨ m = some (Str.ofString ""))) : valueOf (.under n s) m = if m = some n then 0 else (1/2) / (1 - s) := if_neg h
/-- another place, further on -/
theorem other_place {f r : Int} {n : Nat} (hf : 0 ≤ f ∧ f < n) (hr : 0 ≤ r ∧ r < (n : Int) - 1) : 0 ≤ (f + 1 + r) % (n : Int) ∧ (f + 1 + r) % (n : Int) < n ∧ (f + 1 + r) % (n : Int) ≠ f := by
  have h0 := Int.emod_nonneg (f + 1 + r) (show (n : Int) ≠ 0 by omega)
  have h1 := Int.emod_lt_of_pos (f + 1 + r) (show (0 : Int) < n by omega)
  refine ⟨h0, h1, fun e => ?_⟩
  by_cases c : f + 1 + r < n
  · rw [Int.emod_eq_of_lt (by omega) c] at e; omega
  · have e2 : (f + 1 + r) % (n : Int) = f + 1 + r - n := by
      rw [← Int.sub_emod_right, Int.emod_eq_of_lt (by omega) (by omega)]
    omega
theorem two_apart {ns : List Str} (nd : ns.Nodup) {i j : Int} {a b : Str} (h : i ≠ j) (h0 : 0 ≤ i) (h1 : 0 ≤ j) (ha : atI (ns.map V.str) i = some (.str a)) (hb : atI (ns.map V.str) j = some (.str b)) : a ≠ b := fun e => by
  obtain ⟨x, rfl⟩ := Int.eq_ofNat_of_zero_le h0
  obtain ⟨y, rfl⟩ := Int.eq_ofNat_of_zero_le h1
  subst e
  have g : ∀ {k : Nat}, atI (ns.map V.str) (k : Int) = some (.str a) → ns[k]? = some a := fun {k} hk => by
    by_cases c : k < ns.length
    · rw [atI_nat (by rw [List.getElem?_map, List.getElem?_eq_getElem c]; rfl)] at hk
      rw [List.getElem?_eq_getElem c]
      exact congrArg some (V.str.inj (Option.some.inj hk))
    · exfalso
      unfold atI ixN at hk
      simp at hk
      rw [if_neg (by omega)] at hk
      simp at hk
  have g1 := g ha
  have g2 := g hb
  have := (List.getElem?_inj (List.getElem?_eq_some_iff.mp g1).1 nd).mp (g1.trans g2.symm)
  omega
end Cm
namespace Sr
open PySem PySem.Spec PyProof.Rows L2 Gx
/-- a source of numbers: how many were drawn, then the cells -/
def Src (cs : List Int) : Prop := ∃ k r, cs = k :: r ∧ 0 ≤ k ∧ r ≠ [] ∧ r.length ≤ 62
theorem cut1 {xs : List V} : cutV xs (some 1) (some 63) = (xs.drop 1).take 62 := by
  unfold cutV
  rw [show (some (1 : Int)) = some ((1 : Nat) : Int) from rfl, show (some (63 : Int)) = some ((63 : Nat) : Int) from rfl, HT.sIx_nat, HT.sIx_nat]
  by_cases c : 63 ≤ xs.length
  · rw [show min 1 xs.length = 1 by omega, show min 63 xs.length = 63 by omega]
  · by_cases c1 : 1 ≤ xs.length
    · rw [show min 1 xs.length = 1 by omega, show min 63 xs.length = xs.length by omega, List.take_of_length_le (by simp), List.take_of_length_le (by simp; omega)]
    · rw [show xs = [] from List.length_eq_zero_iff.mp (by omega)]
      rfl
theorem cut63 {xs : List V} : cutV xs none (some 63) = xs.take 63 := by
  unfold cutV
  rw [show (some (63 : Int)) = some ((63 : Nat) : Int) from rfl, HT.sIx_nat, HT.sIx_none, List.drop_zero, Nat.sub_zero]
  by_cases c : 63 ≤ xs.length
  · rw [Nat.min_eq_left c]
  · rw [Nat.min_eq_right (by omega), List.take_of_length_le (by omega), List.take_of_length_le (by omega)]
end Sr
namespace Cm
open PySem PySem.Spec PyProof.Rows L2 Gx Lw
theorem Fqs.but {K : PySem.W.Frag} {H H' : Hp} {l : Addr} {ys : List V} (b : But l H H') (hl : H l = some (.lst ys)) : ∀ {vs : List V} {qs : List Rat}, Fqs K H vs qs → Fqs K H' vs qs
  | _, _, .nil => .nil
  | _, _, .cons ⟨p, h1, h2⟩ r => .cons ⟨p, h1, seqT_but b hl h2⟩ (Fqs.but b hl r)
/-- whether a claim holds of marks -/
def holds (c : C) (ms : List (Option Str)) : Prop := (ms.length : Rat) / 2 < Lw.sum (ms.map (value c))
instance (c : C) (ms : List (Option Str)) : Decidable (holds c ms) := inferInstanceAs (Decidable ((ms.length : Rat) / 2 < Lw.sum (ms.map (value c))))
theorem sizes {n : Nat} (c : C) (h : Ok n c) : ∀ ms : List (Option Str), Paired (fun q k => Fr.Sz k q) (ms.map (value c)) (ms.map fun _ => n + 5)
  | [] => .nil
  | m :: r => .cons (sz_value c h m) (sizes c h r)
theorem szs_rep {α : Type} (n : Nat) : ∀ ms : List α, Lw.szs (ms.map fun _ => n + 5) = ms.length * (n + 6) + 1 := fun ms => by
  have h : ∀ (l : List α) (b : Nat), (l.map fun _ => n + 5).foldl (fun a n => a + n + 1) b = b + l.length * (n + 6) := fun l => by
    induction l with
    | nil => intro b; simp
    | cons x r ih =>
      intro b
      rw [List.map_cons, List.foldl_cons, ih, List.length_cons, Nat.succ_mul]
      omega
  unfold Lw.szs
  rw [h]
  omega
theorem half_of (n : Nat) : Rat.divInt (n : Int) 2 = (n : Rat) / 2 := by
  rw [Rat.divInt_eq_div]
  rfl
end Cm
namespace Lw
open PySem PySem.Spec PyProof.Rows L2 Gx
theorem Fqs.but {K : PySem.W.Frag} {H H' : Hp} {l : Addr} {ys : List V} (b : But l H H') (hl : H l = some (.lst ys)) {vs : List V} {qs : List Rat} (a : Fqs K H vs qs) : Fqs K H' vs qs := Cm.Fqs.but b hl a
end Lw
namespace Cm
open PySem PySem.Spec PyProof.Rows L2 Gx
/-- what a dealt mark may be -/
def Mk (ns : List Str) (b : Bool) (m : Option Str) : Prop := (∃ n ∈ ns, m = some n) ∨ m = some (Str.ofString "") ∨ m = none ∨ (b = true ∧ m = some (Str.ofString "?"))
theorem strs_mv (ns : List Str) : ns.map V.str = (ns.map some).map mv := by rw [List.map_map]; rfl
theorem mk_names {ns : List Str} {b : Bool} : ∀ m ∈ ns.map some, Mk ns b m := fun m hm => by
  obtain ⟨n, hn, rfl⟩ := List.mem_map.mp hm
  exact .inl ⟨n, hn, rfl⟩
theorem all_app {α : Type} {P : α → Prop} {a b : List α} (h : ∀ x ∈ a, P x) (g : ∀ x ∈ b, P x) : ∀ x ∈ a ++ b, P x := fun x hx => (List.mem_append.mp hx).elim (h x) (g x)
theorem all_take {α : Type} {P : α → Prop} {a : List α} {n : Nat} (h : ∀ x ∈ a, P x) : ∀ x ∈ a.take n, P x := fun x hx => h x (List.mem_of_mem_take hx)
theorem all_drop {α : Type} {P : α → Prop} {a : List α} {n : Nat} (h : ∀ x ∈ a, P x) : ∀ x ∈ a.drop n, P x := fun x hx => h x (List.mem_of_mem_drop hx)
theorem get_map {α : Type} {f : α → V} {xs : List α} {j : Nat} {x : V} (h : (xs.map f)[j]? = some x) : ∃ a, xs[j]? = some a ∧ x = f a := by
  rw [List.getElem?_map] at h
  cases e : xs[j]? with
  | none => rw [e] at h; cases h
  | some m => rw [e] at h; exact ⟨m, rfl, (Option.some.inj h).symm⟩
theorem at_map {α : Type} {f : α → V} {xs : List α} {i : Int} (h0 : 0 ≤ i) (h1 : i < xs.length) : ∃ a, a ∈ xs ∧ atI (xs.map f) i = some (f a) := by
  obtain ⟨n, rfl⟩ := Int.eq_ofNat_of_zero_le h0
  exact ⟨xs[n]'(by omega), List.getElem_mem _, atI_nat (by rw [List.getElem?_map, List.getElem?_eq_getElem (by omega)]; rfl)⟩
end Cm
namespace Cm
open PySem PySem.Spec PyProof.Rows L2 Gx
/-! more about values -/
theorem half_nn : (0 : Rat) ≤ 1/2 := by decide +kernel
theorem one_nn : (0 : Rat) ≤ 1 := by decide +kernel
theorem half_le {s : Rat} (h0 : 0 < s) (h1 : s < 1) : (1/2 : Rat) ≤ (1/2) / s := by
  refine Rat.not_lt.mp fun z => ?_
  rw [Rat.div_lt_iff h0] at z
  have := Rat.mul_le_mul_of_nonneg_left (Rat.le_of_lt h1) half_nn
  rw [Rat.mul_one] at this
  exact absurd (Std.lt_of_lt_of_le z this) (Rat.lt_irrefl)
theorem sub_pos {s : Rat} (h1 : s < 1) : 0 < 1 - s ∧ (0 < s → 1 - s < 1) := by
  constructor
  · grind
  · intro h; grind
theorem val_nn {n : Nat} (c : C) (h : Ok n c) (m : Option Str) : 0 ≤ value c m ∧ value c m ≤ greatest c := by
  have g : 0 ≤ greatest c ∧ (1/2 : Rat) ≤ greatest c := by
    cases c with
    | claim => exact ⟨half_nn, Rat.le_refl⟩
    | beats o t => exact ⟨one_nn, show (1/2 : Rat) ≤ 1 by decide +kernel⟩
    | over k s => have := half_le h.1 h.2.1; exact ⟨Rat.le_trans half_nn this, this⟩
    | under k s =>
      obtain ⟨p1, p2⟩ := sub_pos h.2.1
      have := half_le p1 (p2 h.1)
      exact ⟨Rat.le_trans half_nn this, this⟩
  have z : (0 : Rat) ≤ 0 ∧ (0 : Rat) ≤ greatest c := ⟨Rat.le_refl, g.1⟩
  unfold value
  split
  · exact z
  · cases c with
    | claim => exact ⟨half_nn, g.2⟩
    | beats o t =>
      show 0 ≤ (if m = some o then 1 else if m = some t then 0 else 1/2) ∧ (if m = some o then 1 else if m = some t then 0 else 1/2) ≤ _
      split
      · exact ⟨one_nn, Rat.le_refl⟩
      · split
        · exact z
        · exact ⟨half_nn, g.2⟩
    | over k s =>
      show 0 ≤ (if m = none ∨ m = some (Str.ofString "") then 1/2 else if m = some k then greatest (.over k s) else 0) ∧ (if m = none ∨ m = some (Str.ofString "") then 1/2 else if m = some k then greatest (.over k s) else 0) ≤ _
      split
      · exact ⟨half_nn, g.2⟩
      · split
        · exact ⟨g.1, Rat.le_refl⟩
        · exact z
    | under k s =>
      show 0 ≤ (if m = none ∨ m = some (Str.ofString "") then 1/2 else if m = some k then 0 else greatest (.under k s)) ∧ (if m = none ∨ m = some (Str.ofString "") then 1/2 else if m = some k then 0 else greatest (.under k s)) ≤ _
      split
      · exact ⟨half_nn, g.2⟩
      · split
        · exact z
        · exact ⟨g.1, Rat.le_refl⟩
theorem value_q (c : C) : value c (some (Str.ofString "?")) = 0 := if_pos rfl
theorem sum_add : ∀ (qs : List Rat) (a : Rat), qs.foldl (· + ·) a = a + qs.foldl (· + ·) 0
  | [], a => by simp [Rat.add_zero]
  | q :: r, a => by
    rw [List.foldl_cons, List.foldl_cons, sum_add r (a + q), sum_add r (0 + q)]
    grind
theorem sum_cons (q : Rat) (r : List Rat) : Lw.sum (q :: r) = q + Lw.sum r := by
  unfold Lw.sum
  rw [List.foldl_cons, sum_add, Rat.zero_add]
/-- each mark either the same, or one said in place of one that lacks -/
def Said (m m' : Option Str) : Prop := m' = m ∨ m = some (Str.ofString "?")
theorem sum_said {n : Nat} (c : C) (h : Ok n c) : ∀ {ms ms' : List (Option Str)}, PySem.Paired Said ms ms' → Lw.sum (ms.map (value c)) ≤ Lw.sum (ms'.map (value c))
  | _, _, .nil => Rat.le_refl
  | _, _, .cons (a := a) (b := b) p r => by
    rw [List.map_cons, List.map_cons, sum_cons, sum_cons]
    have i := sum_said c h r
    have q : value c a ≤ value c b := by
      rcases p with e | e
      · rw [e]; exact Rat.le_refl
      · rw [e, value_q]; exact (val_nn c h b).1
    grind
theorem holds_said {n : Nat} (c : C) (h : Ok n c) {ms ms' : List (Option Str)} (p : PySem.Paired Said ms ms') (g : holds c ms) : holds c ms' := by
  have e := PySem.Paired.length p
  unfold holds at *
  rw [← e]
  exact Std.lt_of_lt_of_le g (sum_said c h p)
theorem holds_more {c : C} {ms : List (Option Str)} (g : holds c (ms ++ [some (Str.ofString "?")])) : holds c ms := by
  unfold holds at *
  rw [List.map_append, List.length_append] at g
  have e : Lw.sum (ms.map (value c) ++ [value c (some (Str.ofString "?"))]) = Lw.sum (ms.map (value c)) := by
    rw [Lw.sum_snoc, value_q, Rat.add_zero]
  rw [show [some (Str.ofString "?")].map (value c) = [value c (some (Str.ofString "?"))] from rfl, e] at g
  have l : ((ms.length : Rat)) / 2 ≤ ((ms.length + [some (Str.ofString "?")].length : Nat) : Rat) / 2 := by
    show ((ms.length : Rat)) / 2 ≤ ((ms.length + 1 : Nat) : Rat) / 2
    have : ((ms.length + 1 : Nat) : Rat) = (ms.length : Rat) + 1 := by exact_mod_cast rfl
    rw [this]
    grind
  exact Std.lt_of_le_of_lt l g
theorem paired_snoc {α β : Type} {F : α → β → Prop} : ∀ {as : List α} {bs : List β} {a : α} {b : β}, PySem.Paired F as bs → F a b → PySem.Paired F (as ++ [a]) (bs ++ [b])
  | _, _, _, _, .nil, h => .cons h .nil
  | _, _, _, _, .cons x r, h => .cons x (paired_snoc r h)
end Cm
namespace Wy
open PySem PySem.Spec PyProof.Rows L2 Gx
theorem fqn (n : Nat) : Fr.fq (n : Rat) = [.int (n : Int), .int 1] := rfl
theorem fq2 : Fr.fq 2 = [.int 2, .int 1] := rfl
theorem szn {n k : Nat} (h : n < 2 ^ k) (hk : 1 ≤ k) : Fr.Sz k (n : Rat) := ⟨by show ((n : Rat).num).natAbs < _; rw [show (n : Rat).num = (n : Int) from rfl]; omega, by show (1 : Nat) < 2 ^ k; exact Nat.one_lt_two_pow (by omega)⟩
theorem sz2 : Fr.Sz 3 2 := ⟨by decide, by decide⟩
theorem n_ne {n : Nat} (h : 1 ≤ n) : (n : Rat) ≠ 0 := fun e => by
  have : (n : Rat) = ((0 : Nat) : Rat) := e
  have := Rat.natCast_inj.mp this
  omega
/-- the mean of a record's values, and what a value is divided by -/
def mean (c : Cm.C) (ms : List (Option Str)) : Rat := Lw.sum (ms.map (Cm.value c)) / (ms.length : Rat)
def scale (c : Cm.C) (ms : List (Option Str)) : Rat := 2 - (2 * mean c ms - 1) / Cm.greatest c
theorem half_le_g {n : Nat} {c : Cm.C} (h : Cm.Ok n c) : (1/2 : Rat) ≤ Cm.greatest c := by
  cases c with
  | claim => exact Rat.le_refl
  | beats o t => exact show (1/2 : Rat) ≤ 1 by decide +kernel
  | over k s => exact Cm.half_le h.1 h.2.1
  | under k s =>
    obtain ⟨p1, p2⟩ := Cm.sub_pos h.2.1
    exact Cm.half_le p1 (p2 h.1)
theorem g_pos {n : Nat} {c : Cm.C} (h : Cm.Ok n c) : 0 < Cm.greatest c := Std.lt_of_lt_of_le (show (0 : Rat) < 1/2 by decide +kernel) (half_le_g h)
theorem g_ne {n : Nat} {c : Cm.C} (h : Cm.Ok n c) : Cm.greatest c ≠ 0 := fun e => by have := g_pos h; rw [e] at this; exact absurd this Rat.lt_irrefl
theorem fqs_butI {K : PySem.W.Frag} {H H' : Hp} {l C dx : Addr} {fs : List (Str × V)} (e : But l H H') (hl : H l = some (.ins C dx fs)) : ∀ {vs : List V} {qs : List Rat}, Lw.Fqs K H vs qs → Lw.Fqs K H' vs qs
  | _, _, .nil => .nil
  | _, _, .cons ⟨p, h1, h2⟩ r => .cons ⟨p, h1, seqT_butI e hl h2⟩ (fqs_butI e hl r)
end Wy
namespace Wy
open PySem PySem.Spec PyProof.Rows L2 Gx
theorem num_den (s : Rat) : s * (s.den : Rat) = (s.num : Rat) := by
  have e : s = (s.num : Rat) / (s.den : Rat) := by
    have h := Rat.num_divInt_den s
    rw [Rat.divInt_eq_div] at h
    exact h.symm
  have hd : (s.den : Rat) ≠ 0 := fun z => by
    have z2 : (s.den : Rat) = ((0 : Nat) : Rat) := z
    exact s.den_nz (by exact_mod_cast z2)
  calc s * (s.den : Rat) = (s.num : Rat) / (s.den : Rat) * (s.den : Rat) := by rw [← e]
    _ = (s.num : Rat) := Rat.div_mul_cancel hd
theorem den_pos (s : Rat) : (0 : Rat) < (s.den : Rat) := by exact_mod_cast Nat.pos_of_ne_zero s.den_nz
theorem int_lt {a b : Int} : ((a : Rat) < (b : Rat)) ↔ a < b := by exact_mod_cast Iff.rfl
theorem half_lt {n : Nat} {q : Rat} : (n : Rat) / 2 < q ↔ (n : Int) * (q.den : Int) < 2 * q.num := by
  have e1 : (n : Rat) * (q.den : Rat) = (((n : Int) * (q.den : Int) : Int) : Rat) := by rw [Rat.intCast_mul]; rfl
  have e2 : 2 * q * (q.den : Rat) = ((2 * q.num : Int) : Rat) := by rw [Rat.mul_assoc, num_den, Rat.intCast_mul]; rfl
  rw [← int_lt, ← e1, ← e2, Rat.mul_lt_mul_right (den_pos q)]
  constructor
  · intro h; grind
  · intro h; grind
theorem dp_bls {K : PySem.W.Frag} {H : Hp} : ∀ bs : List Bool, DpAll K H (bs.map V.bl) (bs.map PyData.bool)
  | [] => .nil
  | b :: r => .cons (.bl b) (dp_bls r)
theorem sum_snoc {c : Cm.C} {ms : List (Option Str)} {i : Nat} {m : Option Str} (h : ms[i]? = some m) : Lw.sum ((ms.take (i + 1)).map (Cm.value c)) = Lw.sum ((ms.take i).map (Cm.value c)) + Cm.value c m := by
  rw [Lw.take_snoc h, List.map_append]
  exact Lw.sum_snoc _ _
end Wy
namespace Wy
open PySem PySem.Spec PyProof.Rows L2 Gx
/-- a whole number less a fraction: lowest already -/
theorem sub_parts (k : Int) (x : Rat) : ((k : Rat) - x).num = k * (x.den : Int) - x.num ∧ (((k : Rat) - x).den : Int) = (x.den : Int) := by
  have e : (k : Rat) - x = Rat.divInt (k * (x.den : Int) - x.num) (x.den : Int) := by
    rw [← Fr.sub_eq (k : Rat) x]
    show Rat.divInt (k * (x.den : Int) - x.num * 1) (1 * (x.den : Int)) = _
    rw [Int.mul_one, Int.one_mul]
  have hd := Fr.den_pos x
  have g : Int.gcd (x.den : Int) (k * (x.den : Int) - x.num) = 1 := by
    have h1 : Int.gcd (x.den : Int) (x.num - (x.den : Int) * k) = Int.gcd (x.den : Int) x.num := by rw [Int.gcd_sub_mul_left_right]
    have h2 : k * (x.den : Int) - x.num = -(x.num - (x.den : Int) * k) := by rw [Int.mul_comm]; omega
    rw [h2, Int.gcd_neg, h1, Int.gcd_comm]
    exact x.reduced
  have ed : Rat.den (Rat.divInt (k * (x.den : Int) - x.num) (x.den : Int)) = x.den := by
    rw [Rat.den_divInt, if_neg (by omega), g]
    simp
  refine ⟨?_, by rw [e, ed]⟩
  rw [e, Rat.num_divInt, g, Int.sign_eq_one_of_pos hd]
  simp
theorem fq_sub (k : Int) (x : Rat) : Fr.fq ((k : Rat) - x) = [.int (k * (x.den : Int) - x.num), .int (x.den : Int)] := by
  obtain ⟨h1, h2⟩ := sub_parts k x
  show [V.int _, V.int _] = _
  rw [h1, h2]
theorem sum_le {n : Nat} {c : Cm.C} (h : Cm.Ok n c) : ∀ ms : List (Option Str), Lw.sum (ms.map (Cm.value c)) ≤ (ms.length : Rat) * Cm.greatest c
  | [] => by
    show (0 : Rat) ≤ ((0 : Nat) : Rat) * _
    rw [show ((0 : Nat) : Rat) = 0 from rfl, Rat.zero_mul]
    exact Rat.le_refl
  | m :: r => by
    have ih := sum_le h r
    have v := (Cm.val_nn c h m).2
    rw [List.map_cons, Cm.sum_cons, List.length_cons]
    have e : ((r.length + 1 : Nat) : Rat) = (r.length : Rat) + 1 := by exact_mod_cast rfl
    rw [e]
    grind
theorem n_pos {n : Nat} (h : 1 ≤ n) : (0 : Rat) < (n : Rat) := by exact_mod_cast h
theorem mean_le {n : Nat} {c : Cm.C} (h : Cm.Ok n c) {ms : List (Option Str)} (l : 1 ≤ ms.length) : mean c ms ≤ Cm.greatest c := by
  unfold mean
  refine Rat.not_lt.mp fun z => ?_
  rw [Rat.lt_div_iff (n_pos l)] at z
  have := sum_le h ms
  rw [Rat.mul_comm] at this
  exact absurd (Std.lt_of_lt_of_le z this) Rat.lt_irrefl
theorem scale_pos {n : Nat} {c : Cm.C} (h : Cm.Ok n c) {ms : List (Option Str)} (l : 1 ≤ ms.length) : 0 < scale c ms := by
  have g := g_pos h
  have m := mean_le h l
  have z : (2 * mean c ms - 1) / Cm.greatest c < 2 := by
    rw [Rat.div_lt_iff g]
    grind
  unfold scale
  grind
theorem scale_ne {n : Nat} {c : Cm.C} (h : Cm.Ok n c) {ms : List (Option Str)} (l : 1 ≤ ms.length) : scale c ms ≠ 0 := fun e => by
  have := scale_pos h l
  rw [e] at this
  exact absurd this Rat.lt_irrefl
/-- a ballot's value, compared with its record -/
def cmp (c : Cm.C) (ms : List (Option Str)) (t m : Option Str) : Rat := (1 - (Cm.value c t - Cm.value c m) / Cm.greatest c) / scale c ms
theorem two_cast : ((2 : Int) : Rat) = 2 := rfl
theorem one_cast : ((1 : Int) : Rat) = 1 := rfl
theorem same_cmp (c : Cm.C) (ms : List (Option Str)) (t : Option Str) : cmp c ms t t = 1 / scale c ms := by
  unfold cmp
  rw [show Cm.value c t - Cm.value c t = 0 by grind, Rat.div_def 0, Rat.zero_mul]
  rw [show (1 : Rat) - 0 = 1 by decide +kernel]
/-- twice the mean, less 1 -/
theorem margin_eq (c : Cm.C) {ms : List (Option Str)} (l : 1 ≤ ms.length) : Rat.divInt (2 * (Lw.sum (ms.map (Cm.value c))).num - (ms.length : Int) * ((Lw.sum (ms.map (Cm.value c))).den : Int)) ((ms.length : Int) * ((Lw.sum (ms.map (Cm.value c))).den : Int)) = 2 * mean c ms - 1 := by
  unfold mean
  generalize Lw.sum (ms.map (Cm.value c)) = q
  have hn := n_ne l
  have hd : (q.den : Rat) ≠ 0 := fun z => by have := den_pos q; rw [z] at this; exact absurd this Rat.lt_irrefl
  rw [Rat.divInt_eq_div]
  have e1 : ((2 * q.num - (ms.length : Int) * (q.den : Int) : Int) : Rat) = 2 * (q * (q.den : Rat)) - (ms.length : Rat) * (q.den : Rat) := by
    rw [num_den, Rat.intCast_sub, Rat.intCast_mul, Rat.intCast_mul]; rfl
  have e2 : (((ms.length : Int) * (q.den : Int) : Int) : Rat) = (ms.length : Rat) * (q.den : Rat) := by rw [Rat.intCast_mul]; rfl
  rw [e1, e2]
  have hnd : (ms.length : Rat) * (q.den : Rat) ≠ 0 := fun z => by
    rcases Rat.mul_eq_zero.mp z with h | h
    · exact hn h
    · exact hd h
  have e3 : q / (ms.length : Rat) * (ms.length : Rat) = q := Rat.div_mul_cancel hn
  have e4 : 2 * (q * (q.den : Rat)) - (ms.length : Rat) * (q.den : Rat) = (2 * (q / (ms.length : Rat)) - 1) * ((ms.length : Rat) * (q.den : Rat)) := by grind
  rw [e4, Rat.mul_div_cancel hnd]
end Wy
namespace Wy
open PySem PySem.Spec PyProof.Rows L2 Gx
theorem half_less {s : Rat} (h0 : 0 < s) (h1 : s < 1) : (1/2 : Rat) < (1/2) / s := by
  rw [Rat.lt_div_iff h0]
  grind
theorem sum_all {c : Cm.C} {g : Option Str} : ∀ {ms : List (Option Str)}, (∀ m ∈ ms, m = g) → Lw.sum (ms.map (Cm.value c)) = (ms.length : Rat) * Cm.value c g
  | [], _ => by
    show (0 : Rat) = ((0 : Nat) : Rat) * _
    rw [show ((0 : Nat) : Rat) = 0 from rfl, Rat.zero_mul]
  | m :: r, h => by
    rw [List.map_cons, Cm.sum_cons, sum_all fun x hx => h x (List.mem_cons_of_mem _ hx), h m (List.mem_cons_self ..), List.length_cons]
    have e : ((r.length + 1 : Nat) : Rat) = (r.length : Rat) + 1 := by exact_mod_cast rfl
    rw [e]
    grind
theorem holds_all {c : Cm.C} {g : Option Str} (h : 1/2 < Cm.value c g) {ms : List (Option Str)} (l : 1 ≤ ms.length) (a : ∀ m ∈ ms, m = g) : Cm.holds c ms := by
  unfold Cm.holds
  rw [sum_all a]
  have p := n_pos l
  have := Rat.mul_lt_mul_of_pos_left h p
  rw [Rat.div_def, show (2 : Rat)⁻¹ = 1/2 by decide +kernel]
  exact this
theorem nm_q {n : Str} (h : Pl.Nm n) : n ≠ Str.ofString "?" := fun e => by
  rw [e] at h
  have := h.2.2 63 (by decide +kernel)
  omega
theorem nm_e {n : Str} (h : Pl.Nm n) : n ≠ Str.ofString "" := fun e => by
  rw [e] at h
  have : (Str.ofString "").cps.size = 0 := by decide +kernel
  have := h.1
  omega
theorem val_name {c : Cm.C} {g : Str} (h : Pl.Nm g) : Cm.value c (some g) = Cm.valueOf c (some g) := if_neg fun e => nm_q h (Option.some.inj e)
theorem good_beats {o t : Str} (h : Pl.Nm o) : 1/2 < Cm.value (.beats o t) (some o) := by
  rw [val_name h, show Cm.valueOf (.beats o t) (some o) = 1 from if_pos rfl]
  decide +kernel
theorem good_over {k : Str} {s : Rat} (h : Pl.Nm k) (h0 : 0 < s) (h1 : s < 1) : 1/2 < Cm.value (.over k s) (some k) := by
  rw [val_name h, Cm.cval_over k s (some k) (fun z => z.elim (fun e => nomatch e) fun e => nm_e h (Option.some.inj e)), if_pos rfl]
  exact half_less h0 h1
theorem good_under {k g : Str} {s : Rat} (h : Pl.Nm g) (n : g ≠ k) (h0 : 0 < s) (h1 : s < 1) : 1/2 < Cm.value (.under k s) (some g) := by
  obtain ⟨p1, p2⟩ := Cm.sub_pos h1
  rw [val_name h, Cm.cval_under k s (some g) (fun z => z.elim (fun e => nomatch e) fun e => nm_e h (Option.some.inj e)), if_neg (fun e => n (Option.some.inj e))]
  exact half_less p1 (p2 h0)
theorem rep1 {α : Type} (x : α) : ∀ k : Nat, (List.replicate k [x]).flatten = List.replicate k x
  | 0 => rfl
  | k + 1 => by rw [List.replicate_succ, List.flatten_cons, rep1 x k, List.replicate_succ]; rfl
/-- a way that compares -/
def Wa (K : PySem.W.Frag) (H : Hp) (a : Addr) (c : Cm.C) (ms : List (Option Str)) : Prop := ∃ (dx w l r : Addr) (ys : List V), H a = some (.ins (He.ga K "Comparing") dx [("claim", .ref w), ("told", .ref l), ("scale", .ref r)]) ∧ Cm.At K H w c ∧ H l = some (.lst ys) ∧ Lw.Fqs K H ys (ms.map (Cm.value c)) ∧ SqT K H r (Fr.fq (scale c ms)) ∧ Fr.Sz 5000 (scale c ms)
theorem Wa.same {K : PySem.W.Frag} {H H' : Hp} (e : Same H H') {a : Addr} {c : Cm.C} {ms : List (Option Str)} : Wa K H a c ms → Wa K H' a c ms
  | ⟨dx, w, l, r, ys, h1, h2, h3, h4, h5, h6⟩ => ⟨dx, w, l, r, ys, e _ _ h1, h2.same e, e _ _ h3, h4.same e, seqT_same e h5, h6⟩
end Wy
namespace Wy
open PySem PySem.Spec PyProof.Rows L2 Gx
/-- a way of either sort -/
def Wx (K : PySem.W.Frag) (H : Hp) (a : Addr) (b : Bool) (c : Cm.C) (ts : List (Option Str)) : Prop :=
  (b = true ∧ ∃ dx w, H a = some (.ins (He.ga K "Looking") dx [("claim", .ref w)]) ∧ Cm.At K H w c) ∨ (b = false ∧ Wa K H a c ts)
theorem Wx.same {K : PySem.W.Frag} {H H' : Hp} (e : Same H H') {a : Addr} {b : Bool} {c : Cm.C} {ts : List (Option Str)} : Wx K H a b c ts → Wx K H' a b c ts
  | .inl ⟨h, dx, w, h1, h2⟩ => .inl ⟨h, dx, w, e _ _ h1, h2.same e⟩
  | .inr ⟨h, g⟩ => .inr ⟨h, g.same e⟩
theorem k_w2 {K : PySem.W.Frag} {σ : L2.St} {H : Hp} {Q : VK} {ta : TE} {t : TA} {m : Str} {sp1 sp2 : Sp} {E : L2.St → XK} {a : Addr} {b : Bool} {c : Cm.C} {ts : List (Option Str)} (hev : ∀ Q : VK, Q (.ref a) H → ta σ H Q) (hw : Wx K H a b c ts) (q : t σ H fun vs H2 => (if b = true then sp1 else sp2) (.ref a :: vs) H2 Q (E σ))
    (h1 : (m == (Str.ofString "claim")) = false := by decide +kernel) (h2 : (m == (Str.ofString "told")) = false := by decide +kernel) (h3 : (m == (Str.ofString "scale")) = false := by decide +kernel) :
    tOr2 (tMethS (He.ga K "Looking") m sp1 E ta t) (tMethS (He.ga K "Comparing") m sp2 E ta t) σ H Q := by
  rcases hw with ⟨rfl, dx, w, hi, _⟩ | ⟨rfl, dx, w, l, r, ys, hi, _⟩
  · exact k_o1 (k_meth (hev _ (k_methx hi (lkz h1 lk0) q)))
  · exact k_o2 (k_meth (hev _ (k_methx hi (lkz h1 (lkz h2 (lkz h3 lk0))) q)))
end Wy
namespace Ru
open PySem PySem.Spec PyProof.Rows L2 Gx
theorem cast_pos {a : Int} (h : 0 < a) : (0 : Rat) < (a : Rat) := by
  have : ((0 : Int) : Rat) < (a : Rat) := Rat.intCast_lt_intCast.mpr h
  exact this
theorem cast_nn {a : Int} (h : 0 ≤ a) : (0 : Rat) ≤ (a : Rat) := by
  have : ((0 : Int) : Rat) ≤ (a : Rat) := Rat.intCast_le_intCast.mpr h
  exact this
theorem pos {a b : Int} (ha : 0 < a) (hb : 0 < b) : 0 < Rat.divInt a b := by
  rw [Rat.divInt_eq_div, Rat.lt_div_iff (cast_pos hb), Rat.zero_mul]
  exact cast_pos ha
theorem unit {a b : Int} (h0 : 0 ≤ a) (h1 : a ≤ b) (hb : 0 < b) : 0 ≤ Rat.divInt a b ∧ Rat.divInt a b ≤ 1 := by
  have p := cast_pos hb
  rw [Rat.divInt_eq_div]
  constructor
  · refine Rat.not_lt.mp fun z => ?_
    rw [Rat.div_lt_iff p, Rat.zero_mul] at z
    exact absurd (Std.lt_of_lt_of_le z (cast_nn h0)) Rat.lt_irrefl
  · refine Rat.not_lt.mp fun z => ?_
    rw [Rat.lt_div_iff p, Rat.one_mul] at z
    have := Rat.intCast_lt_intCast.mp z
    omega
/-- from 0 to 1 -/
def clip (x : Rat) : Rat := if x < 0 then 0 else if 1 < x then 1 else x
/-- what a learning rule stakes -/
def learn (g w : Rat) (past : List Rat) (price top : Rat) : Rat := if price < top then clip (((w * g + Lw.sum past) / (w + (past.length : Rat)) - price) / (top - price)) else 0
theorem lt_parts {x y : Rat} : x < y ↔ x.num * (y.den : Int) < y.num * (x.den : Int) := Rat.lt_iff x y
theorem neg_fq (x : Rat) : Fr.fq (-x) = [.int (0 - x.num), .int (x.den : Int)] := by
  show [V.int (-x).num, V.int ((-x).den : Int)] = _
  rw [Rat.neg_num, Rat.neg_den, Int.zero_sub]
theorem num_le0 {x : Rat} : x.num ≤ 0 ↔ x ≤ 0 := by
  rw [← Rat.not_lt, Rat.lt_iff]
  simp
theorem one_lt {x : Rat} : (x.den : Int) < x.num ↔ 1 < x := by
  rw [Rat.lt_iff]
  simp
theorem fqn (n : Nat) : Fr.fq (n : Rat) = [.int (n : Int), .int 1] := rfl
theorem szn {n k : Nat} (h : n < 2 ^ k) (hk : 1 ≤ k) : Fr.Sz k (n : Rat) := ⟨by show ((n : Rat).num).natAbs < _; rw [show (n : Rat).num = (n : Int) from rfl]; omega, by show (1 : Nat) < 2 ^ k; exact Nat.one_lt_two_pow (by omega)⟩
theorem n_ne {n : Nat} (h : 1 ≤ n) : (n : Rat) ≠ 0 := fun e => by
  have : (n : Rat) = ((0 : Nat) : Rat) := e
  have := Rat.natCast_inj.mp this
  omega
theorem clip_le0 {a b : Rat} (hb : 0 < b) (h : a ≤ 0) : clip (a / b) = 0 := by
  have le : a / b ≤ 0 := Rat.not_lt.mp fun z => by
    rw [Rat.lt_div_iff hb, Rat.zero_mul] at z
    exact absurd (Std.lt_of_lt_of_le z h) Rat.lt_irrefl
  unfold clip
  by_cases c : a / b < 0
  · rw [if_pos c]
  · rw [if_neg c]
    have e : a / b = 0 := Rat.le_antisymm le (Rat.not_lt.mp c)
    rw [e, if_neg (by decide +kernel)]
theorem paired_drop {α β : Type} {R : α → β → Prop} {xs : List α} {ys : List β} (h : PySem.Paired R xs ys) : PySem.Paired R xs.dropLast ys.dropLast := by
  induction h with
  | nil => exact .nil
  | cons a r ih =>
    cases r with
    | nil => exact .nil
    | cons b r2 => exact .cons a ih
theorem fqs_drop {K : PySem.W.Frag} {H : Hp} {vs : List V} {qs : List Rat} (h : Lw.Fqs K H vs qs) : Lw.Fqs K H vs.dropLast qs.dropLast := paired_drop h
end Ru
namespace Cm
open PySem PySem.Spec PyProof.Rows L2 Gx
def isQ (m : Option Str) : Bool := decide (m = some (Str.ofString "?"))
def there (m : Option Str) : Bool := !decide (m = some (Str.ofString "?"))
def bare (m : Option Str) : Bool := decide (m = none) || decide (m = some (Str.ofString ""))
def isN (n : Str) (m : Option Str) : Bool := decide (m = some n)
theorem cast_succ (n : Nat) : ((n + 1 : Nat) : Rat) = (n : Rat) + 1 := by exact_mod_cast rfl
theorem sum_two {c : C} {h g : Option Str → Bool} {x : Rat} (hv : ∀ m, value c m = (if h m = true then 1/2 else 0) + (if g m = true then x else 0)) : ∀ ms : List (Option Str), Lw.sum (ms.map (value c)) = (ms.countP h : Rat) * (1/2) + (ms.countP g : Rat) * x
  | [] => by
    show (0 : Rat) = ((0 : Nat) : Rat) * (1/2) + ((0 : Nat) : Rat) * x
    have : ((0 : Nat) : Rat) = 0 := rfl
    rw [this, Rat.zero_mul, Rat.zero_mul, Rat.add_zero]
  | m :: r => by
    rw [List.map_cons, sum_cons, sum_two hv r, hv m, List.countP_cons, List.countP_cons]
    by_cases a : h m = true <;> by_cases b : g m = true <;> simp only [a, b, if_true, Bool.false_eq_true, if_false, Nat.add_zero] <;> (try rw [cast_succ]) <;> (try rw [cast_succ]) <;> grind
theorem ne_q {n : Str} (h : Pl.Nm n) : n ≠ Str.ofString "?" := fun e => by
  rw [e] at h
  have := h.2.2 63 (by decide +kernel)
  omega
theorem ne_e {n : Str} (h : Pl.Nm n) : n ≠ Str.ofString "" := fun e => by
  rw [e] at h
  exact absurd h.1 (by decide +kernel)
theorem q_ne_e : Str.ofString "?" ≠ Str.ofString "" := by decide +kernel
/-! what each claim's values are -/
theorem val_claim (m : Option Str) : value .claim m = (if there m = true then 1/2 else 0) + (if (false : Bool) = true then (0 : Rat) else 0) := by
  show (if m = some (Str.ofString "?") then 0 else 1/2) = _
  by_cases h : m = some (Str.ofString "?")
  · simp [there, h, Rat.add_zero]
  · simp [there, h, Rat.add_zero]
def half2 (a b : Str) (m : Option Str) : Bool := there m && (!isN a m && !isN b m)
theorem val_beats {a b : Str} (ha : a ≠ Str.ofString "?") (hb : b ≠ Str.ofString "?") (m : Option Str) : value (.beats a b) m = (if half2 a b m = true then 1/2 else 0) + (if isN a m = true then (1 : Rat) else 0) := by
  show (if m = some (Str.ofString "?") then 0 else if m = some a then 1 else if m = some b then 0 else 1/2) = _
  by_cases h : m = some (Str.ofString "?")
  · subst h
    have e1 : ¬ (some (Str.ofString "?") = some a) := fun e => ha (Option.some.inj e).symm
    simp [half2, there, isN, e1, Rat.add_zero]
  · by_cases h1 : m = some a
    · simp [half2, isN, h1, Rat.zero_add]
      intro e; exact absurd e ha
    · by_cases h2 : m = some b
      · have h3 : ¬ b = a := fun e => h1 (by rw [h2, e])
        simp [half2, isN, h2, h3, hb, Rat.zero_add]
      · simp [half2, there, isN, h, h1, h2, Rat.add_zero]
theorem val_over {n : Str} {s : Rat} (hn : n ≠ Str.ofString "?") (he : n ≠ Str.ofString "") (m : Option Str) : value (.over n s) m = (if bare m = true then 1/2 else 0) + (if isN n m = true then (1/2) / s else 0) := by
  show (if m = some (Str.ofString "?") then 0 else if m = none ∨ m = some (Str.ofString "") then 1/2 else if m = some n then (1/2)/s else 0) = _
  by_cases h : m = some (Str.ofString "?")
  · subst h
    have e1 : ¬ (Str.ofString "?" = n) := fun e => hn e.symm
    simp [bare, isN, e1, q_ne_e, Rat.add_zero]
  · by_cases h1 : m = none
    · simp [bare, isN, h1, Rat.add_zero]
    · by_cases h2 : m = some (Str.ofString "")
      · have e1 : ¬ (Str.ofString "" = n) := fun e => he e.symm
        simp [bare, isN, h2, e1, Rat.add_zero, Ne.symm q_ne_e]
      · by_cases h3 : m = some n
        · simp [bare, isN, h3, hn, he, Rat.zero_add]
        · simp [bare, isN, h, h1, h2, h3, Rat.zero_add]
def rest (n : Str) (m : Option Str) : Bool := there m && (!bare m && !isN n m)
theorem val_under {n : Str} {s : Rat} (hn : n ≠ Str.ofString "?") (he : n ≠ Str.ofString "") (m : Option Str) : value (.under n s) m = (if bare m = true then 1/2 else 0) + (if rest n m = true then (1/2) / (1 - s) else 0) := by
  show (if m = some (Str.ofString "?") then 0 else if m = none ∨ m = some (Str.ofString "") then 1/2 else if m = some n then 0 else (1/2)/(1 - s)) = _
  by_cases h : m = some (Str.ofString "?")
  · subst h
    simp [bare, rest, there, q_ne_e, Rat.add_zero]
  · by_cases h1 : m = none
    · simp [bare, rest, h1, Rat.add_zero]
    · by_cases h2 : m = some (Str.ofString "")
      · simp [bare, rest, h2, Rat.add_zero, Ne.symm q_ne_e]
      · by_cases h3 : m = some n
        · simp [bare, rest, isN, h3, hn, he, Rat.zero_add]
        · simp [bare, rest, there, isN, h, h1, h2, h3, Rat.zero_add]
/-! the counts, one by the others -/
theorem cnt_half2 {a b : Str} (ha : a ≠ Str.ofString "?") (hb : b ≠ Str.ofString "?") (hab : a ≠ b) : ∀ ms : List (Option Str), ms.countP there = ms.countP (half2 a b) + ms.countP (isN a) + ms.countP (isN b)
  | [] => rfl
  | m :: r => by
    have ih := cnt_half2 ha hb hab r
    rw [List.countP_cons, List.countP_cons, List.countP_cons, List.countP_cons, ih]
    by_cases h : m = some (Str.ofString "?")
    · subst h
      have e1 : ¬ (Str.ofString "?" = a) := fun e => ha e.symm
      have e2 : ¬ (Str.ofString "?" = b) := fun e => hb e.symm
      simp [half2, there, isN, e1, e2]
    · by_cases h1 : m = some a
      · simp [half2, there, isN, h1, ha, hab]; omega
      · by_cases h2 : m = some b
        · have h3 : ¬ b = a := fun e => hab e.symm
          simp [half2, there, isN, h2, h3, hb]; omega
        · simp [half2, there, isN, h, h1, h2]; omega
theorem cnt_rest {n : Str} (hn : n ≠ Str.ofString "?") (he : n ≠ Str.ofString "") : ∀ ms : List (Option Str), ms.countP there = ms.countP (rest n) + ms.countP bare + ms.countP (isN n)
  | [] => rfl
  | m :: r => by
    have ih := cnt_rest hn he r
    rw [List.countP_cons, List.countP_cons, List.countP_cons, List.countP_cons, ih]
    by_cases h : m = some (Str.ofString "?")
    · subst h
      have e1 : ¬ (Str.ofString "?" = n) := fun e => hn e.symm
      simp [rest, there, bare, isN, e1, q_ne_e]
    · by_cases h1 : m = none
      · simp [rest, there, bare, isN, h1]; omega
      · by_cases h2 : m = some (Str.ofString "")
        · have e1 : ¬ (Str.ofString "" = n) := fun e => he e.symm
          simp [rest, there, bare, isN, h2, e1, Ne.symm q_ne_e]; omega
        · by_cases h3 : m = some n
          · simp [rest, there, bare, isN, h3, hn, he]; omega
          · simp [rest, there, bare, isN, h, h1, h2, h3]; omega
/-! when a claim holds, by counts -/
theorem cast_lt {a b : Int} : ((a : Rat) < (b : Rat)) ↔ a < b := by exact_mod_cast Iff.rfl
theorem scaled {a b g x s : Rat} (h0 : 0 < s) (hx : x * s = 1/2) : a / 2 < b * (1/2) + g * x ↔ a * s < b * s + g := by
  rw [← Rat.mul_lt_mul_right h0]
  have e : (b * (1/2) + g * x) * s = (b * s + g) / 2 := by
    have : g * x * s = g * (1/2) := by rw [Rat.mul_assoc, hx]
    grind
  rw [e]
  constructor
  · intro h; grind
  · intro h; grind
theorem num_den (s : Rat) : s * (s.den : Rat) = (s.num : Rat) := by
  have e : s = (s.num : Rat) / (s.den : Rat) := by
    have := Rat.num_divInt_den s
    rw [Rat.divInt_eq_div] at this
    exact this.symm
  have hd : (s.den : Rat) ≠ 0 := by
    intro z
    have : (s.den : Rat) = ((0 : Nat) : Rat) := z
    have h2 : s.den = 0 := by exact_mod_cast this
    exact s.den_nz h2
  calc s * (s.den : Rat) = (s.num : Rat) / (s.den : Rat) * (s.den : Rat) := by rw [← e]
    _ = (s.num : Rat) := Rat.div_mul_cancel hd
theorem den_pos' (s : Rat) : (0 : Rat) < (s.den : Rat) := by exact_mod_cast Nat.pos_of_ne_zero s.den_nz
theorem inv2 {s : Rat} (h0 : 0 < s) : (1/2) / s * s = 1/2 := Rat.div_mul_cancel (ne0 h0)
theorem by_share {l b g : Nat} {s : Rat} {p w : Int} (h0 : 0 < s) (hw : 0 < w) (e : s * (w : Rat) = (p : Rat)) : ((l : Rat) / 2 < (b : Rat) * (1/2) + (g : Rat) * ((1/2) / s)) ↔ (l : Int) * p < (g : Int) * w + (b : Int) * p := by
  have hw2 : (0 : Rat) < (w : Rat) := by exact_mod_cast hw
  rw [scaled h0 (inv2 h0), ← Rat.mul_lt_mul_right hw2]
  have e1 : (l : Rat) * s * (w : Rat) = (((l : Int) * p : Int) : Rat) := by rw [Rat.mul_assoc, e, Rat.intCast_mul]; rfl
  have e2 : ((b : Rat) * s + (g : Rat)) * (w : Rat) = (((g : Int) * w + (b : Int) * p : Int) : Rat) := by
    rw [Rat.intCast_add, Rat.intCast_mul, Rat.intCast_mul, Rat.add_mul, Rat.mul_assoc, e, Rat.add_comm]
    rfl
  rw [e1, e2, cast_lt]
theorem holds_claim (ms : List (Option Str)) : holds .claim ms ↔ (ms.length : Int) < (ms.countP there : Int) := by
  unfold holds
  rw [sum_two val_claim]
  have e : ((ms.countP fun _ => false : Nat) : Rat) = 0 := by rw [List.countP_false]; rfl
  rw [Rat.mul_zero, Rat.add_zero]
  constructor
  · intro h
    have : (ms.length : Rat) < (ms.countP there : Rat) := by grind
    exact_mod_cast this
  · intro h
    have : (ms.length : Rat) < (ms.countP there : Rat) := by exact_mod_cast h
    grind
theorem holds_beats {a b : Str} (ha : a ≠ Str.ofString "?") (hb : b ≠ Str.ofString "?") (hab : a ≠ b) (ms : List (Option Str)) : holds (.beats a b) ms ↔ (ms.length : Int) < 2 * (ms.countP (isN a) : Int) + (ms.countP there : Int) - (ms.countP (isN a) : Int) - (ms.countP (isN b) : Int) := by
  unfold holds
  rw [sum_two (val_beats ha hb)]
  have c := cnt_half2 ha hb hab ms
  have e : (2 * (ms.countP (isN a) : Int) + (ms.countP there : Int) - (ms.countP (isN a) : Int) - (ms.countP (isN b) : Int)) = ((2 * ms.countP (isN a) + ms.countP (half2 a b) : Nat) : Int) := by omega
  rw [e]
  have e2 : ((2 * ms.countP (isN a) + ms.countP (half2 a b) : Nat) : Rat) = 2 * (ms.countP (isN a) : Rat) + (ms.countP (half2 a b) : Rat) := by exact_mod_cast rfl
  constructor
  · intro h
    have : (ms.length : Rat) < ((2 * ms.countP (isN a) + ms.countP (half2 a b) : Nat) : Rat) := by rw [e2]; grind
    exact_mod_cast this
  · intro h
    have : (ms.length : Rat) < ((2 * ms.countP (isN a) + ms.countP (half2 a b) : Nat) : Rat) := by exact_mod_cast h
    rw [e2] at this
    grind
theorem holds_over {n : Str} {s : Rat} (hn : n ≠ Str.ofString "?") (he : n ≠ Str.ofString "") (h0 : 0 < s) (ms : List (Option Str)) : holds (.over n s) ms ↔ (ms.length : Int) * s.num < (ms.countP (isN n) : Int) * (s.den : Int) + (ms.countP bare : Int) * s.num := by
  unfold holds
  rw [sum_two (val_over hn he), by_share (p := s.num) (w := (s.den : Int)) h0 (by have := s.den_nz; omega) (num_den s)]
theorem holds_under {n : Str} {s : Rat} (hn : n ≠ Str.ofString "?") (he : n ≠ Str.ofString "") (h1 : s < 1) (ms : List (Option Str)) : holds (.under n s) ms ↔ (ms.length : Int) * ((s.den : Int) - s.num) < ((ms.countP there : Int) - (ms.countP bare : Int) - (ms.countP (isN n) : Int)) * (s.den : Int) + (ms.countP bare : Int) * ((s.den : Int) - s.num) := by
  unfold holds
  have c := cnt_rest hn he ms
  have e : (ms.countP there : Int) - (ms.countP bare : Int) - (ms.countP (isN n) : Int) = (ms.countP (rest n) : Int) := by omega
  rw [e, sum_two (val_under hn he), by_share (p := (s.den : Int) - s.num) (w := (s.den : Int)) (sub_pos h1).1 (by have := s.den_nz; omega) ?_]
  have g := num_den s
  have : (1 - s) * (s.den : Rat) = (s.den : Rat) - (s.num : Rat) := by rw [← g]; grind
  rw [Rat.intCast_sub]
  exact this
/-! marks as data -/
def md : Option Str → PyData
  | none => .none
  | some s => .str s
theorem dp_mv {K : PySem.W.Frag} {H : Hp} (m : Option Str) : Dp K H (mv m) (md m) := by
  cases m with
  | none => exact .non
  | some s => exact .str s
theorem dpAll_mv {K : PySem.W.Frag} {H : Hp} : ∀ ms : List (Option Str), DpAll K H (ms.map mv) (ms.map md)
  | [] => .nil
  | m :: r => .cons (dp_mv m) (dpAll_mv r)
theorem plain_md : ∀ ms : List (Option Str), PyData.plainAll (ms.map md) = true ∧ PyData.depthAll (ms.map md) = 0
  | [] => ⟨by simp [PyData.plainAll], by simp [PyData.depthAll]⟩
  | m :: r => by
    obtain ⟨h1, h2⟩ := plain_md r
    cases m with
    | none => exact ⟨by simp [md, PyData.plainAll, PyData.plain] at *; exact h1, by simp [md, PyData.depthAll, PyData.depth] at *; exact h2⟩
    | some s => exact ⟨by simp [md, PyData.plainAll, PyData.plain] at *; exact h1, by simp [md, PyData.depthAll, PyData.depth] at *; exact h2⟩
theorem eqv_md (m : Option Str) (n : Str) : PyData.eqv (md m) (.str n) = isN n m := by
  cases m with
  | none => simp [md, PyData.eqv, isN]
  | some s => by_cases h : s = n <;> simp [md, PyData.eqv, isN, h]
theorem cnt_md (ms : List (Option Str)) (n : Str) : ((ms.map md).countP fun z => PyData.eqv z (.str n)) = ms.countP (isN n) := by
  rw [List.countP_map]
  congr 1
  funext m
  exact eqv_md m n
/-- count of a name among marks -/
theorem k_cntM {K : PySem.W.Frag} {H : Hp} {Q : VK} {p : Addr} {ms : List (Option Str)} {n : Str} (h : SqL K H p (ms.map mv)) (q : Q (.int (ms.countP (isN n) : Int)) H) : rCntL K (.ref p) [.str n] H Q := by
  obtain ⟨h1, h2⟩ := plain_md ms
  refine k_cntL (.lst h (dpAll_mv ms)) (.str n) h1 rfl (by omega) ?_
  rw [cnt_md]
  exact q
/-- how many of those walked are kept -/
theorem countP_take {P : Option Str → Bool} {ms : List (Option Str)} {i : Nat} {m : Option Str} (h : ms[i]? = some m) : ((ms.take (i + 1)).filter P) = (ms.take i).filter P ++ (if P m = true then [m] else []) := by
  rw [Lw.take_snoc h, List.filter_append]
  by_cases c : P m = true <;> simp [c]
theorem sum_rev : ∀ qs : List Rat, Lw.sum qs.reverse = Lw.sum qs
  | [] => rfl
  | q :: r => by rw [List.reverse_cons, Lw.sum_snoc, sum_rev r, sum_cons, Rat.add_comm]
theorem holds_rev (c : C) (ms : List (Option Str)) : holds c ms.reverse ↔ holds c ms := by
  unfold holds
  rw [List.map_reverse, sum_rev, List.length_reverse]
/-- the claim of a kind -/
def kd (k : Int) (a b : Str) (s : Rat) : C := if k = 0 then .beats a b else if k = 1 then .over a s else if k = 2 then .under a s else .claim
def inN (ns : List Str) (m : Option Str) : Bool := decide (∃ n ∈ ns, m = some n)
theorem cnt_all {P R : Option Str → Bool} : ∀ {ms : List (Option Str)}, (∀ m ∈ ms, (P m = true ↔ R m = false)) → ms.countP P + ms.countP R = ms.length
  | [], _ => rfl
  | m :: r, h => by
    have ih := cnt_all (ms := r) fun x hx => h x (List.mem_cons_of_mem m hx)
    have hm := h m (List.mem_cons_self ..)
    rw [List.countP_cons, List.countP_cons, List.length_cons]
    cases e : P m with
    | true =>
      rw [hm.mp e]
      simp
      omega
    | false =>
      cases e2 : R m with
      | true => simp; omega
      | false => rw [hm.mpr e2] at e; cases e
end Cm
namespace Cm
open PySem PySem.Spec PyProof.Rows L2 Gx
abbrev sh (d : PyData) : Prop := Dt.Sh 0 d
theorem sh_nm {g : Str} (h : Pl.Nm g) : sh (md (some g)) := Dt.sh_str h.ok
end Cm
namespace Al
open PySem PySem.Spec PyProof.Rows L2 Gx
/-- every draw, in order -/
def nx (m : Nat) (b : Bool) (s : List Int) : List (List Int) := ((Dw.rg m).filter fun x => b || !s.contains x).map fun x => s ++ [x]
def al (m : Nat) (b : Bool) : Nat → List (List Int)
  | 0 => [[]]
  | n + 1 => (al m b n).flatMap (nx m b)
def Ok (m : Nat) (b : Bool) (s : List Int) : Prop := (∀ x ∈ s, 0 ≤ x ∧ x < (m : Int)) ∧ (b = false → s.Nodup)
theorem mem_nx {m : Nat} {b : Bool} {s t : List Int} (h : t ∈ nx m b s) : ∃ x, t = s ++ [x] ∧ 0 ≤ x ∧ x < (m : Int) ∧ (b = false → x ∉ s) := by
  unfold nx at h
  obtain ⟨x, hx, rfl⟩ := List.mem_map.mp h
  obtain ⟨h1, h2⟩ := List.mem_filter.mp hx
  obtain ⟨h3, h4⟩ := D24.mem_rg.mp h1
  refine ⟨x, rfl, h3, h4, fun hb => ?_⟩
  subst hb
  simpa using h2
theorem al_ok {m : Nat} {b : Bool} : ∀ {n : Nat} {s : List Int}, s ∈ al m b n → Ok m b s ∧ s.length = n
  | 0, s, h => by
    rw [List.mem_singleton.mp h]
    exact ⟨⟨fun _ h => (nomatch h), fun _ => List.nodup_nil⟩, rfl⟩
  | n + 1, s, h => by
    obtain ⟨t, ht, hs⟩ := List.mem_flatMap.mp h
    obtain ⟨⟨h1, h2⟩, h3⟩ := al_ok ht
    obtain ⟨x, rfl, x0, x1, hx⟩ := mem_nx hs
    refine ⟨⟨fun y hy => ?_, fun hb => ?_⟩, by simp [h3]⟩
    · rcases List.mem_append.mp hy with e | e
      · exact h1 y e
      · rw [List.mem_singleton.mp e]; exact ⟨x0, x1⟩
    · refine List.nodup_append.mpr ⟨h2 hb, by simp, fun a ha c hc e => ?_⟩
      rw [List.mem_singleton.mp hc] at e
      exact hx hb (e ▸ ha)
theorem fil_true {α : Type} (l : List α) : (l.filter fun _ => true) = l := List.filter_eq_self.mpr fun _ _ => rfl
theorem ng_len {m : Nat} : ∀ {k : Nat} {s : List Int}, s.length = k → (∀ x ∈ s, 0 ≤ x ∧ x < (m : Int)) → s.Nodup → (D24.ng s (Dw.rg m)).length + s.length = m
  | 0, s, hk, _, _ => by
    rw [List.length_eq_zero_iff.mp hk]
    simp [D24.ng, fil_true, Dw.rg_len]
  | k + 1, s, hk, h, nd => by
    obtain ⟨t, x, rfl⟩ := Dk.last s (by omega)
    have hx := h x (by simp)
    obtain ⟨b, rfl⟩ := Int.eq_ofNat_of_zero_le hx.1
    have nd2 := List.nodup_append.mp nd
    have hb : (b : Int) ∉ t := fun z => nd2.2.2 _ z _ (by simp) rfl
    have ih := ng_len (k := k) (s := t) (by simpa using hk) (fun y hy => h y (List.mem_append_left _ hy)) nd2.1
    have he := D24.erase_ (g := t) (b := b) (m := m) (n := (D24.ng t (Dw.rg b)).length) (by omega) hb rfl
    have hlt : (D24.ng t (Dw.rg b)).length < (D24.ng t (Dw.rg m)).length := by
      rw [D24.ng_split (show b < m by omega) hb]
      simp
    rw [← he, List.length_eraseIdx, if_pos hlt]
    simp
    omega
theorem nx_len {m : Nat} {b : Bool} {s : List Int} (h : Ok m b s) : ((nx m b s).length : Int) = Cn.fac (m : Int) b s.length := by
  unfold nx Cn.fac
  rw [List.length_map]
  cases b with
  | true => simp [fil_true, Dw.rg_len]
  | false =>
    have := ng_len rfl h.1 (h.2 rfl)
    have e : ((Dw.rg m).filter fun x => false || !s.contains x) = D24.ng s (Dw.rg m) := by simp [D24.ng]
    rw [e]
    simp
    omega
theorem flat_len {f : List Int → List (List Int)} {c : Int} : ∀ {l : List (List Int)}, (∀ s ∈ l, ((f s).length : Int) = c) → ((l.flatMap f).length : Int) = (l.length : Int) * c
  | [], _ => by simp
  | s :: r, h => by
    have ih := flat_len (l := r) fun x hx => h x (List.mem_cons_of_mem s hx)
    have h1 := h s (List.mem_cons_self ..)
    rw [List.flatMap_cons, List.length_append, List.length_cons]
    simp only [Int.natCast_add, ih, h1]
    rw [Int.add_mul]
    omega
theorem al_len {m : Nat} {b : Bool} : ∀ n : Nat, ((al m b n).length : Int) = Cn.cnt (m : Int) b n
  | 0 => rfl
  | n + 1 => by
    show (((al m b n).flatMap (nx m b)).length : Int) = Cn.cnt (m : Int) b n * Cn.fac (m : Int) b n
    rw [flat_len (c := Cn.fac (m : Int) b n) fun s hs => by
      obtain ⟨h1, h2⟩ := al_ok hs
      rw [nx_len h1, h2], al_len n]
def tu (s : List Int) : PyData := .tuple (s.map .int)
theorem fac_pos {m : Nat} {b : Bool} {n : Nat} : 0 ≤ Cn.fac (m : Int) b n := by
  unfold Cn.fac
  cases b
  · simp; omega
  · simp
theorem cnt_nn {m : Nat} {b : Bool} (n : Nat) : 0 ≤ Cn.cnt (m : Int) b n := by rw [← al_len]; omega
theorem cnt_step {m : Nat} {b : Bool} {n : Nat} (h : Cn.cnt (m : Int) b (n + 1) ≠ 0) : Cn.cnt (m : Int) b n ≠ 0 ∧ Cn.cnt (m : Int) b n ≤ Cn.cnt (m : Int) b (n + 1) := by
  have e : Cn.cnt (m : Int) b (n + 1) = Cn.cnt (m : Int) b n * Cn.fac (m : Int) b n := rfl
  have h1 : Cn.cnt (m : Int) b n ≠ 0 := fun z => h (by rw [e, z, Int.zero_mul])
  have h2 : Cn.fac (m : Int) b n ≠ 0 := fun z => h (by rw [e, z, Int.mul_zero])
  have f := fac_pos (m := m) (b := b) (n := n)
  refine ⟨h1, ?_⟩
  rw [e]
  have := Int.mul_le_mul_of_nonneg_left (show (1 : Int) ≤ Cn.fac (m : Int) b n by omega) (cnt_nn (m := m) (b := b) n)
  rw [Int.mul_one] at this
  exact this
theorem cnt_mono {m : Nat} {b : Bool} : ∀ {n i : Nat}, i ≤ n → Cn.cnt (m : Int) b n ≠ 0 → Cn.cnt (m : Int) b i ≤ Cn.cnt (m : Int) b n
  | 0, i, hi, _ => by rw [Nat.le_zero.mp hi]; exact Int.le_refl _
  | n + 1, i, hi, h => by
    by_cases e : i = n + 1
    · rw [e]; exact Int.le_refl _
    · obtain ⟨h1, h2⟩ := cnt_step h
      exact Int.le_trans (cnt_mono (by omega) h1) h2
/-! the numbers that give a draw -/
def numsOf (b : Bool) : List Int → List Int → List Int
  | _, [] => []
  | g, x :: r => (x - ((g.filter fun y => decide (y < x)).length : Int) * (if b then 0 else 1)) :: numsOf b (g ++ [x]) r
theorem nums_snoc {b : Bool} : ∀ {t g : List Int} {x : Int}, numsOf b g (t ++ [x]) = numsOf b g t ++ [x - (((g ++ t).filter fun y => decide (y < x)).length : Int) * (if b then 0 else 1)]
  | [], g, x => by simp [numsOf]
  | y :: r, g, x => by
    have ih := nums_snoc (t := r) (g := g ++ [y]) (x := x) (b := b)
    show _ :: numsOf b (g ++ [y]) (r ++ [x]) = _
    rw [ih]
    simp [numsOf]
theorem nums_len {b : Bool} : ∀ (t g : List Int), (numsOf b g t).length = t.length
  | [], _ => rfl
  | _ :: r, g => congrArg (· + 1) (nums_len r _)
theorem ng_low {g : List Int} {b : Nat} (h : ∀ x ∈ g, 0 ≤ x) (nd : g.Nodup) : (D24.ng g (Dw.rg b)).length + (g.filter fun y => decide (y < (b : Int))).length = b := by
  have e : D24.ng g (Dw.rg b) = D24.ng (g.filter fun y => decide (y < (b : Int))) (Dw.rg b) := by
    unfold D24.ng
    refine List.filter_congr fun x hx => ?_
    have := D24.mem_rg.mp hx
    congr 1
    rw [Bool.eq_iff_iff]
    simp only [List.contains_iff_mem, List.mem_filter, decide_eq_true_eq]
    exact ⟨fun z => ⟨z, this.2⟩, fun z => z.1⟩
  rw [e]
  refine ng_len rfl (fun x hx => ?_) (nd.filter _)
  obtain ⟨h1, h2⟩ := List.mem_filter.mp hx
  exact ⟨h x h1, by simpa using h2⟩
theorem dr_nums {m : Nat} {b : Bool} : ∀ {t g found : List Int}, Ok m b (g ++ t) → Dw.dr b (if b then Dw.rg m else D24.ng g (Dw.rg m)) (numsOf b g t) found = some (found ++ t)
  | [], g, found, _ => by simp [numsOf, Dw.dr]
  | x :: r, g, found, h => by
    have hx := h.1 x (by simp)
    obtain ⟨k, rfl⟩ := Int.eq_ofNat_of_zero_le hx.1
    have h2 : Ok m b ((g ++ [(k : Int)]) ++ r) := by simpa using h
    have ih := dr_nums (t := r) (g := g ++ [(k : Int)]) (found := found ++ [(k : Int)]) h2
    cases b with
    | true =>
      show (if 0 ≤ (k : Int) - _ * 0 ∧ (k : Int) - _ * 0 < ((Dw.rg m).length : Int) then Dw.dr true (Dw.rg m) (numsOf true (g ++ [(k : Int)]) r) (found ++ [(Dw.rg m).getD ((k : Int) - _ * 0).toNat 0]) else none) = _
      have hk : k < m := by omega
      have e : (Dw.rg m).getD k 0 = (k : Int) := by simp [Dw.rg, hk]
      simp only [Int.mul_zero, Int.sub_zero, Int.toNat_natCast]
      rw [if_pos ⟨by omega, by rw [Dw.rg_len]; omega⟩, e]
      have ih' : Dw.dr true (Dw.rg m) (numsOf true (g ++ [(k : Int)]) r) (found ++ [(k : Int)]) = some (found ++ [(k : Int)] ++ r) := ih
      rw [ih']
      simp
    | false =>
      have nd := h.2 rfl
      have nd2 := List.nodup_append.mp nd
      have hk : (k : Int) ∉ g := fun z => nd2.2.2 _ z _ (by simp) rfl
      have low := ng_low (b := k) (fun y hy => (h.1 y (List.mem_append_left _ hy)).1) nd2.1
      have hlt : (D24.ng g (Dw.rg k)).length < (D24.ng g (Dw.rg m)).length := by
        rw [D24.ng_split (show k < m by omega) hk]
        simp
      have en : (k : Int) - ((g.filter fun y => decide (y < (k : Int))).length : Int) * 1 = ((D24.ng g (Dw.rg k)).length : Int) := by omega
      have hat := D24.at_ (m := m) (by omega) hk rfl
      have her := D24.erase_ (m := m) (by omega) hk rfl
      show (if 0 ≤ (k : Int) - ((g.filter fun y => decide (y < (k : Int))).length : Int) * 1 ∧ (k : Int) - ((g.filter fun y => decide (y < (k : Int))).length : Int) * 1 < ((D24.ng g (Dw.rg m)).length : Int) then Dw.dr false ((D24.ng g (Dw.rg m)).eraseIdx ((k : Int) - ((g.filter fun y => decide (y < (k : Int))).length : Int) * 1).toNat) (numsOf false (g ++ [(k : Int)]) r) (found ++ [(D24.ng g (Dw.rg m)).getD ((k : Int) - ((g.filter fun y => decide (y < (k : Int))).length : Int) * 1).toNat 0]) else none) = _
      rw [en, if_pos ⟨by omega, by omega⟩, Int.toNat_natCast, hat, her]
      have ih' : Dw.dr false (D24.ng (g ++ [(k : Int)]) (Dw.rg m)) (numsOf false (g ++ [(k : Int)]) r) (found ++ [(k : Int)]) = some (found ++ [(k : Int)] ++ r) := ih
      rw [ih']
      simp
theorem dr_back {m : Nat} {b : Bool} {s : List Int} (h : Ok m b s) : Dw.dr b (Dw.rg m) (numsOf b [] s) [] = some s := by
  have := dr_nums (g := []) (t := s) (found := []) (m := m) (b := b) (by simpa using h)
  have e : (if b then Dw.rg m else D24.ng [] (Dw.rg m)) = Dw.rg m := by
    cases b
    · simp [D24.ng, fil_true]
    · rfl
  rw [e] at this
  simpa using this
/-! in order -/
theorem lex_app : ∀ {s t u v : List Int}, HT.lexLt s t = true → s.length = t.length → HT.lexLt (s ++ u) (t ++ v) = true
  | [], [], _, _, h, _ => by cases h
  | [], _ :: _, _, _, _, e => by simp at e
  | _ :: _, [], _, _, _, e => by simp at e
  | x :: s, y :: t, u, v, h, e => by
    rw [HT.lexLt_cons] at h
    show HT.lexLt (x :: (s ++ u)) (y :: (t ++ v)) = true
    rw [HT.lexLt_cons]
    by_cases c : x = y
    · rw [if_pos c] at h ⊢
      exact lex_app h (by simpa using e)
    · rw [if_neg c] at h ⊢
      exact h
theorem lex_same {x y : Int} (h : x < y) : ∀ s : List Int, HT.lexLt (s ++ [x]) (s ++ [y]) = true
  | [] => by
    show HT.lexLt [x] [y] = true
    rw [HT.lexLt_cons, if_neg (by omega), decide_eq_true h]
  | z :: s => by
    show HT.lexLt (z :: (s ++ [x])) (z :: (s ++ [y])) = true
    rw [HT.lexLt_cons, if_pos rfl]
    exact lex_same h s
theorem rg_sorted (m : Nat) : (Dw.rg m).Pairwise (· < ·) := by
  unfold Dw.rg
  exact List.pairwise_map.mpr (List.Pairwise.imp (fun h => by exact_mod_cast h) List.pairwise_lt_range)
theorem al_sorted {m : Nat} {b : Bool} : ∀ n : Nat, (al m b n).Pairwise fun s t => HT.lexLt s t = true
  | 0 => List.pairwise_singleton ..
  | n + 1 => by
    refine List.pairwise_flatMap.mpr ⟨fun s _ => ?_, ?_⟩
    · refine List.pairwise_map.mpr (((rg_sorted m).filter _).imp fun h => lex_same h s)
    · refine List.Pairwise.imp_of_mem (fun {s t} hs ht h x hx y hy => ?_) (al_sorted n)
      obtain ⟨u, rfl, _⟩ := mem_nx hx
      obtain ⟨v, rfl, _⟩ := mem_nx hy
      exact lex_app h (by rw [(al_ok hs).2, (al_ok ht).2])
theorem al_lt {m n : Nat} {b : Bool} {k : Nat} {s t : List Int} (hs : (al m b n)[k]? = some s) (ht : (al m b n)[k + 1]? = some t) : HT.lexLt s t = true := by
  obtain ⟨h1, e1⟩ := List.getElem?_eq_some_iff.mp hs
  obtain ⟨h2, e2⟩ := List.getElem?_eq_some_iff.mp ht
  rw [← e1, ← e2]
  exact List.pairwise_iff_getElem.mp (al_sorted n) k (k + 1) h1 h2 (Nat.lt_succ_self k)
theorem sh_tu (s : List Int) : Dt.Sh 1 (tu s) := Dt.sh_tup fun x hx => by
  obtain ⟨z, _, rfl⟩ := List.mem_map.mp hx
  exact Dt.sh_int _
end Al
namespace Ru
open PySem PySem.Spec PyProof.Rows L2 Gx
/-- rules, by what they stake -/
inductive R where
  | none
  | fixed (q : Rat)
  | learn (g : Rat) (w : Nat)
  | told (φ : List Rat → Rat)
def stakeOf : R → List Rat → Rat → Rat → Rat
  | .none, _, _, _ => 0
  | .fixed q, _, _, _ => q
  | .learn g w, qs, x, y => learn g (w : Rat) qs x y
  | .told φ, qs, _, _ => φ qs
/-- of parts of so many bits -/
def Ok (z : Nat) : R → Prop
  | .none => True
  | .fixed q => 0 ≤ q ∧ q ≤ 1 ∧ Fr.Sz z q
  | .learn g w => 0 ≤ g ∧ Fr.Sz 9 g ∧ 1 ≤ w ∧ w ≤ 100
  | .told φ => ∀ qs, 0 ≤ φ qs ∧ φ qs ≤ 1 ∧ Fr.Sz z (φ qs)
theorem nn {a : Rat} (h : ¬ a < 0) : 0 ≤ a := Rat.not_lt.mp h
theorem clip_unit (x : Rat) : 0 ≤ clip x ∧ clip x ≤ 1 := by
  unfold clip
  by_cases c : x < 0
  · rw [if_pos c]; decide +kernel
  · rw [if_neg c]
    by_cases d : 1 < x
    · rw [if_pos d]; decide +kernel
    · rw [if_neg d]; exact ⟨Rat.not_lt.mp c, Rat.not_lt.mp d⟩
theorem clip_id {x : Rat} (h0 : 0 ≤ x) (h1 : x ≤ 1) : clip x = x := by
  unfold clip
  rw [if_neg (Rat.not_lt.mpr h0), if_neg (Rat.not_lt.mpr h1)]
theorem sz0 {n : Nat} (h : 1 ≤ n) : Fr.Sz n 0 := ⟨by show (0 : Int).natAbs < _; exact Nat.two_pow_pos _, by show 1 < 2 ^ n; exact Nat.one_lt_two_pow (by omega)⟩
theorem sz1 {n : Nat} (h : 1 ≤ n) : Fr.Sz n 1 := ⟨by show (1 : Int).natAbs < _; show 1 < 2 ^ n; exact Nat.one_lt_two_pow (by omega), by show 1 < 2 ^ n; exact Nat.one_lt_two_pow (by omega)⟩
theorem clip_sz {n : Nat} {x : Rat} (hn : 1 ≤ n) (h : Fr.Sz n x) : Fr.Sz n (clip x) := by
  unfold clip
  by_cases c : x < 0
  · rw [if_pos c]; exact sz0 hn
  · rw [if_neg c]
    by_cases d : 1 < x
    · rw [if_pos d]; exact sz1 hn
    · rw [if_neg d]; exact h
theorem stake_unit {z : Nat} {r : R} (ok : Ok z r) (qs : List Rat) (x y : Rat) : 0 ≤ stakeOf r qs x y ∧ stakeOf r qs x y ≤ 1 := by
  cases r with
  | none => show (0 : Rat) ≤ 0 ∧ (0 : Rat) ≤ 1; decide +kernel
  | fixed q => exact ⟨ok.1, ok.2.1⟩
  | learn g w =>
    show 0 ≤ learn g w qs x y ∧ learn g w qs x y ≤ 1
    unfold learn
    split
    · exact clip_unit _
    · decide +kernel
  | told φ => exact ⟨(ok qs).1, (ok qs).2.1⟩
/-- how great a stake's parts are: c the sum's bits, m the price's, t the top's -/
theorem stake_sz {z c m t : Nat} {r : R} (ok : Ok z r) {qs : List Rat} {x y : Rat} (hc : Fr.Sz c (Lw.sum qs)) (hm : Fr.Sz m x) (ht : Fr.Sz t y) (hl : qs.length ≤ 62) : Fr.Sz (c + 2 * m + t + z + 40) (stakeOf r qs x y) := by
  cases r with
  | none => exact sz0 (by omega)
  | fixed q => exact ok.2.2.mono (by omega)
  | told φ => exact (ok qs).2.2.mono (by omega)
  | learn g w =>
    obtain ⟨_, sg, w1, w2⟩ := ok
    show Fr.Sz _ (learn g w qs x y)
    unfold learn
    split
    · have e : (w : Rat) + (qs.length : Rat) = ((w + qs.length : Nat) : Rat) := (Rat.natCast_add ..).symm
      have s1 := (szn (n := w) (k := 7) (by omega) (by decide)).mul sg
      have s2 := s1.add hc
      have s3 : Fr.Sz 8 ((w : Rat) + (qs.length : Rat)) := by rw [e]; exact szn (by omega) (by decide)
      have s4 := ((s2.div s3).sub hm).div (ht.sub hm)
      exact clip_sz (by omega) (s4.mono (by omega))
    · exact sz0 (by omega)
end Ru
namespace Gm
open PySem PySem.Spec PyProof.Rows L2 Gx
/-- a game, by what it holds -/
structure S where
  n : Nat
  ag : Bool
  top : Rat
  R : Ru.R
  vals : List Rat
  now : Rat
  most : Rat
  cert : Bool
def init (n : Nat) (ag : Bool) (top : Rat) (r : Ru.R) : S := ⟨n, ag, top, r, [], 1, 1, false⟩
def ended (g : S) : Bool := !g.ag && decide (g.vals.length = g.n)
/-- the price, where the game is alive -/
def price (g : S) : Rat := if g.ag = true then 1/2 else ((g.n : Rat) / 2 - Lw.sum g.vals) / ((g.n - g.vals.length : Nat) : Rat)
def priceO (g : S) : Option Rat := if (g.cert || ended g) = true then none else some (price g)
def stake (g : S) : Rat := Ru.stakeOf g.R g.vals (price g) g.top
def grow (s v p : Rat) : Rat := (1 - s) + s * v / p
def behind (g : S) (v : Rat) : Rat := if price g = 0 then g.now else g.now * grow (stake g) v (price g)
def certBehind (g : S) (v : Rat) : Bool := g.cert || (!g.ag && decide ((g.n : Rat) / 2 < Lw.sum (g.vals ++ [v])))
def play (g : S) (v : Rat) : S := { g with
  vals := g.vals ++ [v]
  now := if g.cert = true then g.now else behind g v
  most := if certBehind g v = true then g.most else if g.most < behind g v then behind g v else g.most
  cert := certBehind g v }
def worthO (g : S) : Option Rat := if g.cert = true then none else some g.now
def reached (g : S) (limit : Rat) : Bool := g.cert || !decide (g.most * limit < 1)
def plays (g : S) (vs : List Rat) : S := vs.foldl play g
theorem plays_snoc (g : S) (vs : List Rat) (v : Rat) : plays g (vs ++ [v]) = play (plays g vs) v := by simp [plays]
theorem plays_vals (g : S) : ∀ vs : List Rat, (plays g vs).vals = g.vals ++ vs := fun vs => by
  induction vs generalizing g with
  | nil => simp [plays]
  | cons v r ih =>
    show (plays (play g v) r).vals = _
    rw [ih]
    show (g.vals ++ [v]) ++ r = _
    simp
theorem plays_n (g : S) : ∀ vs : List Rat, (plays g vs).n = g.n ∧ (plays g vs).ag = g.ag ∧ (plays g vs).top = g.top ∧ (plays g vs).R = g.R := fun vs => by
  induction vs generalizing g with
  | nil => exact ⟨rfl, rfl, rfl, rfl⟩
  | cons v r ih => exact ih (play g v)
/-- what the steps of a play want of sizes -/
structure Fits (g : S) (v : Rat) (b c t z : Nat) : Prop where
  vals : ∀ q ∈ g.vals, Fr.Sz b q
  vz : Fr.Sz b v
  len : g.vals.length ≤ 60
  n : g.n ≤ 60
  sum : Fr.Sz c (Lw.sum g.vals)
  top : Fr.Sz t g.top
  ok : Ru.Ok z g.R
  bb : b ≤ 90
  bc : c ≤ 1000
  bt : t ≤ 200
  bz : z ≤ 1500
  open_ : ended g = false
  few : g.ag = false → g.vals.length ≤ g.n
  live : g.cert = false → ∃ m a w, Fr.Sz m (price g) ∧ Fr.Sz a (stake g) ∧ Fr.Sz w g.now ∧ Fr.Sz w g.most ∧ Fr.Sz w (behind g v) ∧ m ≤ 700 ∧ a ≤ 1500 ∧ w ≤ 100000 ∧ (w + 2 * a + b + m + 3 ≤ 9000 ∨ ((price g ≠ 0 → grow (stake g) v (price g) ≠ 0) ∧ 2 * (2 * a + b + m + 3) ≤ 9000))
theorem Fits.left {g : S} {v : Rat} {b c t z : Nat} (f : Fits g v b c t z) (h : g.ag = false) : g.vals.length ≠ g.n := fun e => by
  have := f.open_
  unfold ended at this
  rw [h, decide_eq_true e] at this
  cases this
end Gm
namespace Gm
open PySem PySem.Spec PyProof.Rows L2 Gx
/-- which of some parts a function tells -/
def nsum (qs : List Rat) : Int := (qs.map fun q => q.num + (q.den : Int)).sum
def num1 (qs : List Rat) : Int := (qs.length : Int) + nsum qs
def num2 (qs : List Rat) : Int := (qs.length : Int) + ((qs.zipIdx.map fun p => ((p.2 : Int) + 1) * (p.1.num + (p.1.den : Int))).sum)
def toldBy (num : List Rat → Int) (ps : List Rat) (qs : List Rat) : Rat := ps.getD (num qs % (ps.length : Int)).toNat 0
theorem told_ok {num : List Rat → Int} {ps : List Rat} {z : Nat} (ne : ps ≠ []) (h : ∀ p ∈ ps, 0 ≤ p ∧ p ≤ 1 ∧ Fr.Sz z p) : Ru.Ok z (.told (toldBy num ps)) := fun qs => by
  have l0 : 0 < ps.length := List.length_pos_iff.mpr ne
  have e0 := Int.emod_nonneg (num qs) (show (ps.length : Int) ≠ 0 by omega)
  have e1 := Int.emod_lt_of_pos (num qs) (show (0 : Int) < ps.length by omega)
  have hi : (num qs % (ps.length : Int)).toNat < ps.length := by omega
  have : toldBy num ps qs = ps[(num qs % (ps.length : Int)).toNat] := by
    unfold toldBy
    rw [List.getD_eq_getElem?_getD, List.getElem?_eq_getElem hi]
    rfl
  rw [this]
  exact h _ (List.getElem_mem hi)
end Gm
namespace Gm
open PySem PySem.Spec PyProof.Rows L2 Gx
/-- a fraction over D -/
def On (D : Nat) (x : Rat) : Prop := ∃ n : Int, x = Rat.divInt n (D : Int)
theorem on_add {D : Nat} (h : 0 < D) {x y : Rat} (hx : On D x) (hy : On D y) : On D (x + y) := by
  obtain ⟨n, rfl⟩ := hx
  obtain ⟨m, rfl⟩ := hy
  refine ⟨n + m, ?_⟩
  rw [Rat.divInt_eq_div, Rat.divInt_eq_div, Rat.divInt_eq_div, Rat.intCast_add]
  grind
theorem on_zero (D : Nat) : On D 0 := ⟨0, (Rat.zero_divInt _).symm⟩
theorem on_sum {D : Nat} (h : 0 < D) : ∀ {qs : List Rat}, (∀ q ∈ qs, On D q) → On D (Lw.sum qs)
  | [], _ => on_zero D
  | q :: r, hq => by
    rw [Cm.sum_cons]
    exact on_add h (hq q (List.mem_cons_self ..)) (on_sum h fun x hx => hq x (List.mem_cons_of_mem _ hx))
theorem nat_pos {n : Nat} (h : 0 < n) : (0 : Rat) < (n : Rat) := by
  have : ((0 : Nat) : Rat) < (n : Rat) := Rat.natCast_lt_natCast.mpr h
  exact this
theorem nat_nn (n : Nat) : (0 : Rat) ≤ (n : Rat) := by
  have : ((0 : Nat) : Rat) ≤ (n : Rat) := Rat.natCast_le_natCast.mpr (Nat.zero_le n)
  exact this
theorem sum_nn : ∀ {qs : List Rat}, (∀ q ∈ qs, 0 ≤ q) → 0 ≤ Lw.sum qs
  | [], _ => Rat.le_refl
  | q :: r, h => by
    rw [Cm.sum_cons]
    have h1 := h q (List.mem_cons_self ..)
    have h2 := sum_nn (qs := r) fun x hx => h x (List.mem_cons_of_mem _ hx)
    grind
theorem sum_le {t : Rat} : ∀ {qs : List Rat}, (∀ q ∈ qs, q ≤ t) → Lw.sum qs ≤ (qs.length : Rat) * t
  | [], _ => by show (0 : Rat) ≤ ((0 : Nat) : Rat) * t; rw [show ((0 : Nat) : Rat) = 0 from rfl, Rat.zero_mul]; exact Rat.le_refl
  | q :: r, h => by
    rw [Cm.sum_cons, List.length_cons, Rat.natCast_add]
    have h1 := h q (List.mem_cons_self ..)
    have h2 := sum_le (qs := r) fun x hx => h x (List.mem_cons_of_mem _ hx)
    have e : ((1 : Nat) : Rat) = 1 := rfl
    rw [e]
    grind
/-- of a fraction over D that is not great: its upper part is not great -/
theorem on_num {D M : Nat} (hD : 0 < D) {n : Int} (h0 : 0 ≤ Rat.divInt n (D : Int)) (h1 : Rat.divInt n (D : Int) * (D : Rat) ≤ (M : Rat)) : 0 ≤ n ∧ n ≤ M := by
  have dp := nat_pos hD
  have e : Rat.divInt n (D : Int) * (D : Rat) = (n : Rat) := by
    rw [Rat.divInt_eq_div]
    have : ((D : Int) : Rat) = (D : Rat) := rfl
    rw [this]
    grind
  constructor
  · have : (0 : Rat) ≤ (n : Rat) := by rw [← e]; exact Rat.mul_nonneg h0 (Rat.le_of_lt dp)
    exact Rat.intCast_le_intCast.mp (show ((0 : Int) : Rat) ≤ (n : Rat) from this)
  · rw [e] at h1
    exact Rat.intCast_le_intCast.mp (show (n : Rat) ≤ ((M : Int) : Rat) from h1)
theorem grow_sz {a b m : Nat} {s v p : Rat} (s0 : 0 ≤ s) (s1 : s ≤ 1) (v0 : 0 ≤ v) (p0 : 0 < p) (hs : Fr.Sz a s) (hv : Fr.Sz b v) (hp : Fr.Sz m p) : Fr.Sz (a + b + m + 1) (grow s v p) := by
  have q0 := Fr.den_pos s
  have d0 := Fr.den_pos v
  have e0 := Fr.den_pos p
  have pn : 0 < p.num := Cm.num_pos p0
  have sn : 0 ≤ s.num := Rat.num_nonneg.mpr s0
  have vn : 0 ≤ v.num := Rat.num_nonneg.mpr v0
  have sq : s.num ≤ s.den := by
    have := Rat.not_lt.mpr s1
    rw [Rat.lt_iff] at this
    simp at this
    omega
  have B0 : 0 < (s.den : Int) * ((v.den : Int) * p.num) := Int.mul_pos q0 (Int.mul_pos d0 pn)
  have e : grow s v p = Rat.divInt (((s.den : Int) - s.num) * ((v.den : Int) * p.num) + s.num * (v.num * (p.den : Int))) ((s.den : Int) * ((v.den : Int) * p.num)) := by
    unfold grow
    have hs' : s = (s.num : Rat) / ((s.den : Int) : Rat) := by rw [← Rat.divInt_eq_div, Rat.num_divInt_den]
    have hv' : v = (v.num : Rat) / ((v.den : Int) : Rat) := by rw [← Rat.divInt_eq_div, Rat.num_divInt_den]
    have hp' : p = (p.num : Rat) / ((p.den : Int) : Rat) := by rw [← Rat.divInt_eq_div, Rat.num_divInt_den]
    have c1 := Ru.cast_pos q0
    have c2 := Ru.cast_pos d0
    have c3 := Ru.cast_pos e0
    have c4 := Ru.cast_pos pn
    rw [Rat.divInt_eq_div]
    simp only [Rat.intCast_add, Rat.intCast_mul, Rat.intCast_sub]
    generalize ((s.den : Int) : Rat) = sd at *
    generalize ((v.den : Int) : Rat) = vd at *
    generalize ((p.den : Int) : Rat) = pd at *
    generalize (s.num : Rat) = sN at *
    generalize (v.num : Rat) = vN at *
    generalize (p.num : Rat) = pN at *
    rw [hs', hv', hp']
    grind
  have l1 : (s.den : Int) < 2 ^ a := by have := hs.2; exact_mod_cast this
  have l2 : (v.den : Int) < 2 ^ b := by have := hv.2; exact_mod_cast this
  have l3 : (p.den : Int) < 2 ^ m := by have := hp.2; exact_mod_cast this
  have l4 : p.num < 2 ^ m := by
    rw [← Int.natAbs_of_nonneg (Int.le_of_lt pn)]
    exact_mod_cast hp.1
  have l5 : v.num < 2 ^ b := by
    rw [← Int.natAbs_of_nonneg vn]
    exact_mod_cast hv.1
  have pa : (0 : Int) < 2 ^ a := Int.pow_pos (by decide)
  have pb : (0 : Int) < 2 ^ b := Int.pow_pos (by decide)
  have pm : (0 : Int) < 2 ^ m := Int.pow_pos (by decide)
  have x1 : (v.den : Int) * p.num ≤ 2 ^ b * 2 ^ m := Int.mul_le_mul (Int.le_of_lt l2) (Int.le_of_lt l4) (Int.le_of_lt pn) (Int.le_of_lt pb)
  have x2 : v.num * (p.den : Int) ≤ 2 ^ b * 2 ^ m := Int.mul_le_mul (Int.le_of_lt l5) (Int.le_of_lt l3) (Int.le_of_lt e0) (Int.le_of_lt pb)
  have xp : (0 : Int) < (v.den : Int) * p.num := Int.mul_pos d0 pn
  have yp : (0 : Int) ≤ v.num * (p.den : Int) := Int.mul_nonneg vn (Int.le_of_lt e0)
  have P : (0 : Int) < 2 ^ b * 2 ^ m := Int.mul_pos pb pm
  have x3 : (s.den : Int) * ((v.den : Int) * p.num) < 2 ^ a * (2 ^ b * 2 ^ m) := Int.lt_of_lt_of_le (Int.mul_lt_mul_of_pos_right l1 xp) (Int.mul_le_mul_of_nonneg_left x1 (Int.le_of_lt pa))
  have x4 : s.num * (v.num * (p.den : Int)) ≤ 2 ^ a * (2 ^ b * 2 ^ m) := Int.mul_le_mul (by omega) x2 yp (Int.le_of_lt pa)
  have x5 : ((s.den : Int) - s.num) * ((v.den : Int) * p.num) ≤ (s.den : Int) * ((v.den : Int) * p.num) := Int.mul_le_mul_of_nonneg_right (by omega) (Int.le_of_lt xp)
  have x6 : 0 ≤ ((s.den : Int) - s.num) * ((v.den : Int) * p.num) := Int.mul_nonneg (by omega) (Int.le_of_lt xp)
  have x7 : 0 ≤ s.num * (v.num * (p.den : Int)) := Int.mul_nonneg sn yp
  have E : (2 : Int) ^ (a + b + m + 1) = 2 * (2 ^ a * (2 ^ b * 2 ^ m)) := by
    rw [Int.pow_succ, Int.pow_add, Int.pow_add, Int.mul_comm _ 2, Int.mul_assoc]
  rw [e]
  have c : ((2 ^ (a + b + m + 1) : Nat) : Int) = (2 : Int) ^ (a + b + m + 1) := by simp
  have Q : (0 : Int) < 2 ^ a * (2 ^ b * 2 ^ m) := Int.mul_pos pa P
  refine Fr.sz_divInt (by omega) ?_ ?_
  · have : ((((s.den : Int) - s.num) * ((v.den : Int) * p.num) + s.num * (v.num * (p.den : Int))).natAbs : Int) < ((2 ^ (a + b + m + 1) : Nat) : Int) := by
      rw [Int.natAbs_of_nonneg (by omega), c, E]
      omega
    exact_mod_cast this
  · have : ((((s.den : Int) * ((v.den : Int) * p.num))).natAbs : Int) < ((2 ^ (a + b + m + 1) : Nat) : Int) := by
      rw [Int.natAbs_of_nonneg (by omega), c, E]
      omega
    exact_mod_cast this
theorem on_value {x : Rat} {q p : Int} (h1 : 1 ≤ p) (h6 : p ≤ 6) : On (60 * x.den) (x * Rat.divInt q p) := by
  obtain ⟨k, hk⟩ : ∃ k : Int, p * k = 60 := by
    have : p = 1 ∨ p = 2 ∨ p = 3 ∨ p = 4 ∨ p = 5 ∨ p = 6 := by omega
    rcases this with rfl | rfl | rfl | rfl | rfl | rfl
    · exact ⟨60, rfl⟩
    · exact ⟨30, rfl⟩
    · exact ⟨20, rfl⟩
    · exact ⟨15, rfl⟩
    · exact ⟨12, rfl⟩
    · exact ⟨10, rfl⟩
  refine ⟨x.num * q * k, ?_⟩
  have kp : k ≠ 0 := fun e => by rw [e] at hk; omega
  have hx : x = Rat.divInt x.num (x.den : Int) := (Rat.num_divInt_den x).symm
  have e : (((60 * x.den : Nat)) : Int) = (x.den : Int) * p * k := by
    rw [Int.mul_assoc, hk]
    simp
    omega
  conv => lhs; rw [hx]
  rw [Rat.divInt_mul_divInt, e]
  exact (Rat.divInt_mul_right kp).symm
/-- a value of a ballot, top the greatest -/
structure Vok (top v : Rat) : Prop where
  nn : 0 ≤ v
  le : v ≤ top
  on : On (60 * top.den) v
  sz : Fr.Sz 8 v
/-- the state of such a game -/
structure Std (g : S) : Prop where
  t0 : 0 < g.top
  ts : Fr.Sz 5 g.top
  ok : Ru.Ok 7 g.R
  n0 : 1 ≤ g.n
  n1 : g.n ≤ 60
  len : g.vals.length ≤ 60
  vals : ∀ v ∈ g.vals, Vok g.top v
  few : g.ag = false → g.vals.length ≤ g.n
  cert : g.cert = (!g.ag && decide ((g.n : Rat) / 2 < Lw.sum g.vals))
  now : g.cert = false → Fr.Sz (132 * g.vals.length + 1) g.now
  most : g.cert = false → Fr.Sz (132 * g.vals.length + 1) g.most
theorem std_init {n : Nat} {ag : Bool} {top : Rat} {r : Ru.R} (t0 : 0 < top) (ts : Fr.Sz 5 top) (ok : Ru.Ok 7 r) (n0 : 1 ≤ n) (n1 : n ≤ 60) : Std (init n ag top r) where
  t0 := t0
  ts := ts
  ok := ok
  n0 := n0
  n1 := n1
  len := Nat.zero_le _
  vals := fun _ h => (nomatch h)
  few := fun _ => Nat.zero_le _
  cert := by
    show false = (!ag && decide ((n : Rat) / 2 < 0))
    have : ¬ (n : Rat) / 2 < 0 := fun z => by have := nat_nn n; grind
    rw [decide_eq_false this]
    simp
  now := fun _ => Ru.sz1 (by omega)
  most := fun _ => Ru.sz1 (by omega)
theorem sum_sz {top : Rat} (ts : Fr.Sz 5 top) {qs : List Rat} (h : ∀ q ∈ qs, Vok top q) (hl : qs.length ≤ 62) : ∃ N : Int, Lw.sum qs = Rat.divInt N ((60 * top.den : Nat) : Int) ∧ 0 ≤ N ∧ N ≤ 115320 := by
  have D0 : 0 < 60 * top.den := Nat.mul_pos (by decide) top.den_pos
  obtain ⟨N, hN⟩ := on_sum D0 fun q hq => (h q hq).on
  have s0 := sum_nn fun q hq => (h q hq).nn
  have s1 := sum_le fun q hq => (h q hq).le
  have dq : top * (top.den : Rat) = (top.num : Rat) := by
    have e : top = (top.num : Rat) / (top.den : Rat) := by
      rw [← Rat.intCast_natCast, ← Rat.divInt_eq_div, Rat.num_divInt_den]
    have dp := nat_pos top.den_pos
    generalize (top.num : Rat) = a at *
    generalize (top.den : Rat) = d at *
    rw [e]
    grind
  have tn : top.num ≤ 31 := by have := ts.1; have h : top.num.natAbs < 32 := this; omega
  have tn' : (top.num : Rat) ≤ 31 := (show (top.num : Rat) ≤ ((31 : Int) : Rat) from Rat.intCast_le_intCast.mpr tn)
  have ln : (qs.length : Rat) ≤ 62 := (show (qs.length : Rat) ≤ ((62 : Nat) : Rat) from Rat.natCast_le_natCast.mpr hl)
  have l0 := nat_nn qs.length
  refine ⟨N, hN, on_num (M := 115320) D0 (by rw [← hN]; exact s0) ?_⟩
  rw [← hN, Rat.natCast_mul]
  have dp := nat_nn top.den
  have e60 : ((60 : Nat) : Rat) = 60 := rfl
  have eM : ((115320 : Nat) : Rat) = 115320 := rfl
  rw [e60, eM]
  have h1 : Lw.sum qs * (60 * (top.den : Rat)) ≤ (qs.length : Rat) * top * (60 * (top.den : Rat)) := Rat.mul_le_mul_of_nonneg_right s1 (by grind)
  have h2 : (qs.length : Rat) * top * (60 * (top.den : Rat)) = 60 * ((qs.length : Rat) * (top.num : Rat)) := by rw [← dq]; grind
  have h3 : (qs.length : Rat) * (top.num : Rat) ≤ (qs.length : Rat) * 31 := Rat.mul_le_mul_of_nonneg_left tn' l0
  grind
theorem sum_sz17 {top : Rat} (ts : Fr.Sz 5 top) {qs : List Rat} (h : ∀ q ∈ qs, Vok top q) (hl : qs.length ≤ 62) : Fr.Sz 17 (Lw.sum qs) := by
  obtain ⟨N, hN, h0, h1⟩ := sum_sz ts h hl
  have td : top.den < 32 := ts.2
  have tp := top.den_pos
  rw [hN]
  exact Fr.sz_divInt (by omega) (by show _ < 131072; omega) (by show _ < 131072; omega)
theorem price_sz {g : S} (s : Std g) (h : ended g = false) : Fr.Sz 18 (price g) := by
  unfold price
  by_cases c : g.ag = true
  · rw [if_pos c]
    have : (1/2 : Rat) = Rat.divInt 1 2 := by rw [Rat.divInt_eq_div]; rfl
    rw [this]
    exact Fr.sz_divInt (by decide) (by decide) (by decide)
  · rw [if_neg c]
    have ca : g.ag = false := by simpa using c
    have few := s.few ca
    have ne : g.vals.length ≠ g.n := fun e => by
      unfold ended at h
      rw [ca, decide_eq_true e] at h
      cases h
    obtain ⟨N, hN, h0, h1⟩ := sum_sz s.ts s.vals (by have := s.len; omega)
    have td : g.top.den < 32 := s.ts.2
    have tp := g.top.den_pos
    have n1 := s.n1
    rw [hN]
    generalize hk : g.n - g.vals.length = k
    have k1 : 1 ≤ k ∧ k ≤ 60 := by omega
    generalize hD : 60 * g.top.den = D
    have D1 : 1 ≤ D ∧ D ≤ 1860 := by omega
    have e : ((g.n : Rat) / 2 - Rat.divInt N (D : Int)) / (k : Rat) = Rat.divInt ((g.n : Int) * (D : Int) - 2 * N) (2 * ((D : Int) * (k : Int))) := by
      rw [Rat.divInt_eq_div, Rat.divInt_eq_div]
      simp only [Rat.intCast_sub, Rat.intCast_mul, Rat.intCast_natCast]
      have c1 := nat_pos (n := D) (by omega)
      have c2 := nat_pos (n := k) (by omega)
      have e2 : ((2 : Int) : Rat) = 2 := rfl
      rw [e2]
      generalize (D : Rat) = d at *
      generalize (k : Rat) = kk at *
      generalize (g.n : Rat) = nn at *
      generalize (N : Rat) = NN at *
      grind
    rw [e]
    have m1 : (g.n : Int) * (D : Int) ≤ 60 * 1860 := Int.mul_le_mul (by omega) (by omega) (by omega) (by decide)
    have m0 : 0 ≤ (g.n : Int) * (D : Int) := Int.mul_nonneg (by omega) (by omega)
    have m2 : (D : Int) * (k : Int) ≤ 1860 * 60 := Int.mul_le_mul (by omega) (by omega) (by omega) (by decide)
    have m3 : 0 < (D : Int) * (k : Int) := Int.mul_pos (by omega) (by omega)
    exact Fr.sz_divInt (by omega) (by show _ < 262144; omega) (by show _ < 262144; omega)
theorem price_nn {g : S} (s : Std g) (h : g.cert = false) (o : ended g = false) : 0 ≤ price g := by
  unfold price
  by_cases c : g.ag = true
  · rw [if_pos c]; decide +kernel
  · rw [if_neg c]
    have ca : g.ag = false := by simpa using c
    have e := s.cert
    rw [h, ca] at e
    have l : ¬ (g.n : Rat) / 2 < Lw.sum g.vals := fun z => by rw [decide_eq_true z] at e; cases e
    have few := s.few ca
    have ne : g.vals.length ≠ g.n := fun e => by
      unfold ended at o
      rw [ca, decide_eq_true e] at o
      cases o
    have kp := nat_pos (n := g.n - g.vals.length) (by omega)
    have a0 : 0 ≤ (g.n : Rat) / 2 - Lw.sum g.vals := by
      have := Rat.not_lt.mp l
      grind
    exact Rat.not_lt.mp fun z => by
      rw [Rat.div_lt_iff kp, Rat.zero_mul] at z
      exact absurd (Std.lt_of_lt_of_le z a0) Rat.lt_irrefl
theorem stake_sz7 {g : S} (s : Std g) (o : ended g = false) : Fr.Sz 105 (stake g) :=
  (Ru.stake_sz s.ok (sum_sz17 s.ts s.vals (by have := s.len; omega)) (price_sz s o) s.ts (by have := s.len; omega)).mono (by decide)
theorem behind_sz {g : S} (s : Std g) (h : g.cert = false) (o : ended g = false) {v : Rat} (hv : Vok g.top v) : Fr.Sz (132 * (g.vals.length + 1) + 1) (behind g v) := by
  unfold behind
  by_cases c : price g = 0
  · rw [if_pos c]; exact (s.now h).mono (by omega)
  · rw [if_neg c]
    have p0 : 0 < price g := by
      have := price_nn s h o
      grind
    have u := Ru.stake_unit s.ok g.vals (price g) g.top
    have z := grow_sz u.1 u.2 hv.nn p0 (stake_sz7 s o) hv.sz (price_sz s o)
    exact ((s.now h).mul z).mono (by omega)
theorem fits {g : S} (s : Std g) (o : ended g = false) (l : g.vals.length < 60) {v : Rat} (hv : Vok g.top v) : Fits g v 8 17 5 7 where
  vals := fun q hq => (s.vals q hq).sz
  vz := hv.sz
  len := s.len
  n := s.n1
  sum := sum_sz17 s.ts s.vals (by omega)
  top := s.ts
  ok := s.ok
  bb := by decide
  bc := by decide
  bt := by decide
  bz := by decide
  open_ := o
  few := s.few
  live := fun h => ⟨18, 105, 132 * (g.vals.length + 1) + 1, price_sz s o, stake_sz7 s o, (s.now h).mono (by omega), (s.most h).mono (by omega), behind_sz s h o hv, by decide, by decide, by omega, by omega⟩
theorem std_play {g : S} (s : Std g) (o : ended g = false) (l : g.vals.length < 60) {v : Rat} (hv : Vok g.top v) : Std (play g v) where
  t0 := s.t0
  ts := s.ts
  ok := s.ok
  n0 := s.n0
  n1 := s.n1
  len := by show (g.vals ++ [v]).length ≤ 60; simp; omega
  vals := fun x hx => by
    rcases List.mem_append.mp (show x ∈ g.vals ++ [v] from hx) with h | h
    · exact s.vals x h
    · rw [List.mem_singleton.mp h]; exact hv
  few := fun e => by
    have e : g.ag = false := e
    have f := s.few e
    show (g.vals ++ [v]).length ≤ g.n
    have ne : g.vals.length ≠ g.n := fun z => by
      unfold ended at o
      rw [e, decide_eq_true z] at o
      cases o
    simp; omega
  cert := by
    show certBehind g v = (!g.ag && decide ((g.n : Rat) / 2 < Lw.sum (g.vals ++ [v])))
    unfold certBehind
    cases ha : g.ag with
    | true =>
      have := s.cert
      rw [ha] at this
      rw [this]; rfl
    | false =>
      cases hc : g.cert with
      | false => rfl
      | true =>
        have e := s.cert
        rw [ha, hc] at e
        have lt : (g.n : Rat) / 2 < Lw.sum g.vals := of_decide_eq_true (by simpa using e.symm)
        have : (g.n : Rat) / 2 < Lw.sum (g.vals ++ [v]) := by
          rw [Lw.sum_snoc]
          have := hv.nn
          grind
        rw [decide_eq_true this]; rfl
  now := fun h => by
    have h : certBehind g v = false := h
    have nc : g.cert = false := by
      unfold certBehind at h
      cases e : g.cert with
      | false => rfl
      | true => rw [e] at h; simp at h
    show Fr.Sz (132 * (g.vals ++ [v]).length + 1) (if g.cert = true then g.now else behind g v)
    rw [if_neg (by rw [nc]; decide), List.length_append, List.length_singleton]
    exact behind_sz s nc o hv
  most := fun h => by
    have h : certBehind g v = false := h
    have nc : g.cert = false := by
      unfold certBehind at h
      cases e : g.cert with
      | false => rfl
      | true => rw [e] at h; simp at h
    show Fr.Sz (132 * (g.vals ++ [v]).length + 1) (if certBehind g v = true then g.most else if g.most < behind g v then behind g v else g.most)
    rw [if_neg (by rw [h]; decide), List.length_append, List.length_singleton]
    split
    · exact behind_sz s nc o hv
    · exact (s.most nc).mono (by omega)
end Gm
namespace Gm
open PySem PySem.Spec PyProof.Rows L2 Gx
theorem mul_den (x : Rat) : x * (x.den : Rat) = (x.num : Rat) := by
  have e : x = (x.num : Rat) / (x.den : Rat) := by rw [← Rat.intCast_natCast, ← Rat.divInt_eq_div, Rat.num_divInt_den]
  have dp := nat_pos x.den_pos
  generalize (x.num : Rat) = a at *
  generalize (x.den : Rat) = d at *
  rw [e]
  grind
theorem half_lt {n : Nat} {x : Rat} : (n : Rat) / 2 < x ↔ (n : Int) * (x.den : Int) < x.num * 2 := by
  have dp := nat_pos x.den_pos
  have dq := mul_den x
  have e : ((n : Int) * (x.den : Int) < x.num * 2) ↔ ((n : Rat) * (x.den : Rat) < (x.num : Rat) * 2) := by
    rw [← Rat.intCast_lt_intCast, Rat.intCast_mul, Rat.intCast_mul, Rat.intCast_natCast, Rat.intCast_natCast]
    rfl
  rw [e, ← dq]
  constructor
  · intro h
    have := Rat.mul_lt_mul_of_pos_right h dp
    grind
  · intro h
    refine Rat.not_le.mp fun z => ?_
    have := Rat.mul_le_mul_of_nonneg_right z (Rat.le_of_lt dp)
    grind
theorem num_neg {x : Rat} : x.num < 0 ↔ x < 0 := by
  rw [← Int.not_le, ← Rat.not_le, Rat.num_nonneg]
/-- what lacks, as a law reckons it -/
theorem priceO_ag {g : S} (s : Std g) (h : g.ag = true) : priceO g = some (1/2) := by
  have e := s.cert
  rw [h] at e
  have e : g.cert = false := e
  unfold priceO ended price
  rw [e, h]
  rfl
theorem priceO_end {g : S} (h : g.ag = false) (e : g.vals.length = g.n) : priceO g = none := by
  unfold priceO ended
  rw [h, decide_eq_true e]
  simp
theorem priceO_cert {g : S} (s : Std g) (h : g.ag = false) (e : (g.n : Rat) / 2 < Lw.sum g.vals) : priceO g = none := by
  have c := s.cert
  rw [h, decide_eq_true e] at c
  unfold priceO
  rw [c]
  simp
theorem priceO_some {g : S} (s : Std g) (h : g.ag = false) (ne : g.vals.length ≠ g.n) (e : ¬ (g.n : Rat) / 2 < Lw.sum g.vals) : priceO g = some (((g.n : Rat) / 2 - Lw.sum g.vals) / ((g.n - g.vals.length : Nat) : Rat)) := by
  have c := s.cert
  rw [h, decide_eq_false e] at c
  unfold priceO ended price
  rw [c, h, decide_eq_false ne]
  rfl
theorem alive_price {g : S} (h : g.cert = false) (o : ended g = false) : priceO g = some (price g) := by
  unfold priceO
  rw [h, o]
  rfl
end Gm
namespace Gm
open PySem PySem.Spec PyProof.Rows L2 Gx
/-- the worths of a game, from its state through some plays -/
def worths (g : S) : List Rat → List (Option Rat)
  | [] => [worthO g]
  | v :: r => worthO g :: worths (play g v) r
/-- of a worth: whether it reaches a limit -/
def atLim (x : Rat) : Option Rat → Bool
  | none => true
  | some q => !decide (q * x < 1)
theorem worths_len (g : S) : ∀ vs : List Rat, (worths g vs).length = vs.length + 1 := fun vs => by
  induction vs generalizing g with
  | nil => rfl
  | cons v r ih =>
    show (worths (play g v) r).length + 1 = r.length + 1 + 1
    rw [ih]
theorem worths_snoc (g : S) (vs : List Rat) (v : Rat) : worths g (vs ++ [v]) = worths g vs ++ [worthO (plays g (vs ++ [v]))] := by
  induction vs generalizing g with
  | nil => rfl
  | cons x r ih =>
    show worthO g :: worths (play g x) (r ++ [v]) = worthO g :: worths (play g x) r ++ [worthO (plays (play g x) (r ++ [v]))]
    rw [ih]
    rfl
theorem worths_take (g : S) (vs : List Rat) (k : Nat) (h : k ≤ vs.length) : (worths g vs).take (k + 1) = worths g (vs.take k) := by
  induction vs generalizing g k with
  | nil =>
    have : k = 0 := by simpa using h
    subst this
    rfl
  | cons x r ih =>
    cases k with
    | zero => rfl
    | succ k =>
      show worthO g :: (worths (play g x) r).take (k + 1) = worthO g :: worths (play g x) (r.take k)
      rw [ih _ _ (by simpa using h)]
theorem worths_last (g : S) (vs : List Rat) : (worths g vs)[vs.length]? = some (worthO (plays g vs)) := by
  induction vs generalizing g with
  | nil => rfl
  | cons x r ih => exact ih (play g x)
theorem reached_play {g : S} {v x : Rat} (h : 0 ≤ x) : reached (play g v) x = (reached g x || atLim x (worthO (play g v))) := by
  cases e : certBehind g v with
  | true =>
    have : worthO (play g v) = none := if_pos e
    rw [this]
    have c : (play g v).cert = true := e
    unfold reached
    rw [c]
    simp [atLim]
  | false =>
    have nc : g.cert = false := by
      unfold certBehind at e
      cases d : g.cert with
      | false => rfl
      | true => rw [d] at e; simp at e
    have c : (play g v).cert = false := e
    have w : worthO (play g v) = some (behind g v) := by
      show (if certBehind g v = true then none else some (if g.cert = true then g.now else behind g v)) = _
      rw [if_neg (by rw [e]; decide), if_neg (by rw [nc]; decide)]
    have m : (play g v).most = if g.most < behind g v then behind g v else g.most := by
      show (if certBehind g v = true then g.most else if g.most < behind g v then behind g v else g.most) = _
      rw [if_neg (by rw [e]; decide)]
    unfold reached
    rw [c, nc, w, m]
    show (false || !decide _) = ((false || !decide _) || !decide _)
    simp only [Bool.false_or]
    generalize behind g v = b
    by_cases lt : g.most < b
    · rw [if_pos lt]
      have : g.most * x ≤ b * x := Rat.mul_le_mul_of_nonneg_right (Rat.le_of_lt lt) h
      by_cases d : b * x < 1
      · rw [decide_eq_true d, decide_eq_true (Std.lt_of_le_of_lt this d)]; rfl
      · rw [decide_eq_false d]; simp
    · rw [if_neg lt]
      have : b * x ≤ g.most * x := Rat.mul_le_mul_of_nonneg_right (Rat.not_lt.mp lt) h
      by_cases d : g.most * x < 1
      · rw [decide_eq_true d, decide_eq_true (Std.lt_of_le_of_lt this d)]; rfl
      · rw [decide_eq_false d]; simp
theorem reached_worths {x : Rat} (h : 0 ≤ x) (vs : List Rat) : ∀ (g : S), (atLim x (worthO g) = true → reached g x = true) → reached (plays g vs) x = (reached g x || (worths g vs).any (atLim x)) := by
  induction vs with
  | nil =>
    intro g hg
    show reached g x = (reached g x || (atLim x (worthO g) || false))
    cases e : atLim x (worthO g) with
    | true => rw [hg e]; rfl
    | false => simp
  | cons v r ih =>
    intro g hg
    show reached (plays (play g v) r) x = (reached g x || (atLim x (worthO g) || (worths (play g v) r).any (atLim x)))
    have e1 := reached_play (g := g) (v := v) h
    rw [ih (play g v) (fun z => by rw [e1, z]; simp)]
    rw [e1]
    have hd : ∀ (g : S) (vs : List Rat), atLim x (worthO g) = true → (worths g vs).any (atLim x) = true := fun g vs z => by
      cases vs with
      | nil => show (atLim x (worthO g) || false) = true; rw [z]; rfl
      | cons _ _ => show (atLim x (worthO g) || _) = true; rw [z]; rfl
    cases e : atLim x (worthO g) with
    | true => rw [hg e]; simp
    | false =>
      cases e2 : atLim x (worthO (play g v)) with
      | true => rw [hd _ r e2]; simp
      | false => simp
theorem reached_init {x : Rat} (h : 0 ≤ x) (n : Nat) (ag : Bool) (top : Rat) (r : Ru.R) (vs : List Rat) : reached (plays (init n ag top r) vs) x = (worths (init n ag top r) vs).any (atLim x) := by
  have e : reached (init n ag top r) x = atLim x (worthO (init n ag top r)) := rfl
  rw [reached_worths h vs _ (fun z => by rw [e]; exact z), e]
  cases vs with
  | nil => show (atLim x _ || (atLim x _ || false)) = (atLim x _ || false); simp
  | cons v t =>
    show (atLim x _ || (atLim x _ || _)) = (atLim x _ || _)
    cases atLim x (worthO (init n ag top r)) <;> simp
theorem atLim_some {q x : Rat} : decide (q.den * x.den ≤ q.num * x.num) = atLim x (some q) := by
  show _ = !decide (q * x < 1)
  have e : (q * x < 1) ↔ (q.num * x.num < (q.den : Int) * (x.den : Int)) := by
    rw [← Fr.mul_eq, Rat.divInt_eq_div]
    have d : (0 : Int) < (q.den : Int) * (x.den : Int) := Int.mul_pos (Fr.den_pos q) (Fr.den_pos x)
    rw [Rat.div_lt_iff (Ru.cast_pos d), Rat.one_mul, Rat.intCast_lt_intCast]
  by_cases c : q * x < 1
  · rw [decide_eq_true c, decide_eq_false (by have := e.mp c; omega)]; rfl
  · rw [decide_eq_false c, decide_eq_true (Int.not_lt.mp fun z => c (e.mpr z))]; rfl
theorem divInt_nn {a b : Int} (h0 : 0 ≤ a) (h1 : 0 < b) : 0 ≤ Rat.divInt a b := by
  rw [Rat.divInt_eq_div]
  exact Rat.not_lt.mp fun z => by
    rw [Rat.div_lt_iff (Ru.cast_pos h1), Rat.zero_mul] at z
    exact absurd (Std.lt_of_lt_of_le z (Ru.cast_nn h0)) Rat.lt_irrefl
/-- nobody stands outside what a game allows -/
theorem std_plays {g : S} : ∀ (vs : List Rat), Std g → (∀ v ∈ vs, Vok g.top v) → (g.ag = false → g.vals.length + vs.length ≤ g.n) → g.vals.length + vs.length ≤ 60 → Std (plays g vs) := fun vs => by
  induction vs generalizing g with
  | nil => intro s _ _ _; exact s
  | cons v r ih =>
    intro s hv hn hl
    simp only [List.length_cons] at hn hl
    have o : ended g = false := by
      unfold ended
      cases ha : g.ag with
      | true => rfl
      | false =>
        have := hn ha
        rw [decide_eq_false (by omega)]
        rfl
    have pl : (play g v).vals.length = g.vals.length + 1 := by show (g.vals ++ [v]).length = _; simp
    refine ih (g := play g v) (std_play s o (by omega) (hv v (List.mem_cons_self ..))) (fun x hx => hv x (List.mem_cons_of_mem _ hx)) (fun ha => ?_) (by rw [pl]; omega)
    have := hn ha
    rw [pl]
    show _ ≤ g.n
    omega
theorem worths_sz {g : S} {vs : List Rat} {q : Rat} (s : Std g) (hv : ∀ v ∈ vs, Vok g.top v) (hn : g.ag = false → g.vals.length + vs.length ≤ g.n) (hl : g.vals.length + vs.length ≤ 60) (h : some q ∈ worths g vs) : Fr.Sz 9000 q := by
  have one : ∀ {g : S}, Std g → some q = worthO g → Fr.Sz 9000 q := fun {g} s e => by
    cases c : g.cert with
    | true => rw [show worthO g = none from if_pos c] at e; cases e
    | false =>
      rw [show worthO g = some g.now from if_neg (by rw [c]; decide)] at e
      cases e
      have := s.len
      exact (s.now c).mono (by omega)
  induction vs generalizing g with
  | nil => exact one s (List.mem_singleton.mp h)
  | cons v r ih =>
    rcases List.mem_cons.mp h with e | h
    · exact one s e
    · have e : plays g [v] = play g v := rfl
      have s' := std_plays [v] s (fun x hx => hv x (by rw [List.mem_singleton.mp hx]; exact List.mem_cons_self ..)) (fun ha => by have := hn ha; simp at this ⊢; omega) (by simp at hl ⊢; omega)
      rw [e] at s'
      have pl : (play g v).vals.length = g.vals.length + 1 := by show (g.vals ++ [v]).length = _; simp
      simp only [List.length_cons] at hn hl
      exact ih s' (fun x hx => hv x (List.mem_cons_of_mem _ hx)) (fun ha => by have := hn ha; rw [pl]; show _ ≤ g.n; omega) (by rw [pl]; omega) h
end Gm
namespace Lw
open PySem PySem.Spec PyProof.Rows L2 Gx
theorem Fqs.append {K : PySem.W.Frag} {H : Hp} : ∀ {vs us : List V} {qs rs : List Rat}, Fqs K H vs qs → Fqs K H us rs → Fqs K H (vs ++ us) (qs ++ rs)
  | _, _, _, _, .nil, b => b
  | _, _, _, _, .cons a r, b => .cons a (Fqs.append r b)
theorem Fqs.reverse {K : PySem.W.Frag} {H : Hp} : ∀ {vs : List V} {qs : List Rat}, Fqs K H vs qs → Fqs K H vs.reverse qs.reverse
  | _, _, .nil => .nil
  | _, _, .cons a r => by
    rw [List.reverse_cons, List.reverse_cons]
    exact Fqs.append (Fqs.reverse r) (.cons a .nil)
theorem sum_rev : ∀ qs : List Rat, sum qs.reverse = sum qs
  | [] => rfl
  | q :: r => by
    rw [List.reverse_cons, sum_snoc, sum_rev r]
    show _ = (q :: r).foldl (· + ·) 0
    rw [List.foldl_cons, foldl_add, Rat.zero_add, Rat.add_comm]
theorem Fqs.set {K : PySem.W.Frag} {H : Hp} {p : Addr} {q : Rat} (h : SqT K H p (Fr.fq q)) : ∀ (j : Nat) {vs : List V} {qs : List Rat}, Fqs K H vs qs → Fqs K H (vs.set j (.ref p)) (qs.set j q)
  | _, _, _, .nil => .nil
  | 0, _, _, .cons _ r => .cons ⟨p, rfl, h⟩ r
  | j + 1, _, _, .cons a r => .cons a (Fqs.set h j r)
theorem sum_none : ∀ {qs : List Rat}, (∀ i, qs.getD i 0 = 0) → sum qs = 0
  | [], _ => rfl
  | q :: r, h => by
    have h0 : q = 0 := h 0
    have h1 := sum_none (qs := r) fun i => h (i + 1)
    show (q :: r).foldl (· + ·) 0 = 0
    rw [List.foldl_cons, foldl_add, h1, h0, Rat.add_zero, Rat.add_zero]
end Lw
namespace Gg
open PySem PySem.Spec PyProof.Rows L2 Gx Gm
/-- how great the parts of a game are: of the common lower part d bits, of the top t, of the values v, of the rule z; L plays at most -/
structure Par where
  d : Nat
  t : Nat
  v : Nat
  z : Nat
  L : Nat
  pos : Bool := false
def Par.c (p : Par) : Nat := p.d + p.t + 6
def Par.m (p : Par) : Nat := p.d + p.t + 9
def Par.a (p : Par) : Nat := p.c + 2 * p.m + p.t + p.z + 40
def Par.s (p : Par) : Nat := p.a + p.v + p.m + 1
structure Par.Ok (p : Par) : Prop where
  v90 : p.v ≤ 90
  c1 : p.c ≤ 1000
  t2 : p.t ≤ 200
  z1 : p.z ≤ 1500
  m7 : p.m ≤ 700
  a1 : p.a ≤ 1500
  w8 : p.s * p.L + 1 ≤ 90000
  all : p.s * p.L + 1 + 2 * p.a + p.v + p.m + 3 ≤ 9000 ∨ (p.pos = true ∧ 2 * (2 * p.a + p.v + p.m + 3) ≤ 9000)
  L60 : p.L ≤ 60
/-- a value of a ballot -/
structure Vok (p : Par) (D : Nat) (top v : Rat) : Prop where
  nn : 0 ≤ v
  le : v ≤ top
  on : On D v
  sz : Fr.Sz p.v v
  ps : p.pos = true → 0 < v
structure Std (p : Par) (D : Nat) (g : S) : Prop where
  pk : p.Ok
  D0 : 0 < D
  Dd : D < 2 ^ p.d
  t0 : 0 < g.top
  ts : Fr.Sz p.t g.top
  ok : Ru.Ok p.z g.R
  n0 : 1 ≤ g.n
  n1 : g.n ≤ 60
  len : g.vals.length ≤ p.L
  vals : ∀ v ∈ g.vals, Vok p D g.top v
  few : g.ag = false → g.vals.length ≤ g.n
  cert : g.cert = (!g.ag && decide ((g.n : Rat) / 2 < Lw.sum g.vals))
  now : g.cert = false → Fr.Sz (p.s * g.vals.length + 1) g.now
  most : g.cert = false → Fr.Sz (p.s * g.vals.length + 1) g.most
  nn : 0 ≤ g.now
theorem std_init {p : Par} {D n : Nat} {ag : Bool} {top : Rat} {r : Ru.R} (pk : p.Ok) (D0 : 0 < D) (Dd : D < 2 ^ p.d) (t0 : 0 < top) (ts : Fr.Sz p.t top) (ok : Ru.Ok p.z r) (n0 : 1 ≤ n) (n1 : n ≤ 60) : Std p D (init n ag top r) where
  pk := pk
  D0 := D0
  Dd := Dd
  t0 := t0
  ts := ts
  ok := ok
  n0 := n0
  n1 := n1
  len := Nat.zero_le _
  vals := fun _ h => (nomatch h)
  few := fun _ => Nat.zero_le _
  cert := by
    show false = (!ag && decide ((n : Rat) / 2 < 0))
    have : ¬ (n : Rat) / 2 < 0 := fun z => by have := nat_nn n; grind
    rw [decide_eq_false this]
    simp
  now := fun _ => Ru.sz1 (by omega)
  most := fun _ => Ru.sz1 (by omega)
  nn := by show (0 : Rat) ≤ 1; decide +kernel
theorem sum_on {p : Par} {D : Nat} {top : Rat} (D0 : 0 < D) (Dd : D < 2 ^ p.d) (ts : Fr.Sz p.t top) {qs : List Rat} (h : ∀ q ∈ qs, Vok p D top q) (hl : qs.length ≤ 62) : ∃ N : Int, Lw.sum qs = Rat.divInt N (D : Int) ∧ 0 ≤ N ∧ N < 2 ^ p.c := by
  obtain ⟨N, hN⟩ := on_sum D0 fun q hq => (h q hq).on
  have s0 := sum_nn fun q hq => (h q hq).nn
  have s1 := sum_le fun q hq => (h q hq).le
  have tn : top.num.natAbs < 2 ^ p.t := ts.1
  have t1 : top ≤ ((top.num.natAbs : Nat) : Rat) := by
    have e := Gm.mul_den top
    have dp := nat_pos top.den_pos
    have d1 : (1 : Rat) ≤ (top.den : Rat) := by
      have : ((1 : Nat) : Rat) ≤ (top.den : Rat) := Rat.natCast_le_natCast.mpr top.den_pos
      exact this
    have n1 : (top.num : Rat) ≤ ((top.num.natAbs : Nat) : Rat) := by
      have : (top.num : Rat) ≤ (((top.num.natAbs : Nat) : Int) : Rat) := Rat.intCast_le_intCast.mpr (by omega)
      exact this
    have nn := nat_nn top.num.natAbs
    rcases Classical.em (top ≤ 0) with z | z
    · grind
    · have z : 0 < top := Rat.not_le.mp z
      have : top * 1 ≤ top * (top.den : Rat) := Rat.mul_le_mul_of_nonneg_left d1 (Rat.le_of_lt z)
      grind
  have ln : (qs.length : Rat) ≤ 62 := (show (qs.length : Rat) ≤ ((62 : Nat) : Rat) from Rat.natCast_le_natCast.mpr hl)
  have l0 := nat_nn qs.length
  have up : Lw.sum qs * (D : Rat) ≤ ((62 * top.num.natAbs * D : Nat) : Rat) := by
    rw [Rat.natCast_mul, Rat.natCast_mul]
    have dp := nat_nn D
    have m1 : (qs.length : Rat) * top ≤ (qs.length : Rat) * ((top.num.natAbs : Nat) : Rat) := Rat.mul_le_mul_of_nonneg_left t1 l0
    have m2 : (qs.length : Rat) * ((top.num.natAbs : Nat) : Rat) ≤ 62 * ((top.num.natAbs : Nat) : Rat) := Rat.mul_le_mul_of_nonneg_right ln (nat_nn _)
    have e : ((62 : Nat) : Rat) = 62 := rfl
    rw [e]
    exact Rat.mul_le_mul_of_nonneg_right (by grind) dp
  obtain ⟨N0, N1⟩ := on_num (M := 62 * top.num.natAbs * D) D0 (by rw [← hN]; exact s0) (by rw [← hN]; exact up)
  refine ⟨N, hN, N0, ?_⟩
  have b1 : 62 * top.num.natAbs * D < 2 ^ p.c := by
    have x1 : top.num.natAbs * D < 2 ^ p.t * 2 ^ p.d := Nat.mul_lt_mul'' tn Dd
    have x2 : 2 ^ p.c = 64 * (2 ^ p.t * 2 ^ p.d) := by
      unfold Par.c
      rw [Nat.pow_add, Nat.pow_add, Nat.mul_comm (2 ^ p.d), Nat.mul_comm]
    rw [x2, Nat.mul_assoc]
    have : 0 < 2 ^ p.t * 2 ^ p.d := Nat.mul_pos (Nat.two_pow_pos _) (Nat.two_pow_pos _)
    omega
  have b2 : ((2 ^ p.c : Nat) : Int) = (2 : Int) ^ p.c := by simp
  rw [← b2]
  omega
theorem sum_sz {p : Par} {D : Nat} {top : Rat} (D0 : 0 < D) (Dd : D < 2 ^ p.d) (ts : Fr.Sz p.t top) {qs : List Rat} (h : ∀ q ∈ qs, Vok p D top q) (hl : qs.length ≤ 62) : Fr.Sz p.c (Lw.sum qs) := by
  obtain ⟨N, hN, h0, h1⟩ := sum_on D0 Dd ts h hl
  rw [hN]
  have b2 : ((2 ^ p.c : Nat) : Int) = (2 : Int) ^ p.c := by simp
  refine Fr.sz_divInt (by omega) (by rw [← b2] at h1; omega) ?_
  rw [Int.natAbs_natCast]
  exact Nat.lt_of_lt_of_le Dd (Fr.pw (by unfold Par.c; omega))
theorem price_sz {p : Par} {D : Nat} {g : S} (s : Std p D g) (h : ended g = false) : Fr.Sz p.m (price g) := by
  unfold price
  by_cases c : g.ag = true
  · rw [if_pos c]
    have : (1/2 : Rat) = Rat.divInt 1 2 := by rw [Rat.divInt_eq_div]; rfl
    rw [this]
    have h4 : (4 : Nat) ≤ 2 ^ p.m := Fr.pw (a := 2) (by unfold Par.m; omega)
    exact Fr.sz_divInt (by decide) (by show 1 < 2 ^ p.m; omega) (by show 2 < 2 ^ p.m; omega)
  · rw [if_neg c]
    have ca : g.ag = false := by simpa using c
    have few := s.few ca
    have ne : g.vals.length ≠ g.n := fun e => by
      unfold ended at h
      rw [ca, decide_eq_true e] at h
      cases h
    have L60 := s.pk.L60
    have D0 := s.D0
    have Dd := s.Dd
    obtain ⟨N, hN, h0, h1⟩ := sum_on s.D0 s.Dd s.ts s.vals (by have := s.len; omega)
    have n1 := s.n1
    rw [hN]
    generalize hk : g.n - g.vals.length = k
    have k1 : 1 ≤ k ∧ k ≤ 60 := by omega
    have e : ((g.n : Rat) / 2 - Rat.divInt N (D : Int)) / (k : Rat) = Rat.divInt ((g.n : Int) * (D : Int) - 2 * N) (2 * ((D : Int) * (k : Int))) := by
      rw [Rat.divInt_eq_div, Rat.divInt_eq_div]
      simp only [Rat.intCast_sub, Rat.intCast_mul, Rat.intCast_natCast]
      have c1 := nat_pos (n := D) (by omega)
      have c2 := nat_pos (n := k) (by omega)
      have e2 : ((2 : Int) : Rat) = 2 := rfl
      rw [e2]
      generalize (D : Rat) = d at *
      generalize (k : Rat) = kk at *
      generalize (g.n : Rat) = nn at *
      generalize (N : Rat) = NN at *
      grind
    rw [e]
    have b2 : ((2 ^ p.c : Nat) : Int) = (2 : Int) ^ p.c := by simp
    rw [← b2] at h1
    have pm : 2 ^ p.m = 8 * 2 ^ p.c := by unfold Par.m Par.c; rw [show p.d + p.t + 9 = (p.d + p.t + 6) + 3 by omega, Nat.pow_add, Nat.mul_comm]
    have pd : 64 * 2 ^ p.d ≤ 2 ^ p.c := by
      unfold Par.c
      rw [show p.d + p.t + 6 = p.d + 6 + p.t by omega, Nat.pow_add, Nat.pow_add]
      have : 1 ≤ 2 ^ p.t := Nat.one_le_two_pow
      have : 2 ^ p.d * 2 ^ 6 * 1 ≤ 2 ^ p.d * 2 ^ 6 * 2 ^ p.t := Nat.mul_le_mul_left _ this
      omega
    have m1 : (g.n : Int) * (D : Int) ≤ 60 * (D : Int) := Int.mul_le_mul_of_nonneg_right (by omega) (by omega)
    have m0 : 0 ≤ (g.n : Int) * (D : Int) := Int.mul_nonneg (by omega) (by omega)
    have m2 : (D : Int) * (k : Int) ≤ (D : Int) * 60 := Int.mul_le_mul_of_nonneg_left (by omega) (by omega)
    have m3 : 0 < (D : Int) * (k : Int) := Int.mul_pos (by omega) (by omega)
    have dd : (D : Int) < ((2 ^ p.d : Nat) : Int) := by omega
    refine Fr.sz_divInt (by omega) ?_ ?_
    · omega
    · omega
theorem price_nn {p : Par} {D : Nat} {g : S} (s : Std p D g) (h : g.cert = false) (o : ended g = false) : 0 ≤ price g := by
  unfold price
  by_cases c : g.ag = true
  · rw [if_pos c]; decide +kernel
  · rw [if_neg c]
    have ca : g.ag = false := by simpa using c
    have e := s.cert
    rw [h, ca] at e
    have l : ¬ (g.n : Rat) / 2 < Lw.sum g.vals := fun z => by rw [decide_eq_true z] at e; cases e
    have few := s.few ca
    have ne : g.vals.length ≠ g.n := fun e => by
      unfold ended at o
      rw [ca, decide_eq_true e] at o
      cases o
    have kp := nat_pos (n := g.n - g.vals.length) (by omega)
    have a0 : 0 ≤ (g.n : Rat) / 2 - Lw.sum g.vals := by
      have := Rat.not_lt.mp l
      grind
    exact Rat.not_lt.mp fun z => by
      rw [Rat.div_lt_iff kp, Rat.zero_mul] at z
      exact absurd (Std.lt_of_lt_of_le z a0) Rat.lt_irrefl
theorem stake_sz {p : Par} {D : Nat} {g : S} (s : Std p D g) (o : ended g = false) : Fr.Sz p.a (stake g) :=
  (Ru.stake_sz s.ok (sum_sz s.D0 s.Dd s.ts s.vals (by have := s.len; have := s.pk.L60; omega)) (price_sz s o) s.ts (by have := s.len; have := s.pk.L60; omega)).mono (by unfold Par.a; omega)
theorem behind_sz {p : Par} {D : Nat} {g : S} (s : Std p D g) (h : g.cert = false) (o : ended g = false) {v : Rat} (hv : Vok p D g.top v) : Fr.Sz (p.s * (g.vals.length + 1) + 1) (behind g v) := by
  have e : p.s * (g.vals.length + 1) = p.s * g.vals.length + p.s := Nat.mul_succ ..
  unfold behind
  by_cases c : price g = 0
  · rw [if_pos c]; exact (s.now h).mono (by omega)
  · rw [if_neg c]
    have p0 : 0 < price g := by
      have := price_nn s h o
      grind
    have u := Ru.stake_unit s.ok g.vals (price g) g.top
    have z := grow_sz u.1 u.2 hv.nn p0 (stake_sz s o) hv.sz (price_sz s o)
    exact ((s.now h).mul z).mono (by unfold Par.s at e ⊢; omega)
theorem behind_nn {p : Par} {D : Nat} {g : S} (s : Std p D g) (h : g.cert = false) (o : ended g = false) {v : Rat} (hv : Vok p D g.top v) : 0 ≤ behind g v := by
  unfold behind
  by_cases c : price g = 0
  · rw [if_pos c]; exact s.nn
  · rw [if_neg c]
    have p0 : 0 < price g := by
      have := price_nn s h o
      grind
    have u := Ru.stake_unit s.ok g.vals (price g) g.top
    refine Rat.mul_nonneg s.nn ?_
    unfold grow
    have x1 : 0 ≤ 1 - stake g := by have := u.2; unfold stake; grind
    have x2 : 0 ≤ stake g * v / price g := by
      rw [Rat.div_def]
      exact Rat.mul_nonneg (Rat.mul_nonneg u.1 hv.nn) (Rat.le_of_lt (Rat.inv_pos.mpr p0))
    grind
theorem grow_ne {s v p : Rat} (s0 : 0 ≤ s) (s1 : s ≤ 1) (v0 : 0 < v) (p0 : 0 < p) : grow s v p ≠ 0 := fun z => by
  unfold grow at z
  have ip := Rat.inv_pos.mpr p0
  rw [Rat.div_def] at z
  have h1 : 0 ≤ s * v * p⁻¹ := Rat.mul_nonneg (Rat.mul_nonneg s0 (Rat.le_of_lt v0)) (Rat.le_of_lt ip)
  have e1 : s = 1 := by grind
  rw [e1, Rat.one_mul] at z
  have h2 : 0 < v * p⁻¹ := Rat.mul_pos v0 ip
  grind
theorem step_le {p : Par} {n : Nat} (h : n ≤ p.L) : p.s * n ≤ p.s * p.L := Nat.mul_le_mul_left _ h
theorem fits {p : Par} {D : Nat} {g : S} (s : Std p D g) (o : ended g = false) (l : g.vals.length < p.L) {v : Rat} (hv : Vok p D g.top v) : Fits g v p.v p.c p.t p.z where
  vals := fun q hq => (s.vals q hq).sz
  vz := hv.sz
  len := by have := s.pk.L60; omega
  n := s.n1
  sum := sum_sz s.D0 s.Dd s.ts s.vals (by have := s.pk.L60; omega)
  top := s.ts
  ok := s.ok
  bb := s.pk.v90
  bc := s.pk.c1
  bt := s.pk.t2
  bz := s.pk.z1
  open_ := o
  few := s.few
  live := fun h => by
    have e1 := step_le (p := p) (n := g.vals.length + 1) (by omega)
    have e2 : p.s * g.vals.length ≤ p.s * (g.vals.length + 1) := Nat.mul_le_mul_left _ (by omega)
    have := s.pk.w8
    have all := s.pk.all
    refine ⟨p.m, p.a, p.s * (g.vals.length + 1) + 1, price_sz s o, stake_sz s o, (s.now h).mono (by omega), (s.most h).mono (by omega), behind_sz s h o hv, s.pk.m7, s.pk.a1, by omega, ?_⟩
    rcases all with a9 | ⟨ps, a9⟩
    · exact .inl (by omega)
    · refine .inr ⟨fun c => ?_, a9⟩
      have p0 : 0 < price g := by
        have := price_nn s h o
        grind
      have u := Ru.stake_unit s.ok g.vals (price g) g.top
      exact grow_ne u.1 u.2 (hv.ps ps) p0
theorem std_play {p : Par} {D : Nat} {g : S} (s : Std p D g) (o : ended g = false) (l : g.vals.length < p.L) {v : Rat} (hv : Vok p D g.top v) : Std p D (play g v) where
  pk := s.pk
  D0 := s.D0
  Dd := s.Dd
  t0 := s.t0
  ts := s.ts
  ok := s.ok
  n0 := s.n0
  n1 := s.n1
  len := by show (g.vals ++ [v]).length ≤ p.L; simp; omega
  vals := fun x hx => by
    rcases List.mem_append.mp (show x ∈ g.vals ++ [v] from hx) with h | h
    · exact s.vals x h
    · rw [List.mem_singleton.mp h]; exact hv
  few := fun e => by
    have e : g.ag = false := e
    have f := s.few e
    show (g.vals ++ [v]).length ≤ g.n
    have ne : g.vals.length ≠ g.n := fun z => by
      unfold ended at o
      rw [e, decide_eq_true z] at o
      cases o
    simp; omega
  cert := by
    show certBehind g v = (!g.ag && decide ((g.n : Rat) / 2 < Lw.sum (g.vals ++ [v])))
    unfold certBehind
    cases ha : g.ag with
    | true =>
      have := s.cert
      rw [ha] at this
      rw [this]; rfl
    | false =>
      cases hc : g.cert with
      | false => rfl
      | true =>
        have e := s.cert
        rw [ha, hc] at e
        have lt : (g.n : Rat) / 2 < Lw.sum g.vals := of_decide_eq_true (by simpa using e.symm)
        have : (g.n : Rat) / 2 < Lw.sum (g.vals ++ [v]) := by
          rw [Lw.sum_snoc]
          have := hv.nn
          grind
        rw [decide_eq_true this]; rfl
  now := fun h => by
    have h : certBehind g v = false := h
    have nc : g.cert = false := by
      unfold certBehind at h
      cases e : g.cert with
      | false => rfl
      | true => rw [e] at h; simp at h
    show Fr.Sz (p.s * (g.vals ++ [v]).length + 1) (if g.cert = true then g.now else behind g v)
    rw [if_neg (by rw [nc]; decide), List.length_append, List.length_singleton]
    exact behind_sz s nc o hv
  most := fun h => by
    have h : certBehind g v = false := h
    have nc : g.cert = false := by
      unfold certBehind at h
      cases e : g.cert with
      | false => rfl
      | true => rw [e] at h; simp at h
    have e1 : p.s * g.vals.length ≤ p.s * (g.vals.length + 1) := Nat.mul_le_mul_left _ (by omega)
    show Fr.Sz (p.s * (g.vals ++ [v]).length + 1) (if certBehind g v = true then g.most else if g.most < behind g v then behind g v else g.most)
    rw [if_neg (by rw [h]; decide), List.length_append, List.length_singleton]
    split
    · exact behind_sz s nc o hv
    · exact (s.most nc).mono (by omega)
  nn := by
    show 0 ≤ (if g.cert = true then g.now else behind g v)
    cases c : g.cert with
    | true => exact s.nn
    | false => exact behind_nn s c o hv
theorem most_sz {p : Par} {D : Nat} {g : S} (s : Std p D g) : g.cert = false → Fr.Sz (p.s * p.L + 1) g.most := fun c => by
  have := step_le s.len
  exact (s.most c).mono (by omega)
theorem std_plays {p : Par} {D : Nat} {g : S} : ∀ (vs : List Rat), Std p D g → (∀ v ∈ vs, Vok p D g.top v) → (g.ag = false → g.vals.length + vs.length ≤ g.n) → g.vals.length + vs.length ≤ p.L → Std p D (plays g vs) := fun vs => by
  induction vs generalizing g with
  | nil => intro s _ _ _; exact s
  | cons v r ih =>
    intro s hv hn hl
    have o : ended g = false := by
      unfold ended
      cases e : g.ag with
      | true => rfl
      | false =>
        have := hn e
        rw [decide_eq_false (by simp at this; omega)]
        rfl
    have s' := std_play s o (by simp at hl; omega) (hv v (List.mem_cons_self ..))
    refine ih s' (fun x hx => hv x (List.mem_cons_of_mem _ hx)) (fun e => ?_) ?_
    · have := hn e
      show (g.vals ++ [v]).length + r.length ≤ g.n
      simp at this ⊢
      omega
    · show (g.vals ++ [v]).length + r.length ≤ p.L
      simp at hl ⊢
      omega
theorem open_of {p : Par} {D : Nat} {g : S} (h : g.ag = false → g.vals.length < g.n) : ended g = false := by
  unfold ended
  cases e : g.ag with
  | true => rfl
  | false => rw [decide_eq_false (by have := h e; omega)]; rfl
/-! behind how many plays a limit is reached -/
def hit (x : Rat) (g : S) : Bool := atLim x (worthO g)
def turn (x : Rat) (g : S) (vs : List Rat) : Option Nat := (List.range (vs.length + 1)).find? fun k => hit x (plays g (vs.take k))
theorem turn_some {x : Rat} {g : S} {vs : List Rat} {k : Nat} (hk : k ≤ vs.length) (h : hit x (plays g (vs.take k)) = true) (n : ∀ j, j < k → hit x (plays g (vs.take j)) = false) : turn x g vs = some k := by
  unfold turn
  rw [List.find?_range_eq_some]
  exact ⟨h, by simp; omega, fun j hj => by rw [n j hj]; rfl⟩
theorem turn_none {x : Rat} {g : S} {vs : List Rat} (n : ∀ j, j ≤ vs.length → hit x (plays g (vs.take j)) = false) : turn x g vs = none := by
  unfold turn
  rw [List.find?_range_eq_none]
  exact fun j hj => by rw [n j (by omega)]; rfl
/-- the game has reached it just where it hits, where it did not before -/
theorem reached_hit {x : Rat} (x0 : 0 ≤ x) {g : S} (r0 : reached g x = hit x g) {vs : List Rat} : ∀ {k : Nat}, k ≤ vs.length → (∀ j, j < k → hit x (plays g (vs.take j)) = false) → reached (plays g (vs.take k)) x = hit x (plays g (vs.take k))
  | 0, _, _ => by rw [List.take_zero]; exact r0
  | k + 1, hk, n => by
    have ih := reached_hit x0 r0 (vs := vs) (k := k) (by omega) fun j hj => n j (by omega)
    have e : vs.take (k + 1) = vs.take k ++ [vs[k]] := Lw.take_snoc (List.getElem?_eq_getElem (by omega))
    rw [e, plays_snoc, reached_play x0, ih, n k (by omega)]
    rfl
end Gg
namespace Lw
open PySem PySem.Spec PyProof.Rows L2 Gx
def turnV : Option Nat → V
  | none => .non
  | some k => .int (k : Int)
def dens : List Rat → Nat
  | [] => 1
  | q :: r => q.den * dens r
theorem dens_pos : ∀ qs : List Rat, 0 < dens qs
  | [] => by decide
  | q :: r => Nat.mul_pos q.den_pos (dens_pos r)
theorem on_mul {D d : Nat} (h : 0 < d) {x : Rat} : Gm.On D x → Gm.On (d * D) x
  | ⟨n, e⟩ => ⟨(d : Int) * n, by rw [e]; push_cast; exact (Rat.divInt_mul_left (by omega)).symm⟩
theorem on_den {D : Nat} (h : 0 < D) (x : Rat) : Gm.On (x.den * D) x := ⟨x.num * (D : Int), by
  push_cast
  rw [Rat.divInt_mul_right (by omega)]
  exact (Rat.num_divInt_den x).symm⟩
theorem on_dens : ∀ {qs : List Rat} {q : Rat}, q ∈ qs → Gm.On (dens qs) q
  | q :: r, x, h => by
    rcases List.mem_cons.mp h with h | h
    · subst h; exact on_den (dens_pos r) x
    · exact on_mul q.den_pos (on_dens h)
theorem dens_le : ∀ {qs : List Rat}, (∀ q ∈ qs, Fr.Sz 14 q) → dens qs ≤ 2 ^ (14 * qs.length)
  | [], _ => by decide
  | q :: r, h => by
    have h1 := (h q (List.mem_cons_self ..)).2
    have h2 := dens_le (qs := r) fun x hx => h x (List.mem_cons_of_mem _ hx)
    show q.den * dens r ≤ 2 ^ (14 * (r.length + 1))
    rw [Nat.mul_succ, Nat.add_comm, Nat.pow_add]
    exact Nat.mul_le_mul (by omega) h2
/-- the games of these laws -/
def PG : Gg.Par := ⟨99, 7, 14, 7, 12, false⟩
theorem PG_ok : PG.Ok := ⟨by decide, by decide, by decide, by decide, by decide, by decide, by decide, .inl (by decide), by decide⟩
/-- a value of these laws -/
structure Val (top q : Rat) : Prop where
  nn : 0 ≤ q
  le : q ≤ top
  sz : Fr.Sz 14 q
theorem vals_ok {top : Rat} {qs : List Rat} (h : ∀ q ∈ qs, Val top q) : ∀ q ∈ qs, Gg.Vok PG (dens qs) top q := fun q hq => ⟨(h q hq).nn, (h q hq).le, on_dens hq, (h q hq).sz, fun z => absurd z (by decide)⟩
theorem std0 {top : Rat} {qs : List Rat} {m : Nat} {b : Bool} {R : Ru.R} (h : ∀ q ∈ qs, Val top q) (l7 : qs.length ≤ 7) (t0 : 0 < top) (ts : Fr.Sz 7 top) (ok : Ru.Ok 7 R) (m1 : 1 ≤ m) (m60 : m ≤ 60) : Gg.Std PG (dens qs) (Gm.init m b top R) :=
  Gg.std_init PG_ok (dens_pos qs) (Nat.lt_of_le_of_lt (dens_le fun q hq => (h q hq).sz) (Nat.lt_of_le_of_lt (Fr.pw (b := 98) (by omega)) (by decide))) t0 ts ok m1 m60
theorem sh_fq (q : Rat) : Dt.Sh 1 (Fr.fqd q) := Dt.sh_tup fun d hd => by
  simp at hd
  rcases hd with rfl | rfl <;> exact Dt.sh_int _
theorem sh_fqs (qs : List Rat) : Dt.Sh 2 (.list (qs.map Fr.fqd)) := Dt.sh_lst fun d hd => by
  obtain ⟨q, _, rfl⟩ := List.mem_map.mp hd
  exact sh_fq q
/-! lists or tuples -/
def SqU (K : PySem.W.Frag) (H : Hp) (a : Addr) (xs : List V) : Prop := SqL K H a xs ∨ SqT K H a xs
theorem SqU.same {K : PySem.W.Frag} {H H' : Hp} {a : Addr} {xs : List V} (e : Same H H') (h : SqU K H a xs) : SqU K H' a xs := h.elim (fun h => .inl (seqL_same e h)) fun h => .inr (seqT_same e h)
theorem k_ixE {K : PySem.W.Frag} {H : Hp} {Q : VK} {v : V} {p : Addr} {xs : List V} {i : Int} (h : SqU K H p xs) (ha : atI xs i = some v) (q : Q v H) : rIx K (.ref p) (.int i) H Q := h.elim (fun h => k_ixL h ha q) fun h => k_ixT h ha q
theorem k_lenE {K : PySem.W.Frag} {H : Hp} {Q : VK} {p : Addr} {xs : List V} (q : Q (.int xs.length) H) (h : SqU K H p xs) : rLenU K [.ref p] H Q := h.elim (fun h => k_lenL q h) fun h => k_lenT q h
/-- the values of a draw's ballots -/
def pick (qs : List Rat) (s : List Int) : List Rat := s.map fun i => qs.getD i.toNat 0
def trn (qs : List Rat) (b : Bool) (top x : Rat) (R : Ru.R) (s : List Int) : Option Nat := Gg.turn x (Gm.init qs.length b top R) (pick qs s)
/-- so many are drawn at most -/
def nw (m n : Nat) (b : Bool) : Nat := if b then n else min n m
def trns (qs : List Rat) (b : Bool) (top x : Rat) (R : Ru.R) (n : Nat) : List (Option Nat) := (Al.al qs.length b (nw qs.length n b)).map (trn qs b top x R)
/-- what a plan is of -/
structure Plan (K : PySem.W.Frag) (H : Hp) (t lp : Addr) (us : List V) (qs : List Rat) (top x : Rat) (R : Ru.R) (b : Bool) (n : Nat) : Prop where
  fq : Fqs K H us qs
  l1 : 1 ≤ qs.length
  l7 : qs.length ≤ 7
  val : ∀ q ∈ qs, Val top q
  tp : SqT K H t (Fr.fq top)
  t0 : 0 < top
  ts : Fr.Sz 7 top
  ok : Ru.Ok 7 R
  lim : SqT K H lp (Fr.fq x)
  x0 : 0 < x
  sx : Fr.Sz 20 x
  n12 : n ≤ 12
  c40 : Cn.cnt (qs.length : Int) b (nw qs.length n b) ≤ 40
  c0 : Cn.cnt (qs.length : Int) b (nw qs.length n b) ≠ 0
theorem Plan.imm {K : PySem.W.Frag} {H H' : Hp} {t lp : Addr} {us : List V} {qs : List Rat} {top x : Rat} {R : Ru.R} {b : Bool} {n : Nat} (h : Plan K H t lp us qs top x R b n) (e : Imm H H') : Plan K H' t lp us qs top x R b n :=
  { h with fq := h.fq.imm e, tp := seqT_imm e h.tp, lim := seqT_imm e h.lim }
theorem Plan.same {K : PySem.W.Frag} {H H' : Hp} {t lp : Addr} {us : List V} {qs : List Rat} {top x : Rat} {R : Ru.R} {b : Bool} {n : Nat} (h : Plan K H t lp us qs top x R b n) (e : Same H H') : Plan K H' t lp us qs top x R b n := h.imm (imm_same e)
theorem nw12 {m n : Nat} {b : Bool} (h : n ≤ 12) : nw m n b ≤ 12 := by unfold nw; split <;> omega
theorem nw_few {m n : Nat} {b : Bool} (h : b = false) : nw m n b ≤ m := by subst h; exact Nat.min_le_right ..
theorem pick_len (qs : List Rat) (s : List Int) : (pick qs s).length = s.length := by unfold pick; simp
theorem pick_vals {top : Rat} {qs : List Rat} {s : List Int} (h : ∀ q ∈ qs, Val top q) (hs : ∀ i ∈ s, 0 ≤ i ∧ i < (qs.length : Int)) : ∀ q ∈ pick qs s, q ∈ qs := fun q hq => by
  obtain ⟨i, hi, rfl⟩ := List.mem_map.mp hq
  have := hs i hi
  rw [List.getD_eq_getElem?_getD, List.getElem?_eq_getElem (by omega)]
  exact List.getElem_mem _
section
variable {K : PySem.W.Frag} {H : Hp} {t lp : Addr} {us : List V} {qs : List Rat} {top x : Rat} {R : Ru.R} {b : Bool} {n : Nat}
theorem Plan.std (h : Plan K H t lp us qs top x R b n) : Gg.Std PG (dens qs) (Gm.init qs.length b top R) := std0 h.val h.l7 h.t0 h.ts h.ok h.l1 (by have := h.l7; omega)
theorem Plan.len (h : Plan K H t lp us qs top x R b n) : ((trns qs b top x R n).length : Int) = Cn.cnt (qs.length : Int) b (nw qs.length n b) := by
  unfold trns
  rw [List.length_map]
  exact Al.al_len _
theorem Plan.len40 (h : Plan K H t lp us qs top x R b n) : (trns qs b top x R n).length ≤ 40 ∧ 1 ≤ (trns qs b top x R n).length := by
  have h1 := h.len
  have h2 := h.c40
  have h3 := h.c0
  omega
end
/-! how surely a limit is reached by some turn -/
def by_ (k : Nat) : Option Nat → Bool
  | none => false
  | some j => decide (j ≤ k)
def sure (ts : List (Option Nat)) (k : Nat) : Rat := Rat.divInt (((ts.filter (by_ k)).length : Nat) : Int) ((ts.length : Nat) : Int)
def sures (ts : List (Option Nat)) (n : Nat) : List Rat := (List.range n).map (sure ts)
theorem sures_len (ts : List (Option Nat)) (n : Nat) : (sures ts n).length = n := by unfold sures; simp
theorem sures_snoc (ts : List (Option Nat)) (n : Nat) : sures ts (n + 1) = sures ts n ++ [sure ts n] := by unfold sures; simp [List.range_succ]
theorem sures_at {ts : List (Option Nat)} {n k : Nat} (h : k < n) : (sures ts n)[k]? = some (sure ts k) := by unfold sures; simp [h]
theorem sure_sz {ts : List (Option Nat)} (h : ts.length ≤ 40) (h1 : 1 ≤ ts.length) (k : Nat) : Fr.Sz 6 (sure ts k) := by
  have := List.length_filter_le (by_ k) ts
  exact Fr.sz_divInt (by omega) (by show _ < 64; omega) (by show _ < 64; omega)
theorem sure_mono {ts : List (Option Nat)} (h1 : 1 ≤ ts.length) (k : Nat) : ¬ sure ts (k + 1) < sure ts k := by
  have l : (ts.filter (by_ k)).length ≤ (ts.filter (by_ (k + 1))).length := by
    rw [← List.countP_eq_length_filter, ← List.countP_eq_length_filter]
    refine List.countP_mono_left fun x _ hx => ?_
    cases x with
    | none => exact hx
    | some j => have := of_decide_eq_true hx; exact decide_eq_true (by omega)
  unfold sure
  rw [Rat.divInt_eq_div, Rat.divInt_eq_div]
  simp only [Rat.intCast_natCast]
  have hp := Gm.nat_pos (n := ts.length) (by omega)
  have c : (((ts.filter (by_ k)).length : Nat) : Rat) ≤ (((ts.filter (by_ (k + 1))).length : Nat) : Rat) := Rat.natCast_le_natCast.mpr l
  intro z
  rw [Rat.div_lt_iff hp, Rat.div_def, Rat.mul_assoc, Rat.inv_mul_cancel _ (by grind), Rat.mul_one] at z
  grind
/-! what a plan costs -/
def one_ (N : Nat) : Option Nat → Nat
  | none => N
  | some k => k
def madeN (N : Nat) (ts : List (Option Nat)) : Nat := (ts.map (one_ N)).sum
def nonN (ts : List (Option Nat)) : Nat := ts.countP Option.isNone
def somes (ts : List (Option Nat)) : List Nat := ts.filterMap id
def drawQ (N : Nat) (ts : List (Option Nat)) : Rat := Rat.divInt ((madeN N ts : Nat) : Int) ((ts.length : Nat) : Int)
def cntQ (ts : List (Option Nat)) : Rat := Rat.divInt ((nonN ts : Nat) : Int) ((ts.length : Nat) : Int)
def costQ (N : Nat) (ts : List (Option Nat)) (e w : Rat) : Rat := drawQ N ts * e + cntQ ts * w
theorem made_snoc (N : Nat) (ts : List (Option Nat)) (o : Option Nat) : madeN N (ts ++ [o]) = madeN N ts + one_ N o := by unfold madeN; simp
theorem non_snoc (ts : List (Option Nat)) (o : Option Nat) : nonN (ts ++ [o]) = nonN ts + (if o.isNone = true then 1 else 0) := by
  unfold nonN
  rw [List.countP_append, List.countP_cons, List.countP_nil, Nat.zero_add]
theorem somes_snoc (ts : List (Option Nat)) (o : Option Nat) : somes (ts ++ [o]) = somes ts ++ (match o with | none => [] | some k => [k]) := by
  unfold somes
  cases o <;> simp
theorem made_eq (N : Nat) : ∀ ts : List (Option Nat), madeN N ts = (somes ts).sum + N * nonN ts
  | [] => by simp [madeN, somes, nonN]
  | none :: r => by
    have ih := made_eq N r
    have e1 : madeN N (none :: r) = N + madeN N r := by simp [madeN, one_]
    have e2 : somes (none :: r) = somes r := by simp [somes]
    have e3 : nonN (none :: r) = nonN r + 1 := by simp [nonN]
    rw [e1, e2, e3, ih, Nat.mul_add]
    omega
  | some k :: r => by
    have ih := made_eq N r
    have e1 : madeN N (some k :: r) = k + madeN N r := by simp [madeN, one_]
    have e2 : somes (some k :: r) = k :: somes r := by simp [somes]
    have e3 : nonN (some k :: r) = nonN r := by simp [nonN]
    rw [e1, e2, e3, ih, List.sum_cons]
    omega
theorem made_le {N : Nat} : ∀ {ts : List (Option Nat)}, (∀ o ∈ ts, one_ N o ≤ 12) → madeN N ts ≤ 12 * ts.length
  | [], _ => by simp [madeN]
  | o :: r, h => by
    have ih := made_le (ts := r) fun x hx => h x (List.mem_cons_of_mem _ hx)
    have := h o (List.mem_cons_self ..)
    have e1 : madeN N (o :: r) = one_ N o + madeN N r := by simp [madeN]
    rw [e1, List.length_cons]
    omega
theorem non_le (ts : List (Option Nat)) : nonN ts ≤ ts.length := List.countP_le_length
theorem turn_le {x : Rat} {g : Gm.S} {vs : List Rat} {k : Nat} (h : Gg.turn x g vs = some k) : k ≤ vs.length := by
  unfold Gg.turn at h
  have := List.mem_of_find?_eq_some h
  have := List.mem_range.mp this
  omega
theorem trns_le {qs : List Rat} {b : Bool} {top x : Rat} {R : Ru.R} {n : Nat} (h : n ≤ 12) : ∀ o ∈ trns qs b top x R n, one_ (nw qs.length n b) o ≤ 12 := fun o ho => by
  obtain ⟨s, hs, rfl⟩ := List.mem_map.mp ho
  have sl := (Al.al_ok hs).2
  have n12 := nw12 (m := qs.length) (b := b) h
  cases e : trn qs b top x R s with
  | none => exact n12
  | some k =>
    have := turn_le e
    rw [pick_len, sl] at this
    show k ≤ 12
    omega
theorem draw_sz {N : Nat} {ts : List (Option Nat)} (h : ts.length ≤ 40) (h1 : 1 ≤ ts.length) (hs : ∀ o ∈ ts, one_ N o ≤ 12) : Fr.Sz 9 (drawQ N ts) := by
  have := made_le hs
  exact Fr.sz_divInt (by omega) (by show _ < 512; omega) (by show _ < 512; omega)
theorem cnt_sz {ts : List (Option Nat)} (h : ts.length ≤ 40) (h1 : 1 ≤ ts.length) : Fr.Sz 9 (cntQ ts) := by
  have := non_le ts
  exact Fr.sz_divInt (by omega) (by show _ < 512; omega) (by show _ < 512; omega)
theorem dp_turn {K : PySem.W.Frag} {H : Hp} : ∀ ts : List (Option Nat), DpAll K H (ts.map turnV) (ts.map fun o => match o with | none => PyData.none | some k => .int (k : Int))
  | [] => .nil
  | none :: r => .cons .non (dp_turn r)
  | some k :: r => .cons (.int _) (dp_turn r)
theorem cnt_none : ∀ ts : List (Option Nat), (ts.map fun o => match o with | none => PyData.none | some k => .int (k : Int)).countP (fun z => PyData.eqv z .none) = nonN ts
  | [] => rfl
  | none :: r => by
    have ih := cnt_none r
    unfold nonN at *
    simp only [List.map_cons, List.countP_cons, ih]
    simp [PyData.eqv]
  | some k :: r => by
    have ih := cnt_none r
    unfold nonN at *
    simp only [List.map_cons, List.countP_cons, ih]
    simp [PyData.eqv]
theorem plain_turns : ∀ ts : List (Option Nat), PyData.plainAll (ts.map fun o => match o with | none => PyData.none | some k => .int (k : Int)) = true ∧ PyData.depthAll (ts.map fun o => match o with | none => PyData.none | some k => .int (k : Int)) ≤ 0
  | [] => ⟨by simp [PyData.plainAll], by simp [PyData.depthAll]⟩
  | none :: r => by
    have ih := plain_turns r
    exact ⟨by simp only [List.map_cons, PyData.plainAll, ih.1]; simp [PyData.plain], by simp only [List.map_cons, PyData.depthAll]; have := ih.2; simp [PyData.depth]; omega⟩
  | some k :: r => by
    have ih := plain_turns r
    exact ⟨by simp only [List.map_cons, PyData.plainAll, ih.1]; simp [PyData.plain], by simp only [List.map_cons, PyData.depthAll]; have := ih.2; simp [PyData.depth]; omega⟩
/-! the first of the least -/
def bst (cs : List Rat) : Nat → Nat
  | 0 => 0
  | i + 1 => if cs.getD i 0 < cs.getD (bst cs i) 0 then i else bst cs i
theorem bst_lt (cs : List Rat) : ∀ i : Nat, bst cs (i + 1) ≤ i
  | 0 => by
    show (if _ then 0 else 0) ≤ 0
    split <;> exact Nat.le_refl _
  | i + 1 => by
    show (if _ then i + 1 else bst cs (i + 1)) ≤ i + 1
    split
    · exact Nat.le_refl _
    · exact Nat.le_trans (bst_lt cs i) (Nat.le_succ _)
theorem bst_in {cs : List Rat} {i : Nat} (h : i < cs.length) : bst cs i < cs.length := by
  cases i with
  | zero => exact h
  | succ i => have := bst_lt cs i; omega
theorem Fqs.getD {K : PySem.W.Frag} {H : Hp} {vs : List V} {qs : List Rat} {i : Nat} (h : Fqs K H vs qs) (hi : i < qs.length) : ∃ p, atI vs (i : Int) = some (.ref p) ∧ vs[i]? = some (.ref p) ∧ SqT K H p (Fr.fq (qs.getD i 0)) := by
  have hl := h.len
  obtain ⟨p, q, e, hq, hp⟩ := h.get (i := i) (v := vs[i]'(by omega)) (by simp)
  refine ⟨p, by rw [← e]; exact atI_nat (by simp), by rw [← e]; simp, ?_⟩
  rw [List.getD_eq_getElem?_getD, hq]
  exact hp
end Lw
namespace Lw
open PySem PySem.Spec PyProof.Rows L2 Gx
/-! one value played again and again -/
def PA : Gg.Par := ⟨58, 60, 58, 7, 60, true⟩
theorem PA_ok : PA.Ok := ⟨by decide, by decide, by decide, by decide, by decide, by decide, by decide, .inr (by decide), by decide⟩
def PV : Gg.Par := ⟨12, 12, 12, 7, 12, false⟩
/-- what the values of a claim are parts of -/
def dnm : Cm.C → Nat
  | .over _ s => 2 * s.num.natAbs
  | .under _ s => 2 * (1 - s).num.natAbs
  | _ => 2
theorem on_half {k : Nat} (h : 0 < k) : Gm.On (2 * k) (1/2) := ⟨(k : Int), by
  have e : (1/2 : Rat) = Rat.divInt 1 2 := by rw [Rat.divInt_eq_div]; rfl
  rw [e, show ((2 * k : Nat) : Int) = 2 * (k : Int) by push_cast; rfl, show ((k : Nat) : Int) = 1 * (k : Int) by omega]
  conv => rhs; rw [Int.one_mul, show (k : Int) = 1 * (k : Int) by omega, show 2 * (1 * (k : Int)) = 2 * (k : Int) by omega]
  exact (Rat.divInt_mul_right (by omega)).symm⟩
theorem on_over {s : Rat} (h : 0 < s) : Gm.On (2 * s.num.natAbs) ((1/2) / s) := ⟨(s.den : Int), by
  have := Cm.num_pos h
  rw [show ((2 * s.num.natAbs : Nat) : Int) = 2 * s.num by omega]
  exact (Cm.half_over s).symm⟩
theorem nat_ne {s : Rat} (h : 0 < s) : 0 < s.num.natAbs := by
  have := Cm.num_pos h
  omega
theorem sz_one_sub {s : Rat} (h : Fr.Sz 7 s) : Fr.Sz 10 (1 - s) := ((Ru.sz1 (n := 2) (by decide)).sub h).mono (by decide)
theorem on_one : Gm.On 2 1 := ⟨2, by decide +kernel⟩
theorem on_val {c : Cm.C} (ok : Cm.Ok 7 c) (m : Option Str) : Gm.On (dnm c) (Cm.value c m) ∧ 0 < dnm c ∧ dnm c < 2 ^ 12 := by
  cases c with
  | claim =>
    refine ⟨?_, by decide, by decide⟩
    unfold Cm.value Cm.valueOf
    split
    · exact Gm.on_zero _
    · exact on_half (k := 1) (by decide)
  | beats o t =>
    refine ⟨?_, by show 0 < 2; decide, by show 2 < 2 ^ 12; decide⟩
    unfold Cm.value Cm.valueOf
    split
    · exact Gm.on_zero _
    · show Gm.On 2 (if _ then _ else if _ then _ else _)
      split
      · exact on_one
      · split
        · exact Gm.on_zero _
        · exact on_half (k := 1) (by decide)
  | over k s =>
    have n1 := ok.2.2.1
    have n0 := nat_ne ok.1
    refine ⟨?_, by show 0 < 2 * _; omega, by show 2 * s.num.natAbs < 2 ^ 12; omega⟩
    unfold Cm.value Cm.valueOf
    split
    · exact Gm.on_zero _
    · show Gm.On (2 * s.num.natAbs) (if _ then _ else if _ then _ else _)
      split
      · exact on_half n0
      · split
        · exact on_over ok.1
        · exact Gm.on_zero _
  | under k s =>
    have n1 := (sz_one_sub ok.2.2).1
    have p1 := (Cm.sub_pos ok.2.1).1
    have n0 := nat_ne p1
    refine ⟨?_, by show 0 < 2 * _; omega, by show 2 * (1 - s).num.natAbs < 2 ^ 12; omega⟩
    unfold Cm.value Cm.valueOf
    split
    · exact Gm.on_zero _
    · show Gm.On (2 * (1 - s).num.natAbs) (if _ then _ else if _ then _ else _)
      split
      · exact on_half n0
      · split
        · exact Gm.on_zero _
        · exact on_over p1
theorem sum30 {c : Cm.C} (ok : Cm.Ok 7 c) {ms : List (Option Str)} (l : ms.length ≤ 60) : Fr.Sz 30 (sum (ms.map (Cm.value c))) := by
  have o := on_val ok none
  refine Gg.sum_sz (p := PV) (D := dnm c) (top := Cm.greatest c) o.2.1 o.2.2 (Cm.sz_greatest ok) (fun q hq => ?_) (by rw [List.length_map]; omega)
  obtain ⟨m, _, rfl⟩ := List.mem_map.mp hq
  exact ⟨(Cm.val_nn c ok m).1, (Cm.val_nn c ok m).2, (on_val ok m).1, Cm.sz_value c ok m, fun z => absurd z (by decide)⟩
theorem scale_sz {c : Cm.C} (ok : Cm.Ok 7 c) {ms : List (Option Str)} (l1 : 1 ≤ ms.length) (l : ms.length ≤ 60) : Fr.Sz 57 (Wy.scale c ms) := by
  have z1 := sum30 ok l
  have z2 : Fr.Sz 36 (Wy.mean c ms) := z1.div (Wy.szn (k := 6) (by omega) (by decide))
  have z3 := (Wy.sz2.mul z2).sub (Ru.sz1 (n := 1) (by decide))
  have z4 := z3.div (Cm.sz_greatest ok)
  exact (Wy.sz2.sub z4).mono (by decide)
/-- the value that is played, and the greatest -/
def alv (c : Cm.C) (ms : List (Option Str)) : Rat := 1 / Wy.scale c ms
def alt (c : Cm.C) (ms : List (Option Str)) : Rat := 2 / Wy.scale c ms
def alN (ms : List (Option Str)) (b : Bool) : Nat := if b then 60 else min 60 ms.length
def alturn (c : Cm.C) (ms : List (Option Str)) (x : Rat) (R : Ru.R) (b : Bool) : Option Nat := Gg.turn x (Gm.init ms.length b (alt c ms) R) (List.replicate (alN ms b) (alv c ms))
section
variable {c : Cm.C} (ok : Cm.Ok 7 c) {ms : List (Option Str)} (l1 : 1 ≤ ms.length) (l : ms.length ≤ 60)
include ok l1
theorem al_pos : 0 < alv c ms ∧ 0 < alt c ms ∧ alv c ms ≤ alt c ms := by
  have p := Wy.scale_pos ok l1
  have ip := Rat.inv_pos.mpr p
  unfold alv alt
  rw [Rat.div_def, Rat.div_def, Rat.one_mul]
  grind
include l
theorem al_szs : Fr.Sz 58 (alv c ms) ∧ Fr.Sz 60 (alt c ms) :=
  ⟨((Ru.sz1 (n := 1) (by decide)).div (scale_sz ok l1 l)).mono (by decide), ((Wy.sz2).div (scale_sz ok l1 l)).mono (by decide)⟩
theorem al_vok : Gg.Vok PA (alv c ms).den (alt c ms) (alv c ms) := ⟨Rat.le_of_lt (al_pos ok l1).1, (al_pos ok l1).2.2, ⟨(alv c ms).num, (Rat.num_divInt_den _).symm⟩, (al_szs ok l1 l).1, fun _ => (al_pos ok l1).1⟩
theorem al_std {b : Bool} {R : Ru.R} (okR : Ru.Ok 7 R) : Gg.Std PA (alv c ms).den (Gm.init ms.length b (alt c ms) R) :=
  Gg.std_init PA_ok (alv c ms).den_pos (al_szs ok l1 l).1.2 (al_pos ok l1).2.1 (al_szs ok l1 l).2 okR l1 l
end
theorem alN_le {ms : List (Option Str)} {b : Bool} : alN ms b ≤ 60 := by unfold alN; split <;> omega
theorem alN_few {ms : List (Option Str)} {b : Bool} (h : b = false) : alN ms b ≤ ms.length := by subst h; exact Nat.min_le_right ..
/-- the margin -/
def marg (c : Cm.C) (ms : List (Option Str)) : Rat := 2 * Wy.mean c ms - 1
theorem marg_sz {c : Cm.C} (ok : Cm.Ok 7 c) {ms : List (Option Str)} (l1 : 1 ≤ ms.length) (l : ms.length ≤ 60) : Fr.Sz 41 (marg c ms) := by
  have z1 := sum30 ok l
  have z2 : Fr.Sz 36 (Wy.mean c ms) := z1.div (Wy.szn (k := 6) (by omega) (by decide))
  exact (Wy.sz2.mul z2).sub (Ru.sz1 (n := 1) (by decide))
theorem two_sub_form {x : Rat} : Rat.divInt (2 * (x.den : Int) - x.num) (x.den : Int) = 2 - x := by
  have e1 := Gm.mul_den x
  rw [Rat.divInt_eq_div, Rat.intCast_sub, Rat.intCast_mul, Rat.intCast_natCast, ← e1]
  have c1 := Gm.nat_pos (n := x.den) x.den_pos
  have e2 : ((2 : Int) : Rat) = 2 := rfl
  rw [e2]
  generalize (x.den : Rat) = d at *
  grind
theorem inv_form {x : Rat} : Rat.divInt (x.den : Int) x.num = 1 / x := by rw [Rat.div_def, Rat.inv_def, Rat.one_mul]
theorem alt_form (c : Cm.C) (ms : List (Option Str)) : Rat.divInt 2 1 * alv c ms = alt c ms := by
  have e : Rat.divInt 2 1 = 2 := by decide +kernel
  rw [e]
  unfold alv alt
  rw [Rat.div_def, Rat.div_def, Rat.one_mul]
/-- what is due: the turn, or that there is no margin -/
def dueV (c : Cm.C) (ms : List (Option Str)) (x : Rat) (R : Ru.R) (b : Bool) : V := if decide (Cm.holds c ms) = true then turnV (alturn c ms x R b) else .str (Str.ofString "margin")
end Lw
namespace Lw
open PySem PySem.Spec PyProof.Rows L2 Gx LamX NdefX
/-- a function told by some parts, by the length of the past -/
def numL (qs : List Rat) : Int := (qs.length : Int)
def Tells (K : PySem.W.Frag) (H : Hp) (f : Addr) (φ : List Rat → Rat) : Prop := ∃ F u o us ps, IsF__law_rule_of__lam F ∧ Clo H f F ["_law_parts"] [.ref u] ∧ H u = some (.frz o (.lst us)) ∧ Fqs K H us ps ∧ ps ≠ [] ∧ ps.length ≤ 4 ∧ φ = Gm.toldBy numL ps
theorem Tells.mono {K : PySem.W.Frag} {H H' : Hp} {f : Addr} {φ : List Rat → Rat} : Tells K H f φ → Imm H H' → Tells K H' f φ
  | ⟨F, u, o, us, ps, h1, h2, h3, h4, h5⟩, e => ⟨F, u, o, us, ps, h1, h2.imm e, frz_imm e h3, h4.imm e, h5⟩
theorem Tells.fn {K : PySem.W.Frag} {H : Hp} {f : Addr} {φ : List Rat → Rat} : Tells K H f φ → ∃ F, H f = some (FxO f F)
  | ⟨F, _, _, _, _, _, h, _⟩ => ⟨F, h.fn⟩
/-- one of some parts -/
theorem toldL {ps qs : List Rat} (ne : ps ≠ []) : ∃ j, j < ps.length ∧ ((qs.length : Nat) : Int) % (ps.length : Int) = (j : Int) ∧ ps[j]? = some (Gm.toldBy numL ps qs) := by
  have l0 : 0 < ps.length := List.length_pos_iff.mpr ne
  have f0 := Int.emod_nonneg ((qs.length : Nat) : Int) (show (ps.length : Int) ≠ 0 by omega)
  have f1 := Int.emod_lt_of_pos ((qs.length : Nat) : Int) (show (0 : Int) < ps.length by omega)
  obtain ⟨j, ej⟩ := Int.eq_ofNat_of_zero_le f0
  refine ⟨j, by omega, ej, ?_⟩
  unfold Gm.toldBy numL
  rw [ej, List.getD_eq_getElem?_getD]
  show ps[j]? = some ((ps[j]?).getD 0)
  rw [List.getElem?_eq_getElem (by omega)]
  rfl
def sp__law_rule_of__lam (K : PySem.W.Frag) (ws : List (Option V)) : Sp := fun vs H Q _ => ∃ (u l : Addr) (us xs : List V) (ps qs : List Rat), ws = [some (.ref u)] ∧ vs = [.ref l] ∧ SqL K H u us ∧ Fqs K H us ps ∧ SqT K H l xs ∧ Fqs K H xs qs ∧ ps ≠ [] ∧
  ∀ r, SqT K H r (Fr.fq (Gm.toldBy numL ps qs)) → Q (.ref r) H
theorem Tells.call {K : PySem.W.Frag} {H : Hp} {Q : VK} {f l : Addr} {F : FX} {φ : List Rat → Rat} {xs : List V} {qs : List Rat} {b : Nat} (h : Tells K H f φ) (hl : SqT K H l xs) (fq : Fqs K H xs qs) (_sq : ∀ q ∈ qs, Fr.Sz b q) (_q60 : qs.length ≤ 60) (_b90 : b ≤ 90)
    (hf : H f = some (FxO f F)) (q : ∀ r H', Same H H' → SqT K H' r (Fr.fq (φ qs)) → Q (.ref r) H') : H f = some (FxO f F) ∧ rClo IsF__law_rule_of__lam ["_law_parts"] (sp__law_rule_of__lam K) f [.ref l] H Q := by
  obtain ⟨F', u, o, us, ps, h1, h2, h3, h4, h5, h6, rfl⟩ := h
  have pin := h2.pinned
  refine ⟨hf, (k_clo h2 h1 ?_).2⟩
  refine ⟨u, l, us, xs, ps, qs, rfl, rfl, SqL.frz (frz_unpin pin h3), pairedT_unpin pin h4, seqT_unpin pin hl, pairedT_unpin pin fq, h5, fun r hr H'' rp => q r H'' (rp.same (Same.refl _)) (seqT_same rp.new hr)⟩
/-- a rule as a law tells it -/
def Rt (K : PySem.W.Frag) (H : Hp) (p : Addr) : Ru.R → Prop
  | .none => SqT K H p [.str (Str.ofString "none")]
  | .fixed q => ∃ f, SqT K H p [.str (Str.ofString "fixed"), .ref f] ∧ SqT K H f (Fr.fq q)
  | .learn g w => ∃ f, SqT K H p [.str (Str.ofString "learning"), .ref f, .int (w : Int)] ∧ SqT K H f (Fr.fq g)
  | .told φ => ∃ u o us ps, SqT K H p [.str (Str.ofString "asked"), .ref u] ∧ H u = some (.frz o (.lst us)) ∧ Fqs K H us ps ∧ ps ≠ [] ∧ ps.length ≤ 4 ∧ φ = Gm.toldBy numL ps
theorem Rt.imm {K : PySem.W.Frag} {H H' : Hp} {p : Addr} (e : Imm H H') : ∀ {r : Ru.R}, Rt K H p r → Rt K H' p r
  | .none, h => seqT_imm e h
  | .fixed _, ⟨f, h, g⟩ => ⟨f, seqT_imm e h, seqT_imm e g⟩
  | .learn _ _, ⟨f, h, g⟩ => ⟨f, seqT_imm e h, seqT_imm e g⟩
  | .told _, ⟨u, o, us, ps, h, g, f, r⟩ => ⟨u, o, us, ps, seqT_imm e h, frz_imm e g, f.imm e, r⟩
theorem Rt.same {K : PySem.W.Frag} {H H' : Hp} {p : Addr} {r : Ru.R} (h : Rt K H p r) (e : Same H H') : Rt K H' p r := h.imm (imm_same e)
def rtKind : Ru.R → Str
  | .none => Str.ofString "none"
  | .fixed _ => Str.ofString "fixed"
  | .learn _ _ => Str.ofString "learning"
  | .told _ => Str.ofString "asked"
theorem Rt.at0 {K : PySem.W.Frag} {H : Hp} {p : Addr} : ∀ {r : Ru.R}, Rt K H p r → ∃ xs, SqT K H p xs ∧ atI xs 0 = some (.str (rtKind r))
  | .none, h => ⟨_, h, rfl⟩
  | .fixed _, ⟨f, h, g⟩ => ⟨_, h, rfl⟩
  | .learn _ _, ⟨f, h, g⟩ => ⟨_, h, rfl⟩
  | .told _, ⟨u, o, us, ps, h, g, f, r⟩ => ⟨_, h, rfl⟩
theorem rt_kinds : Str.ofString "fixed" ≠ Str.ofString "none" ∧ Str.ofString "learning" ≠ Str.ofString "none" ∧ Str.ofString "asked" ≠ Str.ofString "none" ∧ Str.ofString "learning" ≠ Str.ofString "fixed" ∧ Str.ofString "asked" ≠ Str.ofString "fixed" ∧ Str.ofString "learning" ≠ Str.ofString "asked" := by decide +kernel
/-- a rule at a -/
def RAt (K : PySem.W.Frag) (H : Hp) (a : Addr) : Ru.R → Prop
  | .none => ∃ dx, H a = some (.ins (He.ga K "Rule") dx [])
  | .fixed q => ∃ dx p, H a = some (.ins (He.ga K "Fixed") dx [("part", .ref p)]) ∧ SqT K H p (Fr.fq q)
  | .learn g w => ∃ dx p, H a = some (.ins (He.ga K "Learning") dx [("guess", .ref p), ("weight", .int (w : Int))]) ∧ SqT K H p (Fr.fq g)
  | .told φ => ∃ dx f, H a = some (.ins (He.ga K "Asked") dx [("function", .ref f)]) ∧ Tells K H f φ
/-- kept, where what may change is none of a rule -/
theorem RAt.mono {K : PySem.W.Frag} {H H' : Hp} {a : Addr} {r : Ru.R} (h : RAt K H a r) (e : Imm H H') (i : ∀ C dx fs, fs.length ≤ 2 → H a = some (.ins C dx fs) → H' a = some (.ins C dx fs)) : RAt K H' a r := by
  cases r with
  | none => obtain ⟨dx, h⟩ := h; exact ⟨dx, i _ _ _ (by simp) h⟩
  | fixed q => obtain ⟨dx, p, h, g⟩ := h; exact ⟨dx, p, i _ _ _ (by simp) h, seqT_imm e g⟩
  | learn q w => obtain ⟨dx, p, h, g⟩ := h; exact ⟨dx, p, i _ _ _ (by simp) h, seqT_imm e g⟩
  | told φ => obtain ⟨dx, f, h, g⟩ := h; exact ⟨dx, f, i _ _ _ (by simp) h, g.mono e⟩
theorem RAt.same {K : PySem.W.Frag} {H H' : Hp} {a : Addr} {r : Ru.R} (h : RAt K H a r) (e : Same H H') : RAt K H' a r := h.mono (imm_same e) fun _ _ _ _ h => e _ _ h
theorem RAt.but {K : PySem.W.Frag} {H H' : Hp} {a l : Addr} {r : Ru.R} {ys : List V} (h : RAt K H a r) (e : But l H H') (hl : H l = some (.lst ys)) : RAt K H' a r := h.mono (imm_but e hl) fun _ _ _ _ h => e _ _ (ne_of h hl (by intro z; cases z)) h
theorem RAt.butI {K : PySem.W.Frag} {H H' : Hp} {a l C dx : Addr} {r : Ru.R} {fs : List (Str × V)} (h : RAt K H a r) (e : But l H H') (hl : H l = some (.ins C dx fs)) (hf : 3 ≤ fs.length) : RAt K H' a r := h.mono (imm_butI e hl) fun C' dx' fs' hf' h => e _ _ (ne_of h hl (by intro z; cases z; omega)) h
theorem RAt.there {K : PySem.W.Frag} {H : Hp} {a : Addr} {r : Ru.R} (h : RAt K H a r) : H a ≠ none := fun e => by
  cases r with
  | none => obtain ⟨dx, h⟩ := h; rw [e] at h; cases h
  | fixed q => obtain ⟨dx, p, h, g⟩ := h; rw [e] at h; cases h
  | learn q w => obtain ⟨dx, p, h, g⟩ := h; rw [e] at h; cases h
  | told φ => obtain ⟨dx, f, h, g⟩ := h; rw [e] at h; cases h

/-- a game at a, its list at l -/
structure GA (K : PySem.W.Frag) (H : Hp) (a l dx t r s : Addr) (now : V) (m : Addr) (vs : List V) (g : Gm.S) : Prop where
  ins : H a = some (.ins (He.ga K "Game") dx [("many", .int (g.n : Int)), ("again", .bl g.ag), ("highest", .ref t), ("rule", .ref r), ("drawn_values", .ref l), ("sum_so_far", .ref s), ("now", now), ("most", .ref m), ("certain", .bl g.cert)])
  top : SqT K H t (Fr.fq g.top)
  rule : RAt K H r g.R
  lst : H l = some (.lst vs)
  vals : Fqs K H vs g.vals
  sum : SqT K H s (Fr.fq (Lw.sum g.vals))
  now_ : if g.cert = true then now = .non else ∃ p, now = .ref p ∧ SqT K H p (Fr.fq g.now)
  most : SqT K H m (Fr.fq g.most)
def GAt (K : PySem.W.Frag) (H : Hp) (a l : Addr) (g : Gm.S) : Prop := ∃ dx t r s now m vs, GA K H a l dx t r s now m vs g
theorem GA.same {K : PySem.W.Frag} {H H' : Hp} {a l dx t r s m : Addr} {now : V} {vs : List V} {g : Gm.S} (h : GA K H a l dx t r s now m vs g) (e : Same H H') : GA K H' a l dx t r s now m vs g :=
  ⟨e _ _ h.ins, seqT_same e h.top, h.rule.same e, e _ _ h.lst, h.vals.same e, seqT_same e h.sum, by
    have n := h.now_
    split at n
    · rw [if_pos ‹_›]; exact n
    · rw [if_neg ‹_›]; obtain ⟨p, h1, h2⟩ := n; exact ⟨p, h1, seqT_same e h2⟩, seqT_same e h.most⟩
theorem GAt.same {K : PySem.W.Frag} {H H' : Hp} {a l : Addr} {g : Gm.S} (h : GAt K H a l g) (e : Same H H') : GAt K H' a l g := let ⟨dx, t, r, s, now, m, vs, h⟩ := h; ⟨dx, t, r, s, now, m, vs, h.same e⟩
/-- kept while other things change -/
theorem GAt.mono {K : PySem.W.Frag} {H H' : Hp} {a l : Addr} {g : Gm.S} (h : GAt K H a l g) (e : Imm H H') (ha : ∀ o, H a = some o → H' a = some o) (hl : ∀ o, H l = some o → H' l = some o) (hr : ∀ r C dx fs, fs.length ≤ 2 → H r = some (.ins C dx fs) → H' r = some (.ins C dx fs)) : GAt K H' a l g := by
  obtain ⟨dx, t, r, s, now, m, vs, h⟩ := h
  refine ⟨dx, t, r, s, now, m, vs, ha _ h.ins, seqT_imm e h.top, h.rule.mono e (hr r), hl _ h.lst, Fqs.imm e h.vals, seqT_imm e h.sum, ?_, seqT_imm e h.most⟩
  have n := h.now_
  split at n
  · rw [if_pos ‹_›]; exact n
  · rw [if_neg ‹_›]; obtain ⟨p, h1, h2⟩ := n; exact ⟨p, h1, seqT_imm e h2⟩
theorem GAt.lst {K : PySem.W.Frag} {H : Hp} {a l : Addr} {g : Gm.S} (h : GAt K H a l g) : ∃ vs, H l = some (.lst vs) := let ⟨_, _, _, _, _, _, vs, h⟩ := h; ⟨vs, h.lst⟩
theorem GAt.ins {K : PySem.W.Frag} {H : Hp} {a l : Addr} {g : Gm.S} (h : GAt K H a l g) : ∃ dx fs, 3 ≤ fs.length ∧ H a = some (.ins (He.ga K "Game") dx fs) := let ⟨dx, _, _, _, _, _, _, h⟩ := h; ⟨dx, _, by simp, h.ins⟩
theorem GAt.ne {K : PySem.W.Frag} {H : Hp} {a l : Addr} {g : Gm.S} (h : GAt K H a l g) : a ≠ l := let ⟨_, _, _, _, _, _, _, h⟩ := h; ne_of h.ins h.lst (by intro z; cases z)
/-- None, or a fraction -/
def PrO (K : PySem.W.Frag) (H : Hp) (v : V) : Option Rat → Prop
  | none => v = .non
  | some q => ∃ p, v = .ref p ∧ SqT K H p (Fr.fq q)
theorem PrO.same {K : PySem.W.Frag} {H H' : Hp} (e : Same H H') {v : V} : ∀ {o : Option Rat}, PrO K H v o → PrO K H' v o
  | none, h => h
  | some _, ⟨p, h, g⟩ => ⟨p, h, seqT_same e g⟩
theorem PrO.imm {K : PySem.W.Frag} {H H' : Hp} (e : Imm H H') {v : V} : ∀ {o : Option Rat}, PrO K H v o → PrO K H' v o
  | none, h => h
  | some _, ⟨p, h, g⟩ => ⟨p, h, seqT_imm e g⟩
theorem GAt.ext {K : PySem.W.Frag} {H H' : Hp} {a l : Addr} {g : Gm.S} (h : GAt K H a l g) (e : ∀ b o, H b = some o → (∀ ps, o ≠ .tbl ps) → H' b = some o) : GAt K H' a l g := by
  obtain ⟨dx, fs, _, hi⟩ := h.ins
  obtain ⟨vs, hv⟩ := h.lst
  exact h.mono (fun b o h f => e b o h (by rintro ps rfl; exact f)) (fun o q => by rw [hi] at q; cases q; exact e _ _ hi (by intro ps z; cases z)) (fun o q => by rw [hv] at q; cases q; exact e _ _ hv (by intro ps z; cases z)) fun r C dx fs _ q => e _ _ q (by intro ps z; cases z)
theorem GAt.but2 {K : PySem.W.Frag} {H H' : Hp} {a l : Addr} {g : Gm.S} (h : GAt K H a l g) (b : But2 a l H H') : Imm H H' := by
  obtain ⟨dx, fs, _, hi⟩ := h.ins
  obtain ⟨vs, hv⟩ := h.lst
  exact b.imm hi hv
theorem GAt.look {K : PySem.W.Frag} {H : Hp} {a l dx : Addr} {g : Gm.S} {fs : List (Str × V)} {m : Str} (h : GAt K H a l g) (hi : H a = some (.ins (He.ga K "Game") dx fs)) (n : (["many", "again", "highest", "rule", "drawn_values", "sum_so_far", "now", "most", "certain"] : List Str).contains m = false) : fs.lookup m = none := by
  obtain ⟨dx', t, r, s, now, mm, vs, G⟩ := h
  rw [G.ins] at hi
  cases hi
  have h : ∀ x ∈ (["many", "again", "highest", "rule", "drawn_values", "sum_so_far", "now", "most", "certain"] : List Str), (m == x) = false := fun x hx => by
    cases e : (m == x) with
    | false => rfl
    | true =>
      rw [beq_iff_eq.mp e, List.contains_iff_mem.mpr hx] at n
      cases n
  exact lkz (h _ (by simp)) (lkz (h _ (by simp)) (lkz (h _ (by simp)) (lkz (h _ (by simp)) (lkz (h _ (by simp)) (lkz (h _ (by simp)) (lkz (h _ (by simp)) (lkz (h _ (by simp)) (lkz (h _ (by simp)) lk0))))))))
/-- worths at some values -/
def PrOs (K : PySem.W.Frag) (H : Hp) (vs : List V) (ws : List (Option Rat)) : Prop := Paired (fun v w => PrO K H v w) vs ws
theorem PrOs.same {K : PySem.W.Frag} {H H' : Hp} (e : Same H H') : ∀ {vs : List V} {ws : List (Option Rat)}, PrOs K H vs ws → PrOs K H' vs ws
  | _, _, .nil => .nil
  | _, _, .cons h r => .cons (h.same e) (PrOs.same e r)
theorem PrOs.imm {K : PySem.W.Frag} {H H' : Hp} (e : Imm H H') : ∀ {vs : List V} {ws : List (Option Rat)}, PrOs K H vs ws → PrOs K H' vs ws
  | _, _, .nil => .nil
  | _, _, .cons h r => .cons (h.imm e) (PrOs.imm e r)
theorem PrOs.snoc {K : PySem.W.Frag} {H : Hp} {v : V} {w : Option Rat} (h : PrO K H v w) : ∀ {vs : List V} {ws : List (Option Rat)}, PrOs K H vs ws → PrOs K H (vs ++ [v]) (ws ++ [w])
  | _, _, .nil => .cons h .nil
  | _, _, .cons a r => .cons a (PrOs.snoc h r)
theorem PrOs.len {K : PySem.W.Frag} {H : Hp} {vs : List V} {ws : List (Option Rat)} (h : PrOs K H vs ws) : vs.length = ws.length := Paired.length h
theorem PrOs.take {K : PySem.W.Frag} {H : Hp} : ∀ (n : Nat) {vs : List V} {ws : List (Option Rat)}, PrOs K H vs ws → PrOs K H (vs.take n) (ws.take n)
  | 0, _, _, _ => .nil
  | _ + 1, _, _, .nil => .nil
  | n + 1, _, _, .cons a r => .cons a (PrOs.take n r)
/-- a game stands as another is played -/
theorem GAt.beside {K : PySem.W.Frag} {H H' : Hp} {a l b m : Addr} {g g' : Gm.S} (h : GAt K H a l g) (h' : GAt K H b m g') (c : But2 b m H H') (n1 : a ≠ b) (n2 : l ≠ m) : GAt K H' a l g := by
  obtain ⟨dx, fs, f3, hi⟩ := h'.ins
  obtain ⟨vs, hv⟩ := h'.lst
  obtain ⟨dx1, fs1, f1, hi1⟩ := h.ins
  obtain ⟨vs1, hv1⟩ := h.lst
  exact h.mono (c.imm hi hv) (fun o q => c _ _ n1 (ne_of hi1 hv (by intro z; cases z)) q) (fun o q => c _ _ (ne_of hv1 hi (by intro z; cases z)) n2 q) fun r C d f lf q => c _ _ (ne_of q hi (by intro z; cases z; omega)) (ne_of q hv (by intro z; cases z)) q

abbrev sp_NoStake___init__ (K : PySem.W.Frag) : Sp := spXI (He.ga K "NoStake") "turn"
def sp_is_whole (K : PySem.W.Frag) : Sp := fun vs H Q _ => ∃ (x : V) (t : Value) (b1 b2 : Bool), vs = [x] ∧ TyX K H x t ∧ PySem.W.kitOne K t (.type "int") = some b1 ∧ PySem.W.kitOne K t (.type "bool") = some b2 ∧ Q (.bl (b1 && !b2)) H
theorem isw_int {K : PySem.W.Frag} {H : Hp} {Q : VK} {E : XK} {i : Int} (q : Q (.bl true) H) : sp_is_whole K [.int i] H Q E := ⟨_, .type "int", true, false, rfl, .base (.int i), kit_ty (by decide +kernel), kit_ty (by decide +kernel), q⟩
theorem isw_w {K : PySem.W.Frag} {H : Hp} {Q : VK} {E : XK} {x : V} {b : Bool} (h : Whole K H x b) (q : Q (.bl b) H) : sp_is_whole K [x] H Q E := by
  obtain ⟨t, b1, b2, ht, h1, h2, rfl⟩ := h
  exact ⟨x, t, b1, b2, rfl, ht, h1, h2, q⟩
def sp_in_common (K : PySem.W.Frag) : Sp := fun vs H Q _ => ∃ (a b : Int), vs = [.int a, .int b] ∧ Q (.int (Int.gcd a b : Int)) H
def sp_lowest (K : PySem.W.Frag) : Sp := fun vs H Q E => ∃ (a b : Int), vs = [.int a, .int b] ∧ (b = 0 → E (.ref (He.ga K "NoFraction")) none H) ∧ (b ≠ 0 → Okd a b ∧ ∀ p H', Same H H' → SqT K H' p (Fr.fq (Rat.divInt a b)) → Q (.ref p) H')
def sp_plus (K : PySem.W.Frag) : Sp := fun vs H Q _ => ∃ (p q : Addr) (x y : Rat) (m n : Nat), vs = [.ref p, .ref q] ∧ SqT K H p (Fr.fq x) ∧ SqT K H q (Fr.fq y) ∧ Fr.Sz m x ∧ Fr.Sz n y ∧ m + n ≤ 9000 ∧ ∀ r H', Same H H' → SqT K H' r (Fr.fq (x + y)) → Fr.Sz (m + n + 1) (x + y) → Q (.ref r) H'
def sp_minus (K : PySem.W.Frag) : Sp := fun vs H Q _ => ∃ (p q : Addr) (x y : Rat) (m n : Nat), vs = [.ref p, .ref q] ∧ SqT K H p (Fr.fq x) ∧ SqT K H q (Fr.fq y) ∧ Fr.Sz m x ∧ Fr.Sz n y ∧ m + n ≤ 9000 ∧ ∀ r H', Same H H' → SqT K H' r (Fr.fq (x - y)) → Fr.Sz (m + n + 1) (x - y) → Q (.ref r) H'
def sp_times (K : PySem.W.Frag) : Sp := fun vs H Q _ => ∃ (p q : Addr) (x y : Rat) (m n : Nat), vs = [.ref p, .ref q] ∧ SqT K H p (Fr.fq x) ∧ SqT K H q (Fr.fq y) ∧ Fr.Sz m x ∧ Fr.Sz n y ∧ (m + n ≤ 9000 ∨ (m + n ≤ 1000000 ∧ y ≠ 0 ∧ 2 * n ≤ 9000)) ∧ ∀ r H', Same H H' → SqT K H' r (Fr.fq (x * y)) → Fr.Sz (m + n) (x * y) → Q (.ref r) H'
def sp_over (K : PySem.W.Frag) : Sp := fun vs H Q E => ∃ (p q : Addr) (x y : Rat) (m n : Nat), vs = [.ref p, .ref q] ∧ SqT K H p (Fr.fq x) ∧ SqT K H q (Fr.fq y) ∧ Fr.Sz m x ∧ Fr.Sz n y ∧ m + n ≤ 9000 ∧ (y = 0 → E (.ref (He.ga K "NoFraction")) none H) ∧ (y ≠ 0 → ∀ r H', Same H H' → SqT K H' r (Fr.fq (x / y)) → Fr.Sz (m + n) (x / y) → Q (.ref r) H')
def sp_total (K : PySem.W.Frag) : Sp := fun vs H Q _ => ∃ (a : Addr) (xs : List V) (qs : List Rat) (ns : List Nat), vs = [.ref a] ∧ (SqL K H a xs ∨ SqT K H a xs) ∧ Fqs K H xs qs ∧ Paired (fun q n => Fr.Sz n q) qs ns ∧ szs ns ≤ 9000 ∧
  ∀ r H', Same H H' → SqT K H' r (Fr.fq (sum qs)) → Fr.Sz (szs ns) (sum qs) → Q (.ref r) H'
def sp_below (K : PySem.W.Frag) : Sp := fun vs H Q _ => ∃ (p q : Addr) (x y : Rat) (m n : Nat), vs = [.ref p, .ref q] ∧ SqT K H p (Fr.fq x) ∧ SqT K H q (Fr.fq y) ∧ Fr.Sz m x ∧ Fr.Sz n y ∧ m + n ≤ 134217728 ∧ Q (.bl (decide (x < y))) H
def sp_is_fraction (K : PySem.W.Frag) : Sp := fun vs H Q _ => ∃ (x : V) (b : Bool), vs = [x] ∧ IsF K H x b ∧ Q (.bl b) H
def sp_Game___init__ (K : PySem.W.Frag) : Sp := fun vs H Q _ => ∃ (a dx t r : Addr) (n : Nat) (ag : Bool) (top : Rat) (R : Ru.R), vs = [.ref a, .int (n : Int), .bl ag, .ref t, .ref r] ∧ H a = some (.ins (He.ga K "Game") dx []) ∧ SqT K H t (Fr.fq top) ∧ RAt K H r R ∧ r ≠ a ∧
  ∀ l H', But a H H' → H l = none → GAt K H' a l (Gm.init n ag top R) → Q .non H'
def sp_Game_ended (K : PySem.W.Frag) : Sp := fun vs H Q _ => ∃ (a l : Addr) (g : Gm.S), vs = [.ref a] ∧ GAt K H a l g ∧ Q (.bl (Gm.ended g)) H
def sp_Game_price (K : PySem.W.Frag) : Sp := fun vs H Q _ => ∃ (a l : Addr) (g : Gm.S) (c : Nat), vs = [.ref a] ∧ GAt K H a l g ∧ Fr.Sz c (Lw.sum g.vals) ∧ c ≤ 1000 ∧ g.n ≤ 60 ∧ (g.ag = false → g.vals.length ≤ g.n) ∧ ∀ v H', Same H H' → PrO K H' v (Gm.priceO g) → Q v H'
def sp_Game_worth_behind (K : PySem.W.Frag) : Sp := fun vs H Q _ => ∃ (a l p : Addr) (g : Gm.S) (v : Rat) (b c t z : Nat), vs = [.ref a, .ref p] ∧ GAt K H a l g ∧ SqT K H p (Fr.fq v) ∧ Gm.Fits g v b c t z ∧ g.cert = false ∧ ∀ r H', Same H H' → SqT K H' r (Fr.fq (Gm.behind g v)) → Q (.ref r) H'
def sp_Game_play (K : PySem.W.Frag) : Sp := fun vs H Q E => ∃ (a l p : Addr) (g : Gm.S) (v : Rat), vs = [.ref a, .ref p] ∧ GAt K H a l g ∧ SqT K H p (Fr.fq v) ∧ ((Gm.ended g = true ∧ E (.ref (He.ga K "Ended")) none H) ∨ ∃ b c t z, Gm.Fits g v b c t z ∧ ∀ H', But2 a l H H' → GAt K H' a l (Gm.play g v) → Q .non H')
def sp_Game_reached (K : PySem.W.Frag) : Sp := fun vs H Q _ => ∃ (a l p : Addr) (g : Gm.S) (x : Rat) (m n : Nat), vs = [.ref a, .ref p] ∧ GAt K H a l g ∧ SqT K H p (Fr.fq x) ∧ (g.cert = false → Fr.Sz m g.most) ∧ Fr.Sz n x ∧ (m + n ≤ 9000 ∨ (m + n ≤ 1000000 ∧ x ≠ 0 ∧ 2 * n ≤ 9000)) ∧ ∀ H', Same H H' → Q (.bl (Gm.reached g x)) H'
def sp_Way___init__ (K : PySem.W.Frag) : Sp := fun vs H Q _ => ∃ (a C dx : Addr) (u : V), vs = [.ref a, u] ∧ H a = some (.ins C dx []) ∧ Cls K C ∧ NoAttr K C "claim" ∧ ∀ H', But a H H' → H' a = some (.ins C dx [("claim", u)]) → Q .non H'
def sp_Comparing___init__ (K : PySem.W.Frag) : Sp := fun vs H Q E => ∃ (a w p dx : Addr) (c : Cm.C) (ms : List (Option Str)) (n : Nat) (H0 : Hp), vs = [.ref a, .ref w, .ref p] ∧ Same H0 H ∧ H0 a = none ∧ H a = some (.ins (He.ga K "Comparing") dx []) ∧ Cm.At K H0 w c ∧ Cm.Ok n c ∧ n ≤ 50 ∧ SqT K H0 p (ms.map Cm.mv) ∧ 1 ≤ ms.length ∧ ms.length ≤ 62 ∧
  (¬ Cm.holds c ms → ∀ H', Same H0 H' → E (.ref (He.ga K "NoMargin")) none H') ∧
  (Cm.holds c ms → ∀ (l r : Addr) (ys : List V) H', Same H0 H' → H' a = some (.ins (He.ga K "Comparing") dx [("claim", .ref w), ("told", .ref l), ("scale", .ref r)]) → H' l = some (.lst ys) → Fqs K H' ys (ms.map (Cm.value c)) → SqT K H' r (Fr.fq (Wy.scale c ms)) → Fr.Sz 5000 (Wy.scale c ms) → Q .non H')
def sp_Comparing_value (K : PySem.W.Frag) : Sp := fun vs H Q _ => ∃ (a : Addr) (i : Nat) (m t : Option Str) (c : Cm.C) (ms : List (Option Str)) (n : Nat), vs = [.ref a, .int (i : Int), Cm.mv m] ∧ Wy.Wa K H a c ms ∧ ms[i]? = some t ∧ Cm.Ok n c ∧ n ≤ 50 ∧ ∀ p H', Same H H' → SqT K H' p (Fr.fq (Wy.cmp c ms t m)) → Q (.ref p) H'
def sp_Comparing_top (K : PySem.W.Frag) : Sp := fun vs H Q _ => ∃ (a : Addr) (c : Cm.C) (ms : List (Option Str)) (n : Nat), vs = [.ref a] ∧ Wy.Wa K H a c ms ∧ 1 ≤ ms.length ∧ Cm.Ok n c ∧ ∀ p H', Same H H' → SqT K H' p (Fr.fq (2 / Wy.scale c ms)) → Q (.ref p) H'
def sp_draws_alike (K : PySem.W.Frag) : Sp := fun vs H Q E => ∃ (w p ra lp : Addr) (c : Cm.C) (ms : List (Option Str)) (x : Rat) (R : Ru.R) (b : Bool), vs = [.ref w, .ref p, .ref ra, .ref lp, .bl b] ∧ Cm.At K H w c ∧ Cm.Ok 7 c ∧ SqT K H p (ms.map Cm.mv) ∧ 1 ≤ ms.length ∧ ms.length ≤ 60 ∧ RAt K H ra R ∧ Ru.Ok 7 R ∧ SqT K H lp (Fr.fq x) ∧ Fr.Sz 20 x ∧ 0 < x ∧
  (¬ Cm.holds c ms → ∀ H', Same H H' → E (.ref (He.ga K "NoMargin")) none H') ∧ (Cm.holds c ms → ∀ H', Same H H' → Q (turnV (alturn c ms x R b)) H')
def sp_Claim_value (K : PySem.W.Frag) : Sp := fun vs H Q _ => ∃ (a : Addr) (m : Option Str) (c : Cm.C) (n : Nat), vs = [.ref a, Cm.mv m] ∧ Cm.At K H a c ∧ Cm.Ok n c ∧ n ≤ 1000 ∧ ∀ p H', Same H H' → SqT K H' p (Fr.fq (Cm.value c m)) → Q (.ref p) H'
def sp_Claim_value_of (K : PySem.W.Frag) : Sp := fun vs H Q _ => ∃ (a : Addr) (m : Option Str) (c : Cm.C) (n : Nat), vs = [.ref a, Cm.mv m] ∧ Cm.At K H a c ∧ Cm.Ok n c ∧ n ≤ 1000 ∧ c = .claim ∧ ∀ p H', Same H H' → SqT K H' p (Fr.fq (Cm.valueOf c m)) → Q (.ref p) H'
def sp_Claim_greatest (K : PySem.W.Frag) : Sp := fun vs H Q _ => ∃ (a : Addr) (c : Cm.C) (n : Nat), vs = [.ref a] ∧ Cm.At K H a c ∧ Cm.Ok n c ∧ n ≤ 1000 ∧ c = .claim ∧ ∀ p H', Same H H' → SqT K H' p (Fr.fq (Cm.greatest c)) → Q (.ref p) H'
def sp_Claim_holds (K : PySem.W.Frag) : Sp := fun vs H Q _ => ∃ (a p : Addr) (c : Cm.C) (ms : List (Option Str)) (n : Nat), vs = [.ref a, .ref p] ∧ Cm.At K H a c ∧ Cm.Ok n c ∧ SqT K H p (ms.map Cm.mv) ∧ n ≤ 1000 ∧ ms.length * (n + 6) + 1 ≤ 8000 ∧
  ∀ H', Same H H' → Q (.bl (decide (Cm.holds c ms))) H'
def sp_Beats___init__ (K : PySem.W.Frag) : Sp := fun vs H Q _ => ∃ (a dx : Addr) (u0 u1 : V), vs = [.ref a, u0, u1] ∧ H a = some (.ins (He.ga K "Beats") dx []) ∧ ∀ H', But a H H' → H' a = some (.ins (He.ga K "Beats") dx [("one", u0), ("other", u1)]) → Q .non H'
def sp_Beats_value_of (K : PySem.W.Frag) : Sp := fun vs H Q _ => ∃ (a : Addr) (m : Option Str) (c : Cm.C) (n : Nat), vs = [.ref a, Cm.mv m] ∧ Cm.At K H a c ∧ Cm.Ok n c ∧ n ≤ 1000 ∧ (∃ o t, c = .beats o t) ∧ ∀ p H', Same H H' → SqT K H' p (Fr.fq (Cm.valueOf c m)) → Q (.ref p) H'
def sp_Beats_greatest (K : PySem.W.Frag) : Sp := fun vs H Q _ => ∃ (a : Addr) (c : Cm.C) (n : Nat), vs = [.ref a] ∧ Cm.At K H a c ∧ Cm.Ok n c ∧ n ≤ 1000 ∧ (∃ o t, c = .beats o t) ∧ ∀ p H', Same H H' → SqT K H' p (Fr.fq (Cm.greatest c)) → Q (.ref p) H'
def sp_Over___init__ (K : PySem.W.Frag) : Sp := fun vs H Q _ => ∃ (a dx : Addr) (u0 u1 : V), vs = [.ref a, u0, u1] ∧ H a = some (.ins (He.ga K "Over") dx []) ∧ ∀ H', But a H H' → H' a = some (.ins (He.ga K "Over") dx [("name", u0), ("share", u1)]) → Q .non H'
def sp_Over_value_of (K : PySem.W.Frag) : Sp := fun vs H Q _ => ∃ (a : Addr) (m : Option Str) (c : Cm.C) (n : Nat), vs = [.ref a, Cm.mv m] ∧ Cm.At K H a c ∧ Cm.Ok n c ∧ n ≤ 1000 ∧ (∃ k s, c = .over k s) ∧ ∀ p H', Same H H' → SqT K H' p (Fr.fq (Cm.valueOf c m)) → Q (.ref p) H'
def sp_Over_greatest (K : PySem.W.Frag) : Sp := fun vs H Q _ => ∃ (a : Addr) (c : Cm.C) (n : Nat), vs = [.ref a] ∧ Cm.At K H a c ∧ Cm.Ok n c ∧ n ≤ 1000 ∧ (∃ k s, c = .over k s) ∧ ∀ p H', Same H H' → SqT K H' p (Fr.fq (Cm.greatest c)) → Q (.ref p) H'
def sp_Under___init__ (K : PySem.W.Frag) : Sp := fun vs H Q _ => ∃ (a dx : Addr) (u0 u1 : V), vs = [.ref a, u0, u1] ∧ H a = some (.ins (He.ga K "Under") dx []) ∧ ∀ H', But a H H' → H' a = some (.ins (He.ga K "Under") dx [("name", u0), ("share", u1)]) → Q .non H'
def sp_Under_value_of (K : PySem.W.Frag) : Sp := fun vs H Q _ => ∃ (a : Addr) (m : Option Str) (c : Cm.C) (n : Nat), vs = [.ref a, Cm.mv m] ∧ Cm.At K H a c ∧ Cm.Ok n c ∧ n ≤ 1000 ∧ (∃ k s, c = .under k s) ∧ ∀ p H', Same H H' → SqT K H' p (Fr.fq (Cm.valueOf c m)) → Q (.ref p) H'
def sp_Under_greatest (K : PySem.W.Frag) : Sp := fun vs H Q _ => ∃ (a : Addr) (c : Cm.C) (n : Nat), vs = [.ref a] ∧ Cm.At K H a c ∧ Cm.Ok n c ∧ n ≤ 1000 ∧ (∃ k s, c = .under k s) ∧ ∀ p H', Same H H' → SqT K H' p (Fr.fq (Cm.greatest c)) → Q (.ref p) H'
def sp_within (K : PySem.W.Frag) : Sp := fun vs H Q _ => ∃ (p : Addr) (x : Rat) (m : Nat), vs = [.ref p] ∧ SqT K H p (Fr.fq x) ∧ Fr.Sz m x ∧ m ≤ 100000 ∧ ∀ r, SqT K H r (Fr.fq (Ru.clip x)) → Q (.ref r) H
def sp_Rule_stake (K : PySem.W.Frag) : Sp := fun vs H Q _ => ∃ a b c d : V, vs = [a, b, c, d] ∧ ∀ p, SqT K H p (Fr.fq 0) → Q (.ref p) H
def sp_Fixed___init__ (K : PySem.W.Frag) : Sp := fun vs H Q _ => ∃ (a dx : Addr) (u : V), vs = [.ref a, u] ∧ H a = some (.ins (He.ga K "Fixed") dx []) ∧ ∀ H', But a H H' → H' a = some (.ins (He.ga K "Fixed") dx [("part", u)]) → Q .non H'
def sp_Fixed_stake (K : PySem.W.Frag) : Sp := fun vs H Q _ => ∃ (a dx : Addr) (u b c d : V), vs = [.ref a, b, c, d] ∧ H a = some (.ins (He.ga K "Fixed") dx [("part", u)]) ∧ Q u H
def sp_Learning___init__ (K : PySem.W.Frag) : Sp := fun vs H Q _ => ∃ (a dx : Addr) (u0 u1 : V), vs = [.ref a, u0, u1] ∧ H a = some (.ins (He.ga K "Learning") dx []) ∧ ∀ H', But a H H' → H' a = some (.ins (He.ga K "Learning") dx [("guess", u0), ("weight", u1)]) → Q .non H'
def sp_Learning_stake (K : PySem.W.Frag) : Sp := fun vs H Q _ => ∃ (a dx ga l p t : Addr) (w : Nat) (g x y : Rat) (xs : List V) (qs : List Rat) (m b z : Nat), vs = [.ref a, .ref l, .ref p, .ref t] ∧ H a = some (.ins (He.ga K "Learning") dx [("guess", .ref ga), ("weight", .int (w : Int))]) ∧ SqT K H ga (Fr.fq g) ∧ Fr.Sz 9 g ∧ 1 ≤ w ∧ w ≤ 100 ∧
  SqT K H l xs ∧ Fqs K H xs qs ∧ (∀ q ∈ qs, Fr.Sz b q) ∧ qs.length ≤ 60 ∧ b ≤ 90 ∧ SqT K H p (Fr.fq x) ∧ SqT K H t (Fr.fq y) ∧ Fr.Sz m x ∧ Fr.Sz z y ∧ m ≤ 700 ∧ z ≤ 200 ∧ ∀ r H', Same H H' → SqT K H' r (Fr.fq (Ru.learn g (w : Rat) qs x y)) → Q (.ref r) H'
def sp_Asked___init__ (K : PySem.W.Frag) : Sp := fun vs H Q _ => ∃ (a dx : Addr) (u : V), vs = [.ref a, u] ∧ H a = some (.ins (He.ga K "Asked") dx []) ∧ ∀ H', But a H H' → H' a = some (.ins (He.ga K "Asked") dx [("function", u)]) → Q .non H'
def sp_Asked_stake (K : PySem.W.Frag) : Sp := fun vs H Q _ => ∃ (a dx f l : Addr) (u v : V) (φ : List Rat → Rat) (xs : List V) (qs : List Rat) (b z : Nat), vs = [.ref a, .ref l, u, v] ∧ H a = some (.ins (He.ga K "Asked") dx [("function", .ref f)]) ∧ Tells K H f φ ∧ SqT K H l xs ∧ Fqs K H xs qs ∧
  (∀ q ∈ qs, Fr.Sz b q) ∧ qs.length ≤ 60 ∧ b ≤ 90 ∧ Fr.Sz z (φ qs) ∧ z ≤ 2000 ∧ 0 ≤ φ qs ∧ φ qs ≤ 1 ∧ ∀ r H', Same H H' → SqT K H' r (Fr.fq (φ qs)) → Q (.ref r) H'
def sp__law_digits (K : PySem.W.Frag) : Sp := fun vs H Q _ => ∃ (a : Addr) (ns : List Int) (k : Int), vs = [.ref a, .int k] ∧ SqL K H a (ns.map V.int) ∧ ns.length ≤ 63 ∧ 0 ≤ k ∧ k ≤ 100000 ∧ ∀ (r : Int) H', Same H H' → 0 ≤ r → r < 10000000000000000000000000000000000000000000000000000000000000 → Q (.int r) H'
def sp__law_deck (K : PySem.W.Frag) : Sp := fun vs H Q _ => ∃ (a : Addr) (ns : List Int) (m : Nat), vs = [.ref a, .int (m : Int)] ∧ SqL K H a (ns.map V.int) ∧ ns.length ≤ 63 ∧ m ≤ 100000 ∧
  ∀ (l : Addr) (ds : List Int) H', Same H H' → H l = none → H' l = some (.lst (ds.map V.int)) → ds.length = m → Deck ds → Q (.ref l) H'
def sp__law_common (K : PySem.W.Frag) : Sp := fun vs H Q _ => ∃ (a b : Int), vs = [.int a, .int b] ∧ Q (.int (Int.gcd a b : Int)) H
def sp__law_made (K : PySem.W.Frag) : Sp := fun vs H Q _ => ∃ (a b : Int), vs = [.int a, .int b] ∧ b ≠ 0 ∧ Okd a b ∧ ∀ p H', Same H H' → SqT K H' p (Fr.fq (Rat.divInt a b)) → Q (.ref p) H'
def sp__law_less (K : PySem.W.Frag) : Sp := fun vs H Q _ => ∃ (p q : Addr) (x y : Rat) (m n : Nat), vs = [.ref p, .ref q] ∧ SqT K H p (Fr.fq x) ∧ SqT K H q (Fr.fq y) ∧ Fr.Sz m x ∧ Fr.Sz n y ∧ m + n ≤ 134217728 ∧ Q (.bl (decide (x < y))) H
def sp__law_sum (K : PySem.W.Frag) : Sp := fun vs H Q _ => ∃ (p q : Addr) (a b c d : Int) (m n : Nat), vs = [.ref p, .ref q] ∧ SqT K H p [.int a, .int b] ∧ SqT K H q [.int c, .int d] ∧ a.natAbs < 2 ^ m ∧ b.natAbs < 2 ^ m ∧ c.natAbs < 2 ^ n ∧ d.natAbs < 2 ^ n ∧ m + n ≤ 8999 ∧ 0 < b ∧ 0 < d ∧
  ∀ r H', Same H H' → SqT K H' r (Fr.fq (Rat.divInt a b + Rat.divInt c d)) → Fr.Sz (m + n + 1) (Rat.divInt a b + Rat.divInt c d) → Q (.ref r) H'
theorem sum_fq {K : PySem.W.Frag} {H : Hp} {Q : VK} {E : XK} {p q : Addr} {x y : Rat} {m n : Nat} (hp : SqT K H p (Fr.fq x)) (hq : SqT K H q (Fr.fq y)) (sx : Fr.Sz m x) (sy : Fr.Sz n y) (hmn : m + n ≤ 8999)
    (k : ∀ r H', Same H H' → SqT K H' r (Fr.fq (x + y)) → Fr.Sz (m + n + 1) (x + y) → Q (.ref r) H') : sp__law_sum K [.ref p, .ref q] H Q E :=
  ⟨p, q, _, _, _, _, m, n, rfl, hp, hq, sx.1, sx.den, sy.1, sy.den, hmn, Fr.den_pos x, Fr.den_pos y, by rw [Rat.num_divInt_den, Rat.num_divInt_den]; exact k⟩
def sp__law_product (K : PySem.W.Frag) : Sp := fun vs H Q _ => ∃ (p q : Addr) (a b c d : Int) (m n : Nat), vs = [.ref p, .ref q] ∧ SqT K H p [.int a, .int b] ∧ SqT K H q [.int c, .int d] ∧ a.natAbs < 2 ^ m ∧ b.natAbs < 2 ^ m ∧ c.natAbs < 2 ^ n ∧ d.natAbs < 2 ^ n ∧ m + n ≤ 1000000 ∧ Okd (a * c) (b * d) ∧ 0 < b ∧ 0 < d ∧
  ∀ r H', Same H H' → SqT K H' r (Fr.fq (Rat.divInt a b * Rat.divInt c d)) → Fr.Sz (m + n) (Rat.divInt a b * Rat.divInt c d) → Q (.ref r) H'
theorem prod_fq {K : PySem.W.Frag} {H : Hp} {Q : VK} {E : XK} {p q : Addr} {x y : Rat} {m n : Nat} (hp : SqT K H p (Fr.fq x)) (hq : SqT K H q (Fr.fq y)) (sx : Fr.Sz m x) (sy : Fr.Sz n y) (hmn : m + n ≤ 9000)
    (k : ∀ r H', Same H H' → SqT K H' r (Fr.fq (x * y)) → Fr.Sz (m + n) (x * y) → Q (.ref r) H') : sp__law_product K [.ref p, .ref q] H Q E :=
  ⟨p, q, _, _, _, _, m, n, rfl, hp, hq, sx.1, sx.den, sy.1, sy.den, by omega, okd_den (Int.mul_ne_zero (Fr.den_ne x) (Fr.den_ne y)) (Fr.dd_lt sx sy) hmn, Fr.den_pos x, Fr.den_pos y, by rw [Rat.num_divInt_den, Rat.num_divInt_den]; exact k⟩
theorem prod_big {K : PySem.W.Frag} {H : Hp} {Q : VK} {E : XK} {p q : Addr} {x y : Rat} {m n : Nat} (hp : SqT K H p (Fr.fq x)) (hq : SqT K H q (Fr.fq y)) (sx : Fr.Sz m x) (sy : Fr.Sz n y) (hmn : m + n ≤ 9000 ∨ (m + n ≤ 1000000 ∧ y ≠ 0 ∧ 2 * n ≤ 9000))
    (k : ∀ r H', Same H H' → SqT K H' r (Fr.fq (x * y)) → Fr.Sz (m + n) (x * y) → Q (.ref r) H') : sp__law_product K [.ref p, .ref q] H Q E :=
  ⟨p, q, _, _, _, _, m, n, rfl, hp, hq, sx.1, sx.den, sy.1, sy.den, by omega, hmn.elim (fun h => okd_den (Int.mul_ne_zero (Fr.den_ne x) (Fr.den_ne y)) (Fr.dd_lt sx sy) h) fun h => okd_mul h.2.1 sy h.2.2, Fr.den_pos x, Fr.den_pos y, by rw [Rat.num_divInt_den, Rat.num_divInt_den]; exact k⟩
def sp__law_stake (K : PySem.W.Frag) : Sp := fun vs H Q _ => ∃ (a l p t : Addr) (r : Ru.R) (xs : List V) (qs : List Rat) (x y : Rat) (b m n z : Nat), vs = [.ref a, .ref l, .ref p, .ref t] ∧ Rt K H a r ∧ Ru.Ok z r ∧ SqL K H l xs ∧ Fqs K H xs qs ∧ (∀ q ∈ qs, Fr.Sz b q) ∧ qs.length ≤ 60 ∧ b ≤ 90 ∧
  SqT K H p (Fr.fq x) ∧ SqT K H t (Fr.fq y) ∧ Fr.Sz m x ∧ Fr.Sz n y ∧ m ≤ 700 ∧ n ≤ 200 ∧ ∀ f H', Same H H' → SqT K H' f (Fr.fq (Ru.stakeOf r qs x y)) → Q (.ref f) H'
theorem price_form {m k : Nat} {s : Rat} (h : k < m) : Rat.divInt ((m : Int) * (s.den : Int) - 2 * s.num) (2 * (s.den : Int) * ((m : Int) - (k : Int))) = ((m : Rat) / 2 - s) / ((m - k : Nat) : Rat) := by
  have e0 : ((m : Int) - (k : Int)) = ((m - k : Nat) : Int) := by omega
  have e1 := Gm.mul_den s
  rw [e0, Rat.divInt_eq_div]
  simp only [Rat.intCast_sub, Rat.intCast_mul, Rat.intCast_natCast]
  have c1 := Gm.nat_pos (n := s.den) s.den_pos
  have c2 := Gm.nat_pos (n := m - k) (by omega)
  have e2 : ((2 : Int) : Rat) = 2 := rfl
  rw [e2, ← e1]
  generalize (s.den : Rat) = d at *
  generalize ((m - k : Nat) : Rat) = kk at *
  generalize (m : Rat) = nn at *
  grind
theorem grown_form {s v p : Rat} : Rat.divInt (s.num * v.num * (p.den : Int)) ((s.den : Int) * (v.den : Int) * p.num) = s * v / p := by
  rw [← Rat.divInt_mul_divInt, Fr.mul_eq, Rat.div_def, Rat.inv_def]
theorem rest_form {s : Rat} : Rat.divInt ((s.den : Int) - s.num) (s.den : Int) = 1 - s := by
  have e1 := Gm.mul_den s
  rw [Rat.divInt_eq_div, Rat.intCast_sub, Rat.intCast_natCast, ← e1]
  have c1 := Gm.nat_pos (n := s.den) s.den_pos
  generalize (s.den : Rat) = d at *
  grind
theorem hit_of {p : Gg.Par} {D : Nat} {g : Gm.S} {x : Rat} (s : Gg.Std p D g) : Gg.hit x g = (Gm.atLim x (some g.now) || g.cert) := by
  unfold Gg.hit Gm.worthO
  cases g.cert with
  | true => rw [if_pos rfl]; simp [Gm.atLim]
  | false => rw [if_neg (by decide)]; simp
theorem fqs_take {K : PySem.W.Frag} {H : Hp} : ∀ (n : Nat) {vs : List V} {qs : List Rat}, Fqs K H vs qs → Fqs K H (vs.take n) (qs.take n)
  | 0, _, _, _ => .nil
  | _ + 1, _, _, .nil => .nil
  | n + 1, _, _, .cons a r => .cons a (fqs_take n r)
def sp__law_turn (K : PySem.W.Frag) : Sp := fun vs H Q _ => ∃ (l t rp lp : Addr) (xs : List V) (qs : List Rat) (m D : Nat) (b : Bool) (top x : Rat) (R : Ru.R) (p : Gg.Par), vs = [.ref l, .int (m : Int), .ref t, .ref rp, .ref lp, .bl b] ∧ SqL K H l xs ∧ Fqs K H xs qs ∧ SqT K H t (Fr.fq top) ∧ Rt K H rp R ∧ SqT K H lp (Fr.fq x) ∧ Fr.Sz 20 x ∧
  Gg.Std p D (Gm.init m b top R) ∧ (∀ q ∈ qs, Gg.Vok p D top q) ∧ (b = false → qs.length ≤ m) ∧ qs.length ≤ p.L ∧ ∀ H', Same H H' → Q (turnV (Gg.turn x (Gm.init m b top R) qs)) H'
/-- three things to take one of -/
theorem one_of3 {a b c : V} (e : Int) : ∃ v, atI [a, b, c] (e % 3) = some v ∧ (v = a ∨ v = b ∨ v = c) := by
  have h0 := Int.emod_nonneg e (show (3 : Int) ≠ 0 by decide)
  have h1 := Int.emod_lt_of_pos e (show (0 : Int) < 3 by decide)
  obtain h | h | h : e % 3 = 0 ∨ e % 3 = 1 ∨ e % 3 = 2 := by omega
  · exact ⟨a, by rw [h]; rfl, .inl rfl⟩
  · exact ⟨b, by rw [h]; rfl, .inr (.inl rfl)⟩
  · exact ⟨c, by rw [h]; rfl, .inr (.inr rfl)⟩
theorem one_of4 {a b c d : V} (e : Int) : ∃ v, atI [a, b, c, d] (e % 4) = some v ∧ (v = a ∨ v = b ∨ v = c ∨ v = d) := by
  have h0 := Int.emod_nonneg e (show (4 : Int) ≠ 0 by decide)
  have h1 := Int.emod_lt_of_pos e (show (0 : Int) < 4 by decide)
  obtain h | h | h | h : e % 4 = 0 ∨ e % 4 = 1 ∨ e % 4 = 2 ∨ e % 4 = 3 := by omega
  · exact ⟨a, by rw [h]; rfl, .inl rfl⟩
  · exact ⟨b, by rw [h]; rfl, .inr (.inl rfl)⟩
  · exact ⟨c, by rw [h]; rfl, .inr (.inr (.inl rfl))⟩
  · exact ⟨d, by rw [h]; rfl, .inr (.inr (.inr rfl))⟩
theorem one_of2 {a b : V} (e : Int) : ∃ v, atI [a, b] (e % 2) = some v ∧ (v = a ∨ v = b) := by
  have h0 := Int.emod_nonneg e (show (2 : Int) ≠ 0 by decide)
  have h1 := Int.emod_lt_of_pos e (show (0 : Int) < 2 by decide)
  obtain h | h : e % 2 = 0 ∨ e % 2 = 1 := by omega
  · exact ⟨a, by rw [h]; rfl, .inl rfl⟩
  · exact ⟨b, by rw [h]; rfl, .inr rfl⟩
theorem deck_last {ds : List Int} (h : Deck ds) (n : 1 ≤ ds.length) : ∃ es e, ds.map V.int = es.map V.int ++ [V.int e] ∧ Deck es ∧ 0 ≤ e ∧ e < 10000000000000000000000000000000000000000000000000000000000000 ∧ ds.length = es.length + 1 := by
  obtain ⟨es, e, rfl⟩ := Dk.last ds (by omega)
  exact ⟨es, e, by rw [List.map_append]; rfl, h.last.1, h.last.2.1, h.last.2.2, by simp⟩
def sp__law_part (K : PySem.W.Frag) : Sp := fun vs H Q _ => ∃ (l : Addr) (ds : List Int), vs = [.ref l] ∧ H l = some (.lst (ds.map V.int)) ∧ Deck ds ∧ 3 ≤ ds.length ∧ ∀ (r : Addr) (q : Rat) (es : List Int) H', But l H H' → H' l = some (.lst (es.map V.int)) → Deck es → ds.length = es.length + 3 → SqT K H' r (Fr.fq q) → 0 ≤ q → q ≤ 1 → Fr.Sz 7 q → Q (.ref r) H'
def sp__law_rule (K : PySem.W.Frag) : Sp := fun vs H Q _ => ∃ (l : Addr) (ds : List Int), vs = [.ref l] ∧ H l = some (.lst (ds.map V.int)) ∧ Deck ds ∧ 14 ≤ ds.length ∧ ∀ (p : Addr) (r : Ru.R) (es : List Int) H', But l H H' → H' l = some (.lst (es.map V.int)) → Deck es → ds.length ≤ es.length + 14 → Rt K H' p r → Ru.Ok 7 r → Q (.ref p) H'
def sp__law_rule_of (K : PySem.W.Frag) : Sp := fun vs H Q _ => ∃ (p : Addr) (r : Ru.R), vs = [.ref p] ∧ Rt K H p r ∧ TabK K H p__law_rule_of__lam q__law_rule_of__lam ∧ ∀ a H', ExtN H H' → TabK K H' p__law_rule_of__lam q__law_rule_of__lam → RAt K H' a r → Q (.ref a) H'
def sp__law_limit (K : PySem.W.Frag) : Sp := fun vs H Q _ => ∃ (l : Addr) (ds : List Int), vs = [.ref l] ∧ H l = some (.lst (ds.map V.int)) ∧ Deck ds ∧ 3 ≤ ds.length ∧ ∀ (r : Addr) (q : Rat) (es : List Int) H', But l H H' → H' l = some (.lst (es.map V.int)) → Deck es → ds.length = es.length + 3 → SqT K H' r (Fr.fq q) → 0 < q → q ≤ 1 → Fr.Sz 10 q → Q (.ref r) H'
/-- a claim as these laws tell it, its greatest value behind it -/
def Cg (K : PySem.W.Frag) (H : Hp) (p : Addr) (c : Cm.C) : Prop := ∃ (k : Str) (f g : Addr) (s : Rat), SqT K H p [.str k, .ref f, .ref g] ∧ SqT K H f (Fr.fq s) ∧ SqT K H g (Fr.fq (Cm.greatest c)) ∧ k = Cm.kindOf c ∧
  match c with | .claim => False | .beats o t => o = Str.ofString "ann" ∧ t = Str.ofString "bo" | .over n s' => n = Str.ofString "ann" ∧ s' = s | .under n s' => n = Str.ofString "ann" ∧ s' = s
theorem Cg.imm {K : PySem.W.Frag} {H H' : Hp} (e : Imm H H') {p : Addr} {c : Cm.C} : Cg K H p c → Cg K H' p c
  | ⟨k, f, g, s, h1, h2, h3, h4, h5⟩ => ⟨k, f, g, s, seqT_imm e h1, seqT_imm e h2, seqT_imm e h3, h4, h5⟩
def sp__law_claim (K : PySem.W.Frag) : Sp := fun vs H Q _ => ∃ (l : Addr) (ds : List Int), vs = [.ref l] ∧ H l = some (.lst (ds.map V.int)) ∧ Deck ds ∧ 4 ≤ ds.length ∧ ∀ (r : Addr) (c : Cm.C) (es : List Int) H', But l H H' → H' l = some (.lst (es.map V.int)) → Deck es → ds.length = es.length + 4 → Cg K H' r c → Cm.Ok 7 c → Q (.ref r) H'
def sp__law_claim_of (K : PySem.W.Frag) : Sp := fun vs H Q _ => ∃ (p : Addr) (c : Cm.C), vs = [.ref p] ∧ Cg K H p c ∧ ∀ w H', Same H H' → Cm.At K H' w c → Q (.ref w) H'
def sp__law_marks (K : PySem.W.Frag) : Sp := fun vs H Q _ => ∃ (l p : Addr) (c : Cm.C) (ds : List Int), vs = [.ref l, .ref p] ∧ H l = some (.lst (ds.map V.int)) ∧ Deck ds ∧ 64 ≤ ds.length ∧ Cg K H p c ∧
  ∀ (u : Addr) (ms : List (Option Str)) H', (∀ b o, b ≠ l → H b = some o → H' b = some o) → Imm H H' → H' u = some (.lst (ms.map Cm.mv)) → 1 ≤ ms.length → ms.length ≤ 60 → (∀ m ∈ ms, m ≠ some (Str.ofString "?")) → Q (.ref u) H'
theorem val_beats (o t : Str) (m : Option Str) : Cm.valueOf (.beats o t) m = if m = some o then 1 else if m = some t then 0 else 1/2 := rfl
theorem val_over (n : Str) (s : Rat) (m : Option Str) : Cm.valueOf (.over n s) m = if m = none ∨ m = some (Str.ofString "") then 1/2 else if m = some n then Cm.greatest (.over n s) else 0 := rfl
theorem val_under (n : Str) (s : Rat) (m : Option Str) : Cm.valueOf (.under n s) m = if m = none ∨ m = some (Str.ofString "") then 1/2 else if m = some n then 0 else Cm.greatest (.under n s) := rfl
def sp__law_value (K : PySem.W.Frag) : Sp := fun vs H Q _ => ∃ (p : Addr) (c : Cm.C) (m : Option Str), vs = [.ref p, Cm.mv m] ∧ Cg K H p c ∧ m ≠ some (Str.ofString "?") ∧ ∀ r H', Same H H' → SqT K H' r (Fr.fq (Cm.value c m)) → Q (.ref r) H'
def sp__law_told (K : PySem.W.Frag) : Sp := fun vs H Q _ => ∃ (w p ra lp : Addr) (c : Cm.C) (ms : List (Option Str)) (x : Rat) (R : Ru.R) (b : Bool), vs = [.ref w, .ref p, .ref ra, .ref lp, .bl b] ∧ Cm.At K H w c ∧ Cm.Ok 7 c ∧ SqT K H p (ms.map Cm.mv) ∧ 1 ≤ ms.length ∧ ms.length ≤ 60 ∧ RAt K H ra R ∧ Ru.Ok 7 R ∧ SqT K H lp (Fr.fq x) ∧ Fr.Sz 20 x ∧ 0 < x ∧
  ∀ H', Same H H' → Q (dueV c ms x R b) H'
theorem fqs_rep {K : PySem.W.Frag} {H : Hp} {v : Addr} {q : Rat} (h : SqT K H v (Fr.fq q)) : ∀ n : Nat, Fqs K H (List.replicate n (.ref v)) (List.replicate n q)
  | 0 => .nil
  | n + 1 => .cons ⟨v, rfl, h⟩ (fqs_rep h n)
def sp__law_due (K : PySem.W.Frag) : Sp := fun vs H Q _ => ∃ (p u rp lp : Addr) (c : Cm.C) (ms : List (Option Str)) (x : Rat) (R : Ru.R) (b : Bool), vs = [.ref p, .ref u, .ref rp, .ref lp, .bl b] ∧ Cg K H p c ∧ Cm.Ok 7 c ∧ H u = some (.lst (ms.map Cm.mv)) ∧ 1 ≤ ms.length ∧ ms.length ≤ 60 ∧ (∀ m ∈ ms, m ≠ some (Str.ofString "?")) ∧ Rt K H rp R ∧ Ru.Ok 7 R ∧ SqT K H lp (Fr.fq x) ∧ Fr.Sz 20 x ∧
  ∀ H', Same H H' → Q (dueV c ms x R b) H'
theorem dp_due {K : PySem.W.Frag} {H : Hp} (v : V) (h : v = .non ∨ (∃ k : Nat, v = .int (k : Int)) ∨ v = .str (Str.ofString "margin")) : ∃ d, Dp K H v d ∧ Dt.Sh 0 d := by
  rcases h with rfl | ⟨k, rfl⟩ | rfl
  · exact ⟨.none, .non, Dt.sh_non⟩
  · exact ⟨.int (k : Int), .int _, Dt.sh_int _⟩
  · exact ⟨.str (Str.ofString "margin"), .str _, Dt.sh_str (by decide +kernel)⟩
theorem due_kinds (c : Cm.C) (ms : List (Option Str)) (x : Rat) (R : Ru.R) (b : Bool) : dueV c ms x R b = .non ∨ (∃ k : Nat, dueV c ms x R b = .int (k : Int)) ∨ dueV c ms x R b = .str (Str.ofString "margin") := by
  unfold dueV
  split
  · cases alturn c ms x R b with
    | none => exact .inl rfl
    | some k => exact .inr (.inl ⟨k, rfl⟩)
  · exact .inr (.inr rfl)
theorem at_ext {K : PySem.W.Frag} {H H' : Hp} (e : ExtN H H') {a : Addr} : ∀ {c : Cm.C}, Cm.At K H a c → Cm.At K H' a c
  | .claim, ⟨dx, h⟩ => ⟨dx, e _ _ h (by intro ps z; cases z)⟩
  | .beats _ _, ⟨dx, h⟩ => ⟨dx, e _ _ h (by intro ps z; cases z)⟩
  | .over _ _, ⟨dx, q, h, g⟩ => ⟨dx, q, e _ _ h (by intro ps z; cases z), seqT_imm (imm_ext e) g⟩
  | .under _ _, ⟨dx, q, h, g⟩ => ⟨dx, q, e _ _ h (by intro ps z; cases z), seqT_imm (imm_ext e) g⟩
def sp_law (K : PySem.W.Frag) : Sp := fun vs H Q _ => ∃ (a : Addr) (ns : List Int), vs = [.ref a] ∧ SqL K H a (ns.map V.int) ∧ ns.length ≤ 63 ∧ TabK K H p__law_rule_of__lam q__law_rule_of__lam ∧ ∀ H', Q (.bl true) H'
theorem k_stake {K : PySem.W.Frag} {σ : L2.St} {H : Hp} {Q : VK} {ta : TE} {t : TA} {E : L2.St → XK} {a p tp : Addr} {r : Ru.R} {x y : Rat} {xs : List V} {qs : List Rat} {b m d z : Nat} (hev : ∀ Q : VK, Q (.ref a) H → ta σ H Q) (ha : RAt K H a r) (ok : Ru.Ok z r) (bz : z ≤ 1500)
    (fq : Fqs K H xs qs) (sq : ∀ q ∈ qs, Fr.Sz b q) (q60 : qs.length ≤ 60) (b90 : b ≤ 90) (hp : SqT K H p (Fr.fq x)) (ht : SqT K H tp (Fr.fq y)) (sx : Fr.Sz m x) (sy : Fr.Sz d y) (hm : m ≤ 700) (hd : d ≤ 200)
    (hq : ∀ Q : List V → Hp → Prop, (∀ pa H1, Same H H1 → SqT K H1 pa xs → Q [.ref pa, .ref p, .ref tp] H1) → t σ H Q) (k : ∀ f H', Same H H' → SqT K H' f (Fr.fq (Ru.stakeOf r qs x y)) → Q (.ref f) H') :
    (tOr2 (tMethS (He.ga K "Rule") "stake" (sp_Rule_stake K) E ta t) (tOr2 (tMethS (He.ga K "Fixed") "stake" (sp_Fixed_stake K) E ta t) (tOr2 (tMethS (He.ga K "Learning") "stake" (sp_Learning_stake K) E ta t) (tMethS (He.ga K "Asked") "stake" (sp_Asked_stake K) E ta t)))) σ H Q := by
  cases r with
  | none =>
    obtain ⟨dx, h⟩ := ha
    refine k_o1 (k_meth (hev _ (k_methx h lk0 (hq _ fun pa H1 s1 h1 => ?_))))
    exact ⟨_, _, _, _, rfl, fun f hf => k f H1 s1 hf⟩
  | fixed q =>
    obtain ⟨dx, f, h, hf⟩ := ha
    refine k_o2 (k_o1 (k_meth (hev _ (k_methx h (lkz (by decide +kernel) lk0) (hq _ fun pa H1 s1 h1 => ?_)))))
    exact ⟨a, dx, _, _, _, _, rfl, s1 _ _ h, k f H1 s1 (seqT_same s1 hf)⟩
  | learn g w =>
    obtain ⟨dx, f, h, hf⟩ := ha
    obtain ⟨_, sg, w1, w2⟩ := ok
    refine k_o2 (k_o2 (k_o1 (k_meth (hev _ (k_methx h (lkz (by decide +kernel) (lkz (by decide +kernel) lk0)) (hq _ fun pa H1 s1 h1 => ?_))))))
    exact ⟨a, dx, f, pa, p, tp, w, g, x, y, xs, qs, m, b, d, rfl, s1 _ _ h, seqT_same s1 hf, sg, w1, w2, h1, fq.same s1, sq, q60, b90, seqT_same s1 hp, seqT_same s1 ht, sx, sy, hm, hd, fun f' H2 s2 h2 => k f' H2 (s1.trans s2) h2⟩
  | told φ =>
    obtain ⟨dx, f, h, hf⟩ := ha
    obtain ⟨o0, o1, oz⟩ := ok qs
    refine k_o2 (k_o2 (k_o2 ((k_meth (hev _ (k_methx h (lkz (by decide +kernel) lk0) (hq _ fun pa H1 s1 h1 => ?_)))))))
    exact ⟨a, dx, f, pa, _, _, φ, xs, qs, b, z, rfl, s1 _ _ h, hf.mono (imm_same s1), h1, fq.same s1, sq, q60, b90, oz, by omega, o0, o1, fun f' H2 s2 h2 => k f' H2 (s1.trans s2) h2⟩

end Lw
namespace Lw
open PySem PySem.Spec PyProof.Rows L2 Gx LamX NdefX
section
variable {P : Program} {w : World} {K : PySem.W.Frag} {mg : Str → Option Value} {base : Heap} {f : Addr} {fd : FuncData}
theorem ok_NoStake___init__ (F : FnP K "__init__" "NoStake.__init__" s_NoStake___init__ f fd) (T : Txt K mg) : FnOk P w K mg base (L2.CX P w) 1 f fd ["self", "turn"] (sp_NoStake___init__ K) := by
  refine F.ok sc_NoStake___init__ (fun vs H Q E h => ?_) (fun cdv A outer s H vs Q E hr h => ?_)
  · obtain ⟨a, v, rfl, _⟩ := h; rfl
  · refine ⟨_, (pss_cons (ps_expr (pe_svinit T.s_SureError rfl T.g_SureError (pa_cons (pv 0) (pa_cons pe_str pa_nil)))) (pss_one (ps_ost (pv 0) (pv 1)))), ?_⟩
    obtain ⟨a, v, rfl, h1, k⟩ := h
    walk_at "go"
    refine k_veIx T.o_NoStake h1 ?_ (by simp)
    walk_at "go"
    refine k_ostx T.o_NoStake T.f_NoStake_turn h1 (fun d hd hda => ?_)
    exact k d hd hda
end
end Lw
namespace Lw
open PySem PySem.Spec PyProof.Rows L2 Gx LamX NdefX
section
variable {P : Program} {w : World} {K : PySem.W.Frag} {mg : Str → Option Value} {base : Heap} {f : Addr} {fd : FuncData}
theorem ok_is_whole (F : FnP K "is_whole" "is_whole" s_is_whole f fd) (T : Txt K mg) : FnOk P w K mg base (L2.CX P w) 1 f fd ["thing"] (sp_is_whole K) := by
  refine F.ok sc_is_whole (fun vs H Q E h => ?_) (fun cdv A outer s H vs Q E hr h => ?_)
  · obtain ⟨x, t, b1, b2, rfl, _⟩ := h; rfl
  · refine ⟨_, (pss_one (ps_ret (pe_and (pe_callB (callK (K := K) (r := rIsi) rfl call_isi) (by rfl) T.n_isinstance (by decide +kernel) (pa_cons (pv 0) (pa_cons (pe_bltn (v := .ty "int") (by rfl) T.n_int (by decide +kernel) rfl) pa_nil))) (pe_one (pe_not (pe_callB (callK (K := K) (r := rIsi) rfl call_isi) (by rfl) T.n_isinstance (by decide +kernel) (pa_cons (pv 0) (pa_cons (pe_bltn (v := .ty "bool") (by rfl) T.n_bool (by decide +kernel) rfl) pa_nil)))))))), ?_⟩
    obtain ⟨x, t, b1, b2, rfl, ht, h1, h2, k⟩ := h
    walk_at "go"
    refine k_isi (.ty "int") ht h1 ?_
    walk_at "go"
    cases b1 with
    | false => walk_at "go"; exact k
    | true =>
      walk_at "go"
      refine k_isi (.ty "bool") ht h2 ?_
      walk_at "go"
      exact k
end
end Lw
namespace Lw
open PySem PySem.Spec PyProof.Rows L2 Gx LamX NdefX
section
variable {P : Program} {w : World} {K : PySem.W.Frag} {mg : Str → Option Value} {base : Heap} {f : Addr} {fd : FuncData}
theorem ok_in_common (F : FnP K "in_common" "in_common" s_in_common f fd) (T : Txt K mg) : FnOk P w K mg base (L2.CX P w) 1 f fd ["a", "b"] (sp_in_common K) := by
  refine F.ok sc_in_common (fun vs H Q E h => ?_) (fun cdv A outer s H vs Q E hr h => ?_)
  · obtain ⟨a, b, rfl, _⟩ := h; rfl
  · refine ⟨_, (pss_cons (ps_set (i := 0) sc_in_common.nd rfl (Or.inl rfl) (pe_callB call_absU (by rfl) T.n_abs (by decide +kernel) (pa_cons (pv 0) pa_nil))) (pss_cons (ps_set (i := 1) sc_in_common.nd rfl (Or.inl rfl) (pe_callB call_absU (by rfl) T.n_abs (by decide +kernel) (pa_cons (pv 1) pa_nil))) (pss_cons (ps_while (passes_of rfl) (pt_cmpR op_gt (pv 1) pe_int (nomark _)) (pss_one (ps_par (i := 0) (j := 1) (by rfl) sc_in_common.nd rfl rfl (by decide) rfl rfl (pa_cons (pv 1) (pa_cons (pe_op op_modN (pv 0) (pv 1)) pa_nil)) (by rfl)))) (pss_one (ps_ret (pv 0)))))), ?_⟩
    obtain ⟨a, b, rfl, kk⟩ := h
    walk_at "go"
    refine k_while (fun m σ H' => H' = H ∧ ∃ x : Nat, σ = [some (.int (x : Int)), some (.int (m : Int))] ∧ Nat.gcd x m = Int.gcd a b) b.natAbs ⟨rfl, a.natAbs, rfl, rfl⟩ ?_
    rintro m σ H' ⟨rfl, x, rfl, e⟩
    walk_at "go"
    refine k_if (fun c => ?_) (fun c => ?_)
    · refine k_wN ?_
      walk_at "go"
      refine ⟨x % m, Nat.mod_lt _ (by omega), rfl, m, rfl, ?_⟩
      rw [← e, Nat.gcd_comm m, ← Nat.gcd_rec, Nat.gcd_comm]
    · obtain rfl : m = 0 := by omega
      walk_at "go"
      rw [Nat.gcd_zero_right] at e
      rw [e]
      exact kk
end
end Lw
namespace Lw
open PySem PySem.Spec PyProof.Rows L2 Gx LamX NdefX
section
variable {P : Program} {w : World} {K : PySem.W.Frag} {mg : Str → Option Value} {base : Heap} {f : Addr} {fd : FuncData}
theorem ok_lowest (F : FnP K "lowest" "lowest" s_lowest f fd) (T : Txt K mg) (c_in_common : Cl P w K mg base 1 "in_common" ["a", "b"] (sp_in_common K)) : FnOk P w K mg base (L2.CX P w) 2 f fd ["a", "b"] (sp_lowest K) := by
  refine F.ok sc_lowest (fun vs H Q E h => ?_) (fun cdv A outer s H vs Q E hr h => ?_)
  · obtain ⟨a, b, rfl, _⟩ := h; rfl
  · refine ⟨_, (pss_cons (ps_if (pt_cmpR (op_eqK (K := K) rfl hr) (pv 1) pe_int (nomark _)) (pss_one (ps_raise rfl (takes_of rfl rfl rfl rfl) (pmk_own PySem.F.excBase_ValueError T.x_NoFraction.1 T.g_NoFraction T.x_NoFraction.2.1 (raises_own T.x_NoFraction.2.2.1 T.x_NoFraction.2.2.2) rfl))) pss_nil) (pss_cons (ps_set (i := 2) sc_lowest.nd rfl (Or.inl rfl) (pcall c_in_common hr (by first | decide | omega) (takes_of rfl rfl rfl rfl) (pa_cons (pv 0) (pa_cons (pv 1) pa_nil)))) (C8.pss_cut (ps_if (pt_cmpR op_lt (pv 1) pe_int (nomark _)) (pss_one (ps_set (i := 2) sc_lowest.nd rfl (Or.inl rfl) (pe_op op_sub pe_int (pv 2)))) pss_nil) (pss_one (ps_ret (pe_tup (pa_cons (pe_op op_fdivG (pv 0) (pv 2)) (pa_cons (pe_op op_fdivG (pv 1) (pv 2)) pa_nil)))))))), ?_⟩
    obtain ⟨a, b, rfl, k0, k1⟩ := h
    walk_at "go"
    refine k_if (fun c => ?_) (fun c => ?_)
    · walk_at "go"
      exact k0 c
    · obtain ⟨hd, k1⟩ := k1 c
      walk_at "go"
      refine ⟨a, b, rfl, ?_⟩
      walk_at "go"
      refine k_cut (fun σ H' => H' = H ∧ ∃ d : Int, d = (if b < 0 then 0 - (Int.gcd a b : Int) else (Int.gcd a b : Int)) ∧ σ = [some (.int a), some (.int b), some (.int d)]) ?_ ?_
      · walk_at "go"
        refine k_if (fun c2 => ?_) (fun c2 => ?_)
        · walk_at "go"
          exact ⟨rfl, _, by rw [if_pos c2], rfl⟩
        · walk_at "go"
          exact ⟨rfl, _, by rw [if_neg c2], rfl⟩
      · rintro σ H' ⟨rfl, d, ed, rfl⟩
        have hg := Int.gcd_pos_of_ne_zero_right a c
        have hn : d.natAbs = Int.gcd a b := by rw [ed]; split <;> omega
        have hz : d ≠ 0 := by omega
        obtain ⟨d1, d2⟩ := hd.div hn
        walk_at "go"
        refine k_I ?_ ⟨hz, d1⟩
        walk_at "go"
        refine k_I ?_ ⟨hz, d2⟩
        walk_at "go"
        refine k_tupx (fun p H2 np s1 hp => ?_) (by simp [sizeLine_eq])
        refine k1 p H2 s1 (SqT.of ?_)
        rw [hp, Fr.low_num c ed, Fr.low_den c ed]
end
end Lw
namespace Lw
open PySem PySem.Spec PyProof.Rows L2 Gx LamX NdefX
section
variable {P : Program} {w : World} {K : PySem.W.Frag} {mg : Str → Option Value} {base : Heap} {f : Addr} {fd : FuncData}
theorem ok_plus (F : FnP K "plus" "plus" s_plus f fd) (T : Txt K mg) (c_lowest : Cl P w K mg base 2 "lowest" ["a", "b"] (sp_lowest K)) : FnOk P w K mg base (L2.CX P w) 3 f fd ["x", "y"] (sp_plus K) := by
  refine F.ok sc_plus (fun vs H Q E h => ?_) (fun cdv A outer s H vs Q E hr h => ?_)
  · obtain ⟨p, q, x, y, m, n, rfl, _⟩ := h; rfl
  · refine ⟨_, (pss_one (ps_ret (pcall c_lowest hr (by first | decide | omega) (takes_of rfl rfl rfl rfl) (pa_cons (pe_op (op_addK (K := K) rfl) (pe_op (op_mulK (K := K) rfl) (pe_ix (ix_K (K := K) rfl) (pv 0) pe_int (fun _ _ => rfl)) (pe_ix (ix_K (K := K) rfl) (pv 1) pe_int (fun _ _ => rfl))) (pe_op (op_mulK (K := K) rfl) (pe_ix (ix_K (K := K) rfl) (pv 1) pe_int (fun _ _ => rfl)) (pe_ix (ix_K (K := K) rfl) (pv 0) pe_int (fun _ _ => rfl)))) (pa_cons (pe_op (op_mulK (K := K) rfl) (pe_ix (ix_K (K := K) rfl) (pv 0) pe_int (fun _ _ => rfl)) (pe_ix (ix_K (K := K) rfl) (pv 1) pe_int (fun _ _ => rfl))) pa_nil))))), ?_⟩
    obtain ⟨p, q, x, y, m, n, rfl, hp, hq, sx, sy, hmn, kk⟩ := h
    walk_at "go"
    refine k_ixT hp (v := .int x.num) rfl ?_
    walk_at "go"
    refine k_ixT hq (v := .int (y.den : Int)) rfl ?_
    walk_at "go"
    refine k_mulB sx.1 sy.den (by omega) ?_
    walk_at "go"
    refine k_ixT hq (v := .int y.num) rfl ?_
    walk_at "go"
    refine k_ixT hp (v := .int (x.den : Int)) rfl ?_
    walk_at "go"
    refine k_mulB sy.1 sx.den (by omega) ?_
    walk_at "go"
    refine k_ixT hp (v := .int (x.den : Int)) rfl ?_
    walk_at "go"
    refine k_ixT hq (v := .int (y.den : Int)) rfl ?_
    walk_at "go"
    refine k_mulB sx.den sy.den (by omega) ?_
    walk_at "go"
    have hz : (x.den : Int) * (y.den : Int) ≠ 0 := Int.mul_ne_zero (Fr.den_ne x) (Fr.den_ne y)
    refine ⟨_, _, rfl, fun c => absurd c hz, fun _ => ⟨okd_den hz (Fr.dd_lt sx sy) hmn, fun r H' s1 hr => ?_⟩⟩
    rw [Fr.add_eq x y] at hr
    exact kk r H' s1 hr (sx.add sy)
end
end Lw
namespace Lw
open PySem PySem.Spec PyProof.Rows L2 Gx LamX NdefX
section
variable {P : Program} {w : World} {K : PySem.W.Frag} {mg : Str → Option Value} {base : Heap} {f : Addr} {fd : FuncData}
theorem ok_minus (F : FnP K "minus" "minus" s_minus f fd) (T : Txt K mg) (c_lowest : Cl P w K mg base 2 "lowest" ["a", "b"] (sp_lowest K)) : FnOk P w K mg base (L2.CX P w) 3 f fd ["x", "y"] (sp_minus K) := by
  refine F.ok sc_minus (fun vs H Q E h => ?_) (fun cdv A outer s H vs Q E hr h => ?_)
  · obtain ⟨p, q, x, y, m, n, rfl, _⟩ := h; rfl
  · refine ⟨_, (pss_one (ps_ret (pcall c_lowest hr (by first | decide | omega) (takes_of rfl rfl rfl rfl) (pa_cons (pe_op op_sub (pe_op (op_mulK (K := K) rfl) (pe_ix (ix_K (K := K) rfl) (pv 0) pe_int (fun _ _ => rfl)) (pe_ix (ix_K (K := K) rfl) (pv 1) pe_int (fun _ _ => rfl))) (pe_op (op_mulK (K := K) rfl) (pe_ix (ix_K (K := K) rfl) (pv 1) pe_int (fun _ _ => rfl)) (pe_ix (ix_K (K := K) rfl) (pv 0) pe_int (fun _ _ => rfl)))) (pa_cons (pe_op (op_mulK (K := K) rfl) (pe_ix (ix_K (K := K) rfl) (pv 0) pe_int (fun _ _ => rfl)) (pe_ix (ix_K (K := K) rfl) (pv 1) pe_int (fun _ _ => rfl))) pa_nil))))), ?_⟩
    obtain ⟨p, q, x, y, m, n, rfl, hp, hq, sx, sy, hmn, kk⟩ := h
    walk_at "go"
    refine k_ixT hp (v := .int x.num) rfl ?_
    walk_at "go"
    refine k_ixT hq (v := .int (y.den : Int)) rfl ?_
    walk_at "go"
    refine k_mulB sx.1 sy.den (by omega) ?_
    walk_at "go"
    refine k_ixT hq (v := .int y.num) rfl ?_
    walk_at "go"
    refine k_ixT hp (v := .int (x.den : Int)) rfl ?_
    walk_at "go"
    refine k_mulB sy.1 sx.den (by omega) ?_
    walk_at "go"
    refine k_ixT hp (v := .int (x.den : Int)) rfl ?_
    walk_at "go"
    refine k_ixT hq (v := .int (y.den : Int)) rfl ?_
    walk_at "go"
    refine k_mulB sx.den sy.den (by omega) ?_
    walk_at "go"
    have hz : (x.den : Int) * (y.den : Int) ≠ 0 := Int.mul_ne_zero (Fr.den_ne x) (Fr.den_ne y)
    refine ⟨_, _, rfl, fun c => absurd c hz, fun _ => ⟨okd_den hz (Fr.dd_lt sx sy) hmn, fun r H' s1 hr => ?_⟩⟩
    rw [Fr.sub_eq x y] at hr
    exact kk r H' s1 hr (sx.sub sy)
end
end Lw
namespace Lw
open PySem PySem.Spec PyProof.Rows L2 Gx LamX NdefX
section
variable {P : Program} {w : World} {K : PySem.W.Frag} {mg : Str → Option Value} {base : Heap} {f : Addr} {fd : FuncData}
theorem ok_times (F : FnP K "times" "times" s_times f fd) (T : Txt K mg) (c_lowest : Cl P w K mg base 2 "lowest" ["a", "b"] (sp_lowest K)) : FnOk P w K mg base (L2.CX P w) 3 f fd ["x", "y"] (sp_times K) := by
  refine F.ok sc_times (fun vs H Q E h => ?_) (fun cdv A outer s H vs Q E hr h => ?_)
  · obtain ⟨p, q, x, y, m, n, rfl, _⟩ := h; rfl
  · refine ⟨_, (pss_one (ps_ret (pcall c_lowest hr (by first | decide | omega) (takes_of rfl rfl rfl rfl) (pa_cons (pe_op (op_mulK (K := K) rfl) (pe_ix (ix_K (K := K) rfl) (pv 0) pe_int (fun _ _ => rfl)) (pe_ix (ix_K (K := K) rfl) (pv 1) pe_int (fun _ _ => rfl))) (pa_cons (pe_op (op_mulK (K := K) rfl) (pe_ix (ix_K (K := K) rfl) (pv 0) pe_int (fun _ _ => rfl)) (pe_ix (ix_K (K := K) rfl) (pv 1) pe_int (fun _ _ => rfl))) pa_nil))))), ?_⟩
    obtain ⟨p, q, x, y, m, n, rfl, hp, hq, sx, sy, hmn, kk⟩ := h
    walk_at "go"
    refine k_ixT hp (v := .int x.num) rfl ?_
    walk_at "go"
    refine k_ixT hq (v := .int y.num) rfl ?_
    walk_at "go"
    refine k_mulB sx.1 sy.1 (by omega) ?_
    walk_at "go"
    refine k_ixT hp (v := .int (x.den : Int)) rfl ?_
    walk_at "go"
    refine k_ixT hq (v := .int (y.den : Int)) rfl ?_
    walk_at "go"
    refine k_mulB sx.den sy.den (by omega) ?_
    walk_at "go"
    have hz : (x.den : Int) * (y.den : Int) ≠ 0 := Int.mul_ne_zero (Fr.den_ne x) (Fr.den_ne y)
    have okd : Okd (x.num * y.num) ((x.den : Int) * (y.den : Int)) := hmn.elim (okd_den hz (Fr.dd_lt sx sy)) fun h => okd_mul h.2.1 sy h.2.2
    refine ⟨_, _, rfl, fun c => absurd c hz, fun _ => ⟨okd, fun r H' s1 hr => ?_⟩⟩
    rw [Fr.mul_eq x y] at hr
    exact kk r H' s1 hr (sx.mul sy)
end
end Lw
namespace Lw
open PySem PySem.Spec PyProof.Rows L2 Gx LamX NdefX
section
variable {P : Program} {w : World} {K : PySem.W.Frag} {mg : Str → Option Value} {base : Heap} {f : Addr} {fd : FuncData}
theorem ok_over (F : FnP K "over" "over" s_over f fd) (T : Txt K mg) (c_lowest : Cl P w K mg base 2 "lowest" ["a", "b"] (sp_lowest K)) : FnOk P w K mg base (L2.CX P w) 3 f fd ["x", "y"] (sp_over K) := by
  refine F.ok sc_over (fun vs H Q E h => ?_) (fun cdv A outer s H vs Q E hr h => ?_)
  · obtain ⟨p, q, x, y, m, n, rfl, _⟩ := h; rfl
  · refine ⟨_, (pss_one (ps_ret (pcall c_lowest hr (by first | decide | omega) (takes_of rfl rfl rfl rfl) (pa_cons (pe_op (op_mulK (K := K) rfl) (pe_ix (ix_K (K := K) rfl) (pv 0) pe_int (fun _ _ => rfl)) (pe_ix (ix_K (K := K) rfl) (pv 1) pe_int (fun _ _ => rfl))) (pa_cons (pe_op (op_mulK (K := K) rfl) (pe_ix (ix_K (K := K) rfl) (pv 0) pe_int (fun _ _ => rfl)) (pe_ix (ix_K (K := K) rfl) (pv 1) pe_int (fun _ _ => rfl))) pa_nil))))), ?_⟩
    obtain ⟨p, q, x, y, m, n, rfl, hp, hq, sx, sy, hmn, k0, kk⟩ := h
    walk_at "go"
    refine k_ixT hp (v := .int x.num) rfl ?_
    walk_at "go"
    refine k_ixT hq (v := .int (y.den : Int)) rfl ?_
    walk_at "go"
    refine k_mulB sx.1 sy.den (by omega) ?_
    walk_at "go"
    refine k_ixT hp (v := .int (x.den : Int)) rfl ?_
    walk_at "go"
    refine k_ixT hq (v := .int y.num) rfl ?_
    walk_at "go"
    refine k_mulB sx.den sy.1 (by omega) ?_
    walk_at "go"
    refine ⟨_, _, rfl, fun c => ?_, fun c => ?_⟩
    · refine k0 ?_
      rcases Int.mul_eq_zero.mp c with c | c
      · exact absurd c (Fr.den_ne x)
      · exact Rat.num_eq_zero.mp c
    · have hy : y ≠ 0 := fun z => c (by rw [z]; simp)
      refine ⟨okd_den c (Fr.mul_lt sx.den sy.1) hmn, fun r H' s1 hr => ?_⟩
      rw [Fr.div_eq x y] at hr
      exact kk hy r H' s1 hr (sx.div sy)
end
end Lw
namespace Lw
open PySem PySem.Spec PyProof.Rows L2 Gx LamX NdefX
section
variable {P : Program} {w : World} {K : PySem.W.Frag} {mg : Str → Option Value} {base : Heap} {f : Addr} {fd : FuncData}
theorem ok_total (F : FnP K "total" "total" s_total f fd) (T : Txt K mg) (c_plus : Cl P w K mg base 3 "plus" ["x", "y"] (sp_plus K)) : FnOk P w K mg base (L2.CX P w) 4 f fd ["some"] (sp_total K) := by
  refine F.ok sc_total (fun vs H Q E h => ?_) (fun cdv A outer s H vs Q E hr h => ?_)
  · obtain ⟨a, xs, qs, ns, rfl, _⟩ := h; rfl
  · refine ⟨_, (pss_cons (ps_set (i := 1) sc_total.nd rfl (Or.inl rfl) (pe_tup (pa_cons pe_int (pa_cons pe_int pa_nil)))) (pss_cons (ps_for (passes_of rfl) rfl (pi_seqU (pv 0)) (pg_name (i := 2) sc_total.nd rfl (Or.inl rfl)) (pss_one (ps_set (i := 1) sc_total.nd rfl (Or.inl rfl) (pcall c_plus hr (by first | decide | omega) (takes_of rfl rfl rfl rfl) (pa_cons (pv 1) (pa_cons (pv 2) pa_nil)))))) (pss_one (ps_ret (pv 1))))), ?_⟩
    obtain ⟨a, xs, qs, ns, rfl, hS, hq, hz, hn, kk⟩ := h
    walk_at "go"
    refine k_tupx (fun p H1 np s1 hp => ?_) (by simp [sizeLine_eq])
    walk_at "go"
    refine k_loopU (xs := xs) (hS.imp (seqL_same s1) (seqT_same s1)) (fun i σ H' => Same H1 H' ∧ ∃ (r : Addr) (t : Option V), σ = [some (.ref a), some (.ref r), t] ∧ SqT K H' r (Fr.fq (sum (qs.take i))) ∧ Fr.Sz (szs (ns.take i)) (sum (qs.take i)))
      ⟨Same.refl _, p, none, rfl, SqT.of hp, by simp only [List.take_zero]; exact ⟨by decide, by decide⟩⟩ (fun i σ' H' h => h.1) ?_ ?_
    · rintro i x σ H2 hx ⟨s2, r, t, rfl, hr, hsz⟩
      obtain ⟨px, q, rfl, hqi, hpx⟩ := Fqs.get ((hq.same s1).same s2) hx
      obtain ⟨n, hni, hqn⟩ := Paired.get hz hqi
      have hle := szs_take ns (i + 1)
      rw [take_snoc hni, szs_snoc] at hle
      walk_at "go"
      refine ⟨r, px, _, q, szs (ns.take i), n, rfl, hr, hpx, hsz, hqn, by omega, fun r2 H3 s3 hr2 hsz2 => ?_⟩
      walk_at "go"
      refine ⟨s2.trans s3, r2, _, rfl, ?_, ?_⟩
      · rw [take_snoc hqi, sum_snoc]
        exact hr2
      · rw [take_snoc hqi, sum_snoc, take_snoc hni, szs_snoc]
        exact hsz2
    · rintro σ H2 ⟨s2, r, t, rfl, hr, hsz⟩
      have e1 : qs.take xs.length = qs := by rw [hq.len, List.take_length]
      have e2 : ns.take xs.length = ns := by rw [hq.len, Paired.length hz, List.take_length]
      rw [e1] at hr hsz
      rw [e2] at hsz
      walk_at "go"
      exact kk r H2 (s1.trans s2) hr hsz
end
end Lw
namespace Lw
open PySem PySem.Spec PyProof.Rows L2 Gx LamX NdefX
section
variable {P : Program} {w : World} {K : PySem.W.Frag} {mg : Str → Option Value} {base : Heap} {f : Addr} {fd : FuncData}
theorem ok_below (F : FnP K "below" "below" s_below f fd) (T : Txt K mg) : FnOk P w K mg base (L2.CX P w) 1 f fd ["x", "y"] (sp_below K) := by
  refine F.ok sc_below (fun vs H Q E h => ?_) (fun cdv A outer s H vs Q E hr h => ?_)
  · obtain ⟨p, q, x, y, m, n, rfl, _⟩ := h; rfl
  · refine ⟨_, (pss_one (ps_ret (pe_cmpR op_lt (pe_op (op_mulK (K := K) rfl) (pe_ix (ix_K (K := K) rfl) (pv 0) pe_int (fun _ _ => rfl)) (pe_ix (ix_K (K := K) rfl) (pv 1) pe_int (fun _ _ => rfl))) (pe_op (op_mulK (K := K) rfl) (pe_ix (ix_K (K := K) rfl) (pv 1) pe_int (fun _ _ => rfl)) (pe_ix (ix_K (K := K) rfl) (pv 0) pe_int (fun _ _ => rfl))) (nomark _)))), ?_⟩
    obtain ⟨p, q, x, y, m, n, rfl, hp, hq, sx, sy, hmn, kk⟩ := h
    walk_at "go"
    refine k_ixT hp (v := .int x.num) rfl ?_
    walk_at "go"
    refine k_ixT hq (v := .int (y.den : Int)) rfl ?_
    walk_at "go"
    refine k_mulB sx.1 sy.den (by omega) ?_
    walk_at "go"
    refine k_ixT hq (v := .int y.num) rfl ?_
    walk_at "go"
    refine k_ixT hp (v := .int (x.den : Int)) rfl ?_
    walk_at "go"
    refine k_mulB sy.1 sx.den (by omega) ?_
    walk_at "go"
    have e : decide (x.num * (y.den : Int) < y.num * (x.den : Int)) = decide (x < y) := by
      by_cases c : x < y
      · rw [decide_eq_true c, decide_eq_true ((Rat.lt_iff x y).mp c)]
      · rw [decide_eq_false c, decide_eq_false (fun z => c ((Rat.lt_iff x y).mpr z))]
    rw [e]
    exact kk
end
end Lw
namespace Lw
open PySem PySem.Spec PyProof.Rows L2 Gx LamX NdefX
section
variable {P : Program} {w : World} {K : PySem.W.Frag} {mg : Str → Option Value} {base : Heap} {f : Addr} {fd : FuncData}
theorem ok_is_fraction (F : FnP K "is_fraction" "is_fraction" s_is_fraction f fd) (T : Txt K mg) (c_in_common : Cl P w K mg base 1 "in_common" ["a", "b"] (sp_in_common K)) (c_is_whole : Cl P w K mg base 1 "is_whole" ["thing"] (sp_is_whole K)) : FnOk P w K mg base (L2.CX P w) 2 f fd ["thing"] (sp_is_fraction K) := by
  refine F.ok sc_is_fraction (fun vs H Q E h => ?_) (fun cdv A outer s H vs Q E hr h => ?_)
  · obtain ⟨x, b, rfl, _⟩ := h; rfl
  · refine ⟨_, (pss_cons (ps_if (PW.pt (pw_or (pt_not (pt_val (pe_callB (callK (K := K) (r := rIsi) rfl call_isi) (by rfl) T.n_isinstance (by decide +kernel) (pa_cons (pv 0) (pa_cons (pe_bltn (v := .ty "tuple") (by rfl) T.n_tuple (by decide +kernel) rfl) pa_nil))))) (pw_or (pt_cmpR (op_neK (K := K) rfl hr) (pe_callB (callK (K := K) (r := rLenU) rfl call_lenU) (by rfl) T.n_len (by decide +kernel) (pa_cons (pv 0) pa_nil)) pe_int (nomark _)) (pw_or (pt_not (pt_val (pcall c_is_whole hr (by first | decide | omega) (takes_of rfl rfl rfl rfl) (pa_cons (pe_ix (ix_K (K := K) rfl) (pv 0) pe_int (fun _ _ => rfl)) pa_nil)))) (pw_or1 (pt_not (pt_val (pcall c_is_whole hr (by first | decide | omega) (takes_of rfl rfl rfl rfl) (pa_cons (pe_ix (ix_K (K := K) rfl) (pv 0) pe_int (fun _ _ => rfl)) pa_nil))))))))) (pss_one (ps_ret pe_bl)) pss_nil) (pss_one (ps_ret (pe_and (pe_cmpR op_gt (pe_ix (ix_K (K := K) rfl) (pv 0) pe_int (fun _ _ => rfl)) pe_int (nomark _)) (pe_one (pe_cmpR (op_eqK (K := K) rfl hr) (pcall c_in_common hr (by first | decide | omega) (takes_of rfl rfl rfl rfl) (pa_cons (pe_ix (ix_K (K := K) rfl) (pv 0) pe_int (fun _ _ => rfl)) (pa_cons (pe_ix (ix_K (K := K) rfl) (pv 0) pe_int (fun _ _ => rfl)) pa_nil))) pe_int (nomark _))))))), ?_⟩
    obtain ⟨x, b, rfl, hx, k⟩ := h
    walk_at "go"
    cases hx with
    | kind ht hk =>
      refine k_isi (.ty "tuple") ht hk ?_
      walk_at "go"
      exact k
    | @len p xs h hl =>
      refine k_isi (.ty "tuple") (ty_tup h) (kit_ty (r := true) (by decide +kernel)) ?_
      walk_at "go"
      refine k_lenT ?_ h
      walk_at "go"
      refine k_ifn (fun c => ?_) (fun c => absurd (by omega) hl)
      walk_at "go"
      exact k
    | @parts p u v bu bv h hu hv hb =>
      refine k_isi (.ty "tuple") (ty_tup h) (kit_ty (r := true) (by decide +kernel)) ?_
      walk_at "go"
      refine k_lenT ?_ h
      walk_at "go"
      refine k_ifn (fun c => absurd rfl c) (fun c => ?_)
      walk_at "go"
      obtain ⟨tu, u1, u2, hu, hu1, hu2, rfl⟩ := hu
      obtain ⟨tv, v1, v2, hv, hv1, hv2, rfl⟩ := hv
      refine k_ixT h (v := u) rfl ?_
      walk_at "go"
      refine ⟨u, tu, u1, u2, rfl, hu, hu1, hu2, ?_⟩
      walk_at "go"
      refine k_ifnb (fun cu => ?_) (fun cu => ?_)
      · walk_at "go"
        exact k
      · walk_at "go"
        refine k_ixT h (v := v) rfl ?_
        walk_at "go"
        refine ⟨v, tv, v1, v2, rfl, hv, hv1, hv2, ?_⟩
        rw [cu, Bool.true_and] at hb
        rw [hb]
        walk_at "go"
        exact k
    | @whole p c d h =>
      refine k_isi (.ty "tuple") (ty_tup h) (kit_ty (r := true) (by decide +kernel)) ?_
      walk_at "go"
      refine k_lenT ?_ h
      walk_at "go"
      refine k_ifn (fun c9 => absurd rfl c9) (fun c9 => ?_)
      walk_at "go"
      refine k_ixT h (v := .int c) rfl ?_
      walk_at "go"
      refine isw_int ?_
      walk_at "go"
      refine k_ixT h (v := .int d) rfl ?_
      walk_at "go"
      refine isw_int ?_
      walk_at "go"
      refine k_ixT h (v := .int d) rfl ?_
      walk_at "go"
      refine k_if (fun c1 => ?_) (fun c1 => ?_)
      · walk_at "go"
        refine k_ixT h (v := .int c) rfl ?_
        walk_at "go"
        refine k_ixT h (v := .int d) rfl ?_
        walk_at "go"
        refine ⟨c, d, rfl, ?_⟩
        walk_at "go"
        rw [decide_eq_true (show 0 < d by omega), Bool.true_and] at k
        have e : decide ((Int.gcd c d : Int) = 1) = decide (Int.gcd c d = 1) := by
          by_cases z : Int.gcd c d = 1
          · rw [decide_eq_true z, decide_eq_true (by omega)]
          · rw [decide_eq_false z, decide_eq_false (by omega)]
        rw [e]
        exact k
      · walk_at "go"
        rw [decide_eq_false (show ¬ 0 < d by omega), Bool.false_and] at k
        exact k
end
end Lw
namespace Lw
open PySem PySem.Spec PyProof.Rows L2 Gx LamX NdefX
section
variable {P : Program} {w : World} {K : PySem.W.Frag} {mg : Str → Option Value} {base : Heap} {f : Addr} {fd : FuncData}
theorem ok_Game___init__ (F : FnP K "__init__" "Game.__init__" s_Game___init__ f fd) (T : Txt K mg) : FnOk P w K mg base (L2.CX P w) 1 f fd ["self", "many", "again", "top", "rule"] (sp_Game___init__ K) := by
  refine F.ok sc_Game___init__ (fun vs H Q E h => ?_) (fun cdv A outer s H vs Q E hr h => ?_)
  · obtain ⟨a, dx, t, r, n, ag, top, R, rfl, _⟩ := h; rfl
  · refine ⟨_, (pss_cons (ps_fld (pv 0) (pv 1) rfl) (pss_cons (ps_fld (pv 0) (pv 2) rfl) (pss_cons (ps_fld (pv 0) (pv 3) rfl) (pss_cons (ps_fld (pv 0) (pv 4) rfl) (pss_cons (ps_fld (pv 0) (pe_lst pa_nil) rfl) (pss_cons (ps_fld (pv 0) (C8.pe_gc (by rfl) T.c_NOUGHT_games) rfl) (pss_cons (ps_fld (pv 0) (C8.pe_gc (by rfl) T.c_ONE_games) rfl) (pss_cons (ps_fld (pv 0) (C8.pe_gc (by rfl) T.c_ONE_games) rfl) (pss_one (ps_fld (pv 0) pe_bl rfl)))))))))), ?_⟩
    obtain ⟨a, dx, t, r, n, ag, top, R, rfl, h0, ht, hr, ne, kk⟩ := h
    walk_at "go"
    refine k_sfldx h0 T.cl_Game T.f_Game_many (fun H1 b1 h1 => ?_) (by simp)
    replace h1 : H1 a = some (.ins (He.ga K "Game") dx [("many", .int (n : Int))]) := by rw [h1]; walk_at "pf"
    walk_at "go"
    refine k_sfldx h1 T.cl_Game T.f_Game_again (fun H2 b2 h2 => ?_) (by simp)
    replace h2 : H2 a = some (.ins (He.ga K "Game") dx [("many", .int (n : Int)), ("again", .bl ag)]) := by rw [h2]; walk_at "pf"
    walk_at "go"
    refine k_sfldx h2 T.cl_Game T.f_Game_highest (fun H3 b3 h3 => ?_) (by simp)
    replace h3 : H3 a = some (.ins (He.ga K "Game") dx [("many", .int (n : Int)), ("again", .bl ag), ("highest", .ref t)]) := by rw [h3]; walk_at "pf"
    walk_at "go"
    refine k_sfldx h3 T.cl_Game T.f_Game_rule (fun H4 b4 h4 => ?_) (by simp)
    replace h4 : H4 a = some (.ins (He.ga K "Game") dx [("many", .int (n : Int)), ("again", .bl ag), ("highest", .ref t), ("rule", .ref r)]) := by rw [h4]; walk_at "pf"
    walk_at "go"
    refine k_lstx (fun l H5 nl s5 hl => ?_) (by simp)
    have h5 := s5 _ _ h4
    have nla : l ≠ a := fun e => by subst e; rw [h4] at nl; cases nl
    walk_at "go"
    refine k_sfldx h5 T.cl_Game T.f_Game_drawn_values (fun H6 b6 h6 => ?_) (by simp)
    replace h6 : H6 a = some (.ins (He.ga K "Game") dx [("many", .int (n : Int)), ("again", .bl ag), ("highest", .ref t), ("rule", .ref r), ("drawn_values", .ref l)]) := by rw [h6]; walk_at "pf"
    have hl6 := b6 _ _ nla hl
    walk_at "go"
    refine k_sfldx h6 T.cl_Game T.f_Game_sum_so_far (fun H7 b7 h7 => ?_) (by simp)
    replace h7 : H7 a = some (.ins (He.ga K "Game") dx [("many", .int (n : Int)), ("again", .bl ag), ("highest", .ref t), ("rule", .ref r), ("drawn_values", .ref l), ("sum_so_far", .ref (He.ga K "NOUGHT_games"))]) := by rw [h7]; walk_at "pf"
    walk_at "go"
    refine k_sfldx h7 T.cl_Game T.f_Game_now (fun H8 b8 h8 => ?_) (by simp)
    replace h8 : H8 a = some (.ins (He.ga K "Game") dx [("many", .int (n : Int)), ("again", .bl ag), ("highest", .ref t), ("rule", .ref r), ("drawn_values", .ref l), ("sum_so_far", .ref (He.ga K "NOUGHT_games")), ("now", .ref (He.ga K "ONE_games"))]) := by rw [h8]; walk_at "pf"
    walk_at "go"
    refine k_sfldx h8 T.cl_Game T.f_Game_most (fun H9 b9 h9 => ?_) (by simp)
    replace h9 : H9 a = some (.ins (He.ga K "Game") dx [("many", .int (n : Int)), ("again", .bl ag), ("highest", .ref t), ("rule", .ref r), ("drawn_values", .ref l), ("sum_so_far", .ref (He.ga K "NOUGHT_games")), ("now", .ref (He.ga K "ONE_games")), ("most", .ref (He.ga K "ONE_games"))]) := by rw [h9]; walk_at "pf"
    walk_at "go"
    refine k_sfldx h9 T.cl_Game T.f_Game_certain (fun G b10 h10 => ?_) (by simp)
    replace h10 : G a = some (.ins (He.ga K "Game") dx [("many", .int (n : Int)), ("again", .bl ag), ("highest", .ref t), ("rule", .ref r), ("drawn_values", .ref l), ("sum_so_far", .ref (He.ga K "NOUGHT_games")), ("now", .ref (He.ga K "ONE_games")), ("most", .ref (He.ga K "ONE_games")), ("certain", .bl false)]) := by rw [h10]; walk_at "pf"
    walk_at "go"
    have b : But a H G := b1.trans (b2.trans (b3.trans (b4.trans ((But.of s5).trans (b6.trans (b7.trans (b8.trans (b9.trans b10))))))))
    have im : Imm H G := imm_butI b h0
    have e0 : SqT K G (He.ga K "NOUGHT_games") (Fr.fq 0) := by rw [Cm.fq0]; exact T.t_NOUGHT_games G
    have e1 : SqT K G (He.ga K "ONE_games") (Fr.fq 1) := by rw [Cm.fq1]; exact T.t_ONE_games G
    refine kk l G b ?_ ⟨dx, t, r, _, _, _, [], h10, seqT_imm im ht, hr.mono im fun C d f _ h => b _ _ ne h, ?_, .nil, e0, ⟨_, rfl, e1⟩, e1⟩
    · have q := ((b1.trans (b2.trans (b3.trans b4))) : But a H H4)
      cases e : H l with
      | none => rfl
      | some o => rw [q _ _ nla e] at nl; cases nl
    · exact (b7.trans (b8.trans (b9.trans b10))) _ _ nla hl6
end
end Lw
namespace Lw
open PySem PySem.Spec PyProof.Rows L2 Gx LamX NdefX
section
variable {P : Program} {w : World} {K : PySem.W.Frag} {mg : Str → Option Value} {base : Heap} {f : Addr} {fd : FuncData}
theorem ok_Game_ended (F : FnP K "ended" "Game.ended" s_Game_ended f fd) (T : Txt K mg) : FnOk P w K mg base (L2.CX P w) 1 f fd ["self"] (sp_Game_ended K) := by
  refine F.ok sc_Game_ended (fun vs H Q E h => ?_) (fun cdv A outer s H vs Q E hr h => ?_)
  · obtain ⟨a, l, g, rfl, _⟩ := h; rfl
  · refine ⟨_, (pss_one (ps_ret (pe_and (pe_not (pe_fldK (K := K) rfl (pv 0) rfl)) (pe_one (pe_cmpR (op_eqK (K := K) rfl hr) (pe_callB (callK (K := K) (r := rLenU) rfl call_lenU) (by rfl) T.n_len (by decide +kernel) (pa_cons (pe_fldK (K := K) rfl (pv 0) rfl) pa_nil)) (pe_fldK (K := K) rfl (pv 0) rfl) (nomark _)))))), ?_⟩
    obtain ⟨a, l, g, rfl, ⟨dx, t, r, s, now, m, vs, G⟩, kk⟩ := h
    have hvl := G.vals.len
    walk_at "go"
    refine k_fldx G.ins T.cl_Game T.f_Game_again (by walk_at "lk") ?_
    walk_at "go"
    have ee : Gm.ended g = (!g.ag && decide (g.vals.length = g.n)) := rfl
    cases ha : g.ag with
    | true =>
      rw [ha] at ee
      walk_at "go"
      rw [ee] at kk
      exact kk
    | false =>
      rw [ha] at ee
      walk_at "go"
      refine k_fldx G.ins T.cl_Game T.f_Game_drawn_values (by walk_at "lk") ?_
      walk_at "go"
      refine k_lenL ?_ (SqL.of G.lst)
      walk_at "go"
      refine k_fldx G.ins T.cl_Game T.f_Game_many (by walk_at "lk") ?_
      walk_at "go"
      rw [hvl]
      rw [ee] at kk
      have e2 : decide ((g.vals.length : Int) = (g.n : Int)) = decide (g.vals.length = g.n) := by
        by_cases c : g.vals.length = g.n
        · rw [decide_eq_true c, decide_eq_true (by omega)]
        · rw [decide_eq_false c, decide_eq_false (by omega)]
      rw [e2]
      exact kk
end
end Lw
namespace Lw
open PySem PySem.Spec PyProof.Rows L2 Gx LamX NdefX
section
variable {P : Program} {w : World} {K : PySem.W.Frag} {mg : Str → Option Value} {base : Heap} {f : Addr} {fd : FuncData}
theorem ok_Game_price (F : FnP K "price" "Game.price" s_Game_price f fd) (T : Txt K mg) (c_over : Cl P w K mg base 3 "over" ["x", "y"] (sp_over K)) (c_minus : Cl P w K mg base 3 "minus" ["x", "y"] (sp_minus K)) (c_lowest : Cl P w K mg base 2 "lowest" ["a", "b"] (sp_lowest K)) (m_Game_ended : MCl P w K mg base 1 "Game" "ended" ["self"] (sp_Game_ended K)) : FnOk P w K mg base (L2.CX P w) 4 f fd ["self"] (sp_Game_price K) := by
  refine F.ok sc_Game_price (fun vs H Q E h => ?_) (fun cdv A outer s H vs Q E hr h => ?_)
  · obtain ⟨a, l, g, c, rfl, _⟩ := h; rfl
  · refine ⟨_, (pss_cons (ps_if (PW.pt (pw_or (pt_val (pe_fldK (K := K) rfl (pv 0) rfl)) (pw_or1 (pt_val (pmeth0 rfl m_Game_ended hr (by first | decide | omega) (takes_of rfl rfl rfl rfl) (pv 0)))))) (pss_one (ps_ret pe_non)) pss_nil) (pss_cons (ps_if (pt_val (pe_fldK (K := K) rfl (pv 0) rfl)) (pss_one (ps_ret (pe_tup (pa_cons pe_int (pa_cons pe_int pa_nil))))) pss_nil) (pss_one (ps_ret (pcall c_over hr (by first | decide | omega) (takes_of rfl rfl rfl rfl) (pa_cons (pcall c_minus hr (by first | decide | omega) (takes_of rfl rfl rfl rfl) (pa_cons (pcall c_lowest hr (by first | decide | omega) (takes_of rfl rfl rfl rfl) (pa_cons (pe_fldK (K := K) rfl (pv 0) rfl) (pa_cons pe_int pa_nil))) (pa_cons (pe_fldK (K := K) rfl (pv 0) rfl) pa_nil))) (pa_cons (pe_tup (pa_cons (pe_op op_sub (pe_fldK (K := K) rfl (pv 0) rfl) (pe_callB (callK (K := K) (r := rLenU) rfl call_lenU) (by rfl) T.n_len (by decide +kernel) (pa_cons (pe_fldK (K := K) rfl (pv 0) rfl) pa_nil))) (pa_cons pe_int pa_nil))) pa_nil))))))), ?_⟩
    obtain ⟨a, l, g, c, rfl, gat, sc, hc, n60, hn, kk⟩ := h
    have gat' := gat
    obtain ⟨dx, t, r, s, now, m, vs, G⟩ := gat'
    have hvl := G.vals.len
    walk_at "go"
    refine k_fldx G.ins T.cl_Game T.f_Game_certain (by walk_at "lk") ?_
    walk_at "go"
    refine k_ifb (fun e => ?_) (fun e => ?_)
    · walk_at "go"
      refine kk .non H (Same.refl H) ?_
      unfold Gm.priceO
      rw [e]
      rfl
    walk_at "go"
    refine k_methx G.ins (by walk_at "lz") ?_
    walk_at "go"
    refine ⟨a, l, g, rfl, gat, ?_⟩
    walk_at "go"
    refine k_ifb (fun e2 => ?_) (fun e2 => ?_)
    · walk_at "go"
      refine kk .non H (Same.refl H) ?_
      unfold Gm.priceO
      rw [e, e2]
      rfl
    have ep : Gm.priceO g = some (Gm.price g) := by
      unfold Gm.priceO
      rw [e, e2]
      rfl
    walk_at "go"
    refine k_fldx G.ins T.cl_Game T.f_Game_again (by walk_at "lk") ?_
    walk_at "go"
    refine k_ifb (fun e3 => ?_) (fun e3 => ?_)
    · walk_at "go"
      refine k_tupx (fun p H1 n1 s1 hp => ?_) (by simp [sizeLine_eq])
      refine kk (.ref p) H1 s1 ?_
      rw [ep]
      refine ⟨p, rfl, ?_⟩
      rw [show Gm.price g = 1/2 from if_pos e3, Cm.fqh]
      exact SqT.of hp
    have lt : g.vals.length < g.n := by
      have h1 := hn e3
      have h2 : g.vals.length ≠ g.n := fun z => by
        unfold Gm.ended at e2
        rw [e3, decide_eq_true z] at e2
        cases e2
      omega
    walk_at "go"
    refine k_fldx G.ins T.cl_Game T.f_Game_many (by walk_at "lk") ?_
    walk_at "go"
    refine ⟨(g.n : Int), 2, rfl, fun z => absurd z (by decide), fun _ => ⟨okd_den (n := 2) (by decide) (by decide) (by decide), fun p1 H1 s1 h1 => ?_⟩⟩
    have e5 : Rat.divInt (g.n : Int) 2 = (g.n : Rat) / 2 := by rw [Rat.divInt_eq_div]; rfl
    have z1 : Fr.Sz 6 ((g.n : Rat) / 2) := by rw [← e5]; exact Fr.sz_divInt (by decide) (by show _ < 64; omega) (by decide)
    rw [e5] at h1
    walk_at "go"
    refine k_fldx (s1 _ _ G.ins) T.cl_Game T.f_Game_sum_so_far (by walk_at "lk") ?_
    walk_at "go"
    refine ⟨p1, s, _, _, 6, c, rfl, h1, seqT_same s1 G.sum, z1, sc, by omega, fun p2 H2 s2 h2 z2 => ?_⟩
    walk_at "go"
    have s02 := s1.trans s2
    refine k_fldx (s02 _ _ G.ins) T.cl_Game T.f_Game_many (by walk_at "lk") ?_
    walk_at "go"
    refine k_fldx (s02 _ _ G.ins) T.cl_Game T.f_Game_drawn_values (by walk_at "lk") ?_
    walk_at "go"
    refine k_lenL ?_ (SqL.of (s02 _ _ G.lst))
    rw [hvl]
    walk_at "go"
    refine k_tupx (fun p3 H3 n3 s3 h3 => ?_) (by simp [sizeLine_eq])
    have ed : ((g.n : Int) - ((g.vals.length : Nat) : Int)) = ((g.n - g.vals.length : Nat) : Int) := by omega
    rw [ed] at h3
    have h3' : SqT K H3 p3 (Fr.fq ((g.n - g.vals.length : Nat) : Rat)) := by rw [Ru.fqn]; exact SqT.of h3
    refine ⟨p2, p3, _, _, _, 7, rfl, seqT_same s3 h2, h3', z2, Ru.szn (by omega) (by decide), by omega, fun z => absurd z (Ru.n_ne (by omega)), fun _ p4 H4 s4 h4 z4 => ?_⟩
    refine kk (.ref p4) H4 (s02.trans (s3.trans s4)) ?_
    rw [ep]
    refine ⟨p4, rfl, ?_⟩
    rw [show Gm.price g = _ from if_neg (by rw [e3]; decide)]
    exact h4
end
end Lw
namespace Lw
open PySem PySem.Spec PyProof.Rows L2 Gx LamX NdefX
section
variable {P : Program} {w : World} {K : PySem.W.Frag} {mg : Str → Option Value} {base : Heap} {f : Addr} {fd : FuncData}
theorem ok_Game_worth_behind (F : FnP K "worth_behind" "Game.worth_behind" s_Game_worth_behind f fd) (T : Txt K mg) (c_times : Cl P w K mg base 3 "times" ["x", "y"] (sp_times K)) (c_plus : Cl P w K mg base 3 "plus" ["x", "y"] (sp_plus K)) (c_minus : Cl P w K mg base 3 "minus" ["x", "y"] (sp_minus K)) (c_over : Cl P w K mg base 3 "over" ["x", "y"] (sp_over K)) (m_Asked_stake : MCl P w K mg base 3 "Asked" "stake" ["self", "past", "price", "top"] (sp_Asked_stake K)) (m_Learning_stake : MCl P w K mg base 5 "Learning" "stake" ["self", "past", "price", "top"] (sp_Learning_stake K)) (m_Fixed_stake : MCl P w K mg base 1 "Fixed" "stake" ["self", "past", "price", "top"] (sp_Fixed_stake K)) (m_Rule_stake : MCl P w K mg base 1 "Rule" "stake" ["self", "past", "price", "top"] (sp_Rule_stake K)) (m_Game_price : MCl P w K mg base 4 "Game" "price" ["self"] (sp_Game_price K)) : FnOk P w K mg base (L2.CX P w) 6 f fd ["self", "value"] (sp_Game_worth_behind K) := by
  refine F.ok sc_Game_worth_behind (fun vs H Q E h => ?_) (fun cdv A outer s H vs Q E hr h => ?_)
  · obtain ⟨a, l, p, g, v, b, c, t, z, rfl, _⟩ := h; rfl
  · refine ⟨_, (pss_cons (ps_set (i := 2) sc_Game_worth_behind.nd rfl (Or.inl rfl) (pmeth0 rfl m_Game_price hr (by first | decide | omega) (takes_of rfl rfl rfl rfl) (pv 0))) (pss_cons (ps_set (i := 3) sc_Game_worth_behind.nd rfl (Or.inl rfl) (pe_or2 (pmeth rfl m_Rule_stake hr (by first | decide | omega) (takes_of rfl rfl rfl rfl) (pe_fldK (K := K) rfl (pv 0) rfl) (pa_cons (pe_callTy (callK (K := K) (r := rTupV) rfl call_tupV) (by rfl) T.n_tuple (by decide +kernel) (pa_cons (pe_fldK (K := K) rfl (pv 0) rfl) pa_nil)) (pa_cons (pv 2) (pa_cons (pe_fldK (K := K) rfl (pv 0) rfl) pa_nil)))) (pe_or2 (pmeth rfl m_Fixed_stake hr (by first | decide | omega) (takes_of rfl rfl rfl rfl) (pe_fldK (K := K) rfl (pv 0) rfl) (pa_cons (pe_callTy (callK (K := K) (r := rTupV) rfl call_tupV) (by rfl) T.n_tuple (by decide +kernel) (pa_cons (pe_fldK (K := K) rfl (pv 0) rfl) pa_nil)) (pa_cons (pv 2) (pa_cons (pe_fldK (K := K) rfl (pv 0) rfl) pa_nil)))) (pe_or2 (pmeth rfl m_Learning_stake hr (by first | decide | omega) (takes_of rfl rfl rfl rfl) (pe_fldK (K := K) rfl (pv 0) rfl) (pa_cons (pe_callTy (callK (K := K) (r := rTupV) rfl call_tupV) (by rfl) T.n_tuple (by decide +kernel) (pa_cons (pe_fldK (K := K) rfl (pv 0) rfl) pa_nil)) (pa_cons (pv 2) (pa_cons (pe_fldK (K := K) rfl (pv 0) rfl) pa_nil)))) (pmeth rfl m_Asked_stake hr (by first | decide | omega) (takes_of rfl rfl rfl rfl) (pe_fldK (K := K) rfl (pv 0) rfl) (pa_cons (pe_callTy (callK (K := K) (r := rTupV) rfl call_tupV) (by rfl) T.n_tuple (by decide +kernel) (pa_cons (pe_fldK (K := K) rfl (pv 0) rfl) pa_nil)) (pa_cons (pv 2) (pa_cons (pe_fldK (K := K) rfl (pv 0) rfl) pa_nil)))))))) (pss_cons (ps_if (pt_cmpR (op_eqK (K := K) rfl hr) (pv 2) (C8.pe_gc (by rfl) T.c_NOUGHT_games) (nomark _)) (pss_one (ps_ret (pe_fldK (K := K) rfl (pv 0) rfl))) pss_nil) (pss_cons (ps_set (i := 4) sc_Game_worth_behind.nd rfl (Or.inl rfl) (pcall c_over hr (by first | decide | omega) (takes_of rfl rfl rfl rfl) (pa_cons (pcall c_times hr (by first | decide | omega) (takes_of rfl rfl rfl rfl) (pa_cons (pv 3) (pa_cons (pv 1) pa_nil))) (pa_cons (pv 2) pa_nil)))) (pss_one (ps_ret (pcall c_times hr (by first | decide | omega) (takes_of rfl rfl rfl rfl) (pa_cons (pe_fldK (K := K) rfl (pv 0) rfl) (pa_cons (pcall c_plus hr (by first | decide | omega) (takes_of rfl rfl rfl rfl) (pa_cons (pcall c_minus hr (by first | decide | omega) (takes_of rfl rfl rfl rfl) (pa_cons (C8.pe_gc (by rfl) T.c_ONE_games) (pa_cons (pv 3) pa_nil))) (pa_cons (pv 4) pa_nil))) pa_nil))))))))), ?_⟩
    obtain ⟨a, l, p, g, v, b, c, tt, z, rfl, gat, hp, fit, nc, kk⟩ := h
    have gat' := gat
    obtain ⟨dx, t, r, s, now, m, vs, G⟩ := gat'
    have hvl := G.vals.len
    obtain ⟨pm, pa, pw, zm, za, zn, _, zb, bm, ba, bw, room⟩ := fit.live nc
    have ep : Gm.priceO g = some (Gm.price g) := by
      unfold Gm.priceO
      rw [nc, fit.open_]
      rfl
    walk_at "go"
    refine k_methx G.ins (by walk_at "lz") ?_
    walk_at "go"
    refine ⟨a, l, g, c, rfl, gat, fit.sum, fit.bc, fit.n, fit.few, fun pv H1 s1 hpv => ?_⟩
    rw [ep] at hpv
    obtain ⟨pp, rfl, hpp⟩ := hpv
    walk_at "go"
    refine k_stake (a := r) (r := g.R) (p := pp) (tp := t) (fun Q' q => by walk_at "go"; exact k_fldx (s1 _ _ G.ins) T.cl_Game T.f_Game_rule (by walk_at "lk") q) (G.rule.same s1) fit.ok fit.bz (G.vals.same s1) fit.vals fit.len fit.bb hpp (seqT_same s1 G.top) zm fit.top bm fit.bt (fun Q' kq => ?_) (fun st H2 s2 hst => ?_)
    · walk_at "go"
      refine k_fldx (s1 _ _ G.ins) T.cl_Game T.f_Game_drawn_values (by walk_at "lk") ?_
      walk_at "go"
      refine k_tupL (SqL.of (s1 _ _ G.lst)) (fun ta G1 n1 g1 hta => ?_)
      walk_at "go"
      refine k_fldx (g1 _ _ (s1 _ _ G.ins)) T.cl_Game T.f_Game_highest (by walk_at "lk") ?_
      walk_at "go"
      exact kq ta G1 g1 (SqT.of hta)
    have es : Ru.stakeOf g.R g.vals (Gm.price g) g.top = Gm.stake g := rfl
    rw [es] at hst
    have s02 := s1.trans s2
    have hpp2 := seqT_same s2 hpp
    walk_at "go"
    refine k_eqD (Fr.dp_fq hpp2) (Fr.dp_fq (q := 0) (by rw [Cm.fq0]; exact T.t_NOUGHT_games H2)) ?_ (Fr.shaped_fq _) (Fr.shaped_fq _)
    rw [Fr.eqv_fq]
    walk_at "go"
    refine k_if (fun e => ?_) (fun ne => ?_)
    · walk_at "go"
      refine k_fldx (s02 _ _ G.ins) T.cl_Game T.f_Game_now (by walk_at "lk") ?_
      have n := G.now_
      rw [if_neg (by rw [nc]; decide)] at n
      obtain ⟨pn, rfl, hn⟩ := n
      refine kk pn H2 s02 ?_
      rw [show Gm.behind g v = g.now from if_pos e]
      exact seqT_same s02 hn
    walk_at "go"
    refine ⟨st, p, _, _, pa, b, rfl, hst, seqT_same s02 hp, za, fit.vz, by have := fit.bb; clear room; omega, fun q1 H3 s3 h3 z3 => ?_⟩
    walk_at "go"
    refine ⟨q1, pp, _, _, _, pm, rfl, h3, seqT_same s3 hpp2, z3, zm, by have := fit.bb; clear room; omega, fun e => absurd e ne, fun _ q2 H4 s4 h4 z4 => ?_⟩
    walk_at "go"
    have s04 := s02.trans (s3.trans s4)
    refine k_fldx (s04 _ _ G.ins) T.cl_Game T.f_Game_now (by walk_at "lk") ?_
    have n := G.now_
    rw [if_neg (by rw [nc]; decide)] at n
    obtain ⟨pn, rfl, hn⟩ := n
    walk_at "go"
    refine ⟨_, st, 1, _, 1, pa, rfl, by rw [Cm.fq1]; exact T.t_ONE_games H4, seqT_same (s3.trans s4) hst, Ru.sz1 (by decide), za, by omega, fun q3 H5 s5 h5 z5 => ?_⟩
    walk_at "go"
    refine ⟨q3, q2, _, _, _, _, rfl, h5, seqT_same s5 h4, z5, z4, by omega, fun q4 H6 s6 h6 z6 => ?_⟩
    have s06 := s04.trans (s5.trans s6)
    have ge : Gm.grow (Gm.stake g) v (Gm.price g) = 1 - Gm.stake g + Gm.stake g * v / Gm.price g := rfl
    refine ⟨pn, q4, _, _, pw, _, rfl, seqT_same s06 hn, h6, zn, z6, room.elim (fun h => .inl (by omega)) (fun h => .inr ⟨by have := h.2; omega, by rw [← ge]; exact h.1 ne, by have := h.2; omega⟩), fun q5 H7 s7 h7 z7 => ?_⟩
    refine kk q5 H7 (s06.trans s7) ?_
    rw [show Gm.behind g v = _ from if_neg ne]
    exact h7
end
end Lw
namespace Lw
open PySem PySem.Spec PyProof.Rows L2 Gx LamX NdefX
section
variable {P : Program} {w : World} {K : PySem.W.Frag} {mg : Str → Option Value} {base : Heap} {f : Addr} {fd : FuncData}
theorem ok_Game_play (F : FnP K "play" "Game.play" s_Game_play f fd) (T : Txt K mg) (c_below : Cl P w K mg base 1 "below" ["x", "y"] (sp_below K)) (c_lowest : Cl P w K mg base 2 "lowest" ["a", "b"] (sp_lowest K)) (c_plus : Cl P w K mg base 3 "plus" ["x", "y"] (sp_plus K)) (m_Game_worth_behind : MCl P w K mg base 6 "Game" "worth_behind" ["self", "value"] (sp_Game_worth_behind K)) (m_Game_ended : MCl P w K mg base 1 "Game" "ended" ["self"] (sp_Game_ended K)) : FnOk P w K mg base (L2.CX P w) 7 f fd ["self", "value"] (sp_Game_play K) := by
  refine F.ok sc_Game_play (fun vs H Q E h => ?_) (fun cdv A outer s H vs Q E hr h => ?_)
  · obtain ⟨a, l, p, g, v, rfl, _⟩ := h; rfl
  · refine ⟨_, (pss_cons (ps_if (pt_val (pmeth0 rfl m_Game_ended hr (by first | decide | omega) (takes_of rfl rfl rfl rfl) (pv 0))) (pss_one (ps_raise rfl (takes_of rfl rfl rfl rfl) (pmk_own PySem.F.excBase_ValueError T.x_Ended.1 T.g_Ended T.x_Ended.2.1 (raises_own T.x_Ended.2.2.1 T.x_Ended.2.2.2) rfl))) pss_nil) (pss_cons (ps_set (i := 2) sc_Game_play.nd rfl (Or.inl rfl) pe_non) (C8.pss_cut (ps_if (pt_not (pt_val (pe_fldK (K := K) rfl (pv 0) rfl))) (pss_one (ps_set (i := 2) sc_Game_play.nd rfl (Or.inl rfl) (pmeth rfl m_Game_worth_behind hr (by first | decide | omega) (takes_of rfl rfl rfl rfl) (pv 0) (pa_cons (pv 1) pa_nil)))) pss_nil) (pss_cons (ps_expr (pe_bmK (K := K) rfl PySem.F.plainAttrs_list PySem.F.slot_list_append PySem.F.type_list_append mt_append (pe_fldK (K := K) rfl (pv 0) rfl) (pa_cons (pv 1) pa_nil))) (pss_cons (ps_fld (pv 0) (pcall c_plus hr (by first | decide | omega) (takes_of rfl rfl rfl rfl) (pa_cons (pe_fldK (K := K) rfl (pv 0) rfl) (pa_cons (pv 1) pa_nil))) rfl) (C8.pss_cut (ps_if (PW.pt (pw_and (pt_not (pt_val (pe_fldK (K := K) rfl (pv 0) rfl))) (pw_and1 (pt_val (pcall c_below hr (by first | decide | omega) (takes_of rfl rfl rfl rfl) (pa_cons (pcall c_lowest hr (by first | decide | omega) (takes_of rfl rfl rfl rfl) (pa_cons (pe_fldK (K := K) rfl (pv 0) rfl) (pa_cons pe_int pa_nil))) (pa_cons (pe_fldK (K := K) rfl (pv 0) rfl) pa_nil))))))) (pss_cons (ps_fld (pv 0) pe_bl rfl) (pss_one (ps_set (i := 2) sc_Game_play.nd rfl (Or.inl rfl) pe_non))) pss_nil) (pss_cons (ps_fld (pv 0) (pv 2) rfl) (pss_one (ps_if (PW.pt (pw_and (pt_cmpR op_notNU (pv 2) pe_non (nomark _)) (pw_and1 (pt_val (pcall c_below hr (by first | decide | omega) (takes_of rfl rfl rfl rfl) (pa_cons (pe_fldK (K := K) rfl (pv 0) rfl) (pa_cons (pv 2) pa_nil))))))) (pss_one (ps_fld (pv 0) (pv 2) rfl)) pss_nil))))))))), ?_⟩
    obtain ⟨a, l, p, g, v, rfl, gat, hp, h⟩ := h
    rcases h with ⟨en, ke⟩ | ⟨b, c, tt, z, fit, kk⟩
    · obtain ⟨dx, t, r, s, now, m, vs, G⟩ := id gat
      walk_at "go"
      refine k_methx G.ins (by walk_at "lz") ?_
      walk_at "go"
      refine ⟨a, l, g, rfl, gat, ?_⟩
      rw [en]
      walk_at "go"
      exact ke
    have gat' := gat
    obtain ⟨dx, t, r, s, now, m, vs, G⟩ := gat'
    have hvl := G.vals.len
    have nal : a ≠ l := gat.ne
    walk_at "go"
    refine k_methx G.ins (by walk_at "lz") ?_
    walk_at "go"
    refine ⟨a, l, g, rfl, gat, ?_⟩
    rw [fit.open_]
    walk_at "go"
    refine k_cut (fun σ H' => ∃ w : V, σ = [some (.ref a), some (.ref p), some w] ∧ Same H H' ∧ if g.cert = true then w = .non else ∃ q, w = .ref q ∧ SqT K H' q (Fr.fq (Gm.behind g v))) ?_ ?_
    · walk_at "go"
      refine k_fldx G.ins T.cl_Game T.f_Game_certain (by walk_at "lk") ?_
      walk_at "go"
      refine k_ifnb (fun e => ?_) (fun e => ?_)
      · walk_at "go"
        refine k_methx G.ins (by walk_at "lz") ?_
        walk_at "go"
        refine ⟨a, l, p, g, v, b, c, tt, z, rfl, gat, hp, fit, e, fun q H1 s1 hq => ?_⟩
        walk_at "go"
        exact ⟨_, rfl, s1, by rw [if_neg (by rw [e]; decide)]; exact ⟨q, rfl, hq⟩⟩
      · walk_at "go"
        exact ⟨_, rfl, Same.refl H, by rw [if_pos e]⟩
    rintro σ H1 ⟨w, rfl, s1, hw⟩
    replace G := G.same s1
    replace hp := seqT_same s1 hp
    walk_at "go"
    refine k_fldx G.ins T.cl_Game T.f_Game_drawn_values (by walk_at "lk") ?_
    have szl : vs.length < sizeLine := by rw [sizeLine_eq, hvl]; have := fit.len; omega
    refine ⟨k_app0 G.lst, ?_⟩
    walk_at "go"
    refine k_app1 G.lst szl (fun H2 b2 hl2 => ?_)
    have ins2 := b2 _ _ nal G.ins
    have im2 := imm_but b2 G.lst
    walk_at "go"
    refine k_fldx ins2 T.cl_Game T.f_Game_sum_so_far (by walk_at "lk") ?_
    walk_at "go"
    refine ⟨s, p, _, _, c, b, rfl, seqT_imm im2 G.sum, seqT_imm im2 hp, fit.sum, fit.vz, by have := fit.bb; have := fit.bc; omega, fun s' H3 s3 hs' zs' => ?_⟩
    rw [← Lw.sum_snoc] at hs' zs'
    walk_at "go"
    have ins3 := s3 _ _ ins2
    refine k_sfldx ins3 T.cl_Game T.f_Game_sum_so_far (fun H4 b4 h4 => ?_) (by simp)
    replace h4 : H4 a = some (.ins (He.ga K "Game") dx [("many", .int (g.n : Int)), ("again", .bl g.ag), ("highest", .ref t), ("rule", .ref r), ("drawn_values", .ref l), ("sum_so_far", .ref s'), ("now", now), ("most", .ref m), ("certain", .bl g.cert)]) := by rw [h4]; walk_at "pf"
    have hl4 := b4 _ _ (Ne.symm nal) (s3 _ _ hl2)
    have im4 : Imm H1 H4 := im2.trans ((imm_same s3).trans (imm_butI b4 ins3))
    have b14 : But2 a l H1 H4 := (But2.right b2).trans ((But2.of s3).trans (But2.left b4))
    have hs4 := seqT_imm (imm_butI b4 ins3) hs'
    walk_at "go"
    refine k_cut (fun σ H' => ∃ w : V, σ = [some (.ref a), some (.ref p), some w] ∧ But2 a l H4 H' ∧ Imm H4 H' ∧ H' l = some (.lst (vs ++ [.ref p])) ∧ H' a = some (.ins (He.ga K "Game") dx [("many", .int (g.n : Int)), ("again", .bl g.ag), ("highest", .ref t), ("rule", .ref r), ("drawn_values", .ref l), ("sum_so_far", .ref s'), ("now", now), ("most", .ref m), ("certain", .bl (Gm.certBehind g v))]) ∧
        if Gm.certBehind g v = true then w = .non else ∃ q, w = .ref q ∧ SqT K H' q (Fr.fq (Gm.behind g v))) ?_ ?_
    · have done : (g.ag = true ∨ ¬ ((g.n : Rat) / 2 < Lw.sum (g.vals ++ [v]))) → ∀ H5, Same H4 H5 → ∃ w' : V, [some (V.ref a), some (.ref p), some w] = [some (.ref a), some (.ref p), some w'] ∧ But2 a l H4 H5 ∧ Imm H4 H5 ∧ H5 l = some (.lst (vs ++ [.ref p])) ∧ H5 a = some (.ins (He.ga K "Game") dx [("many", .int (g.n : Int)), ("again", .bl g.ag), ("highest", .ref t), ("rule", .ref r), ("drawn_values", .ref l), ("sum_so_far", .ref s'), ("now", now), ("most", .ref m), ("certain", .bl (Gm.certBehind g v))]) ∧
          if Gm.certBehind g v = true then w' = .non else ∃ q, w' = .ref q ∧ SqT K H5 q (Fr.fq (Gm.behind g v)) := fun e H5 s5 => by
        have ec : Gm.certBehind g v = g.cert := by
          unfold Gm.certBehind
          rcases e with e | e
          · rw [e]; simp
          · rw [decide_eq_false e]; simp
        rw [ec]
        refine ⟨w, rfl, But2.of s5, imm_same s5, s5 _ _ hl4, s5 _ _ h4, ?_⟩
        split at hw
        · rw [if_pos ‹_›]; exact hw
        · rw [if_neg ‹_›]; obtain ⟨q, h1, h2⟩ := hw; exact ⟨q, h1, seqT_same s5 (seqT_imm im4 h2)⟩
      walk_at "go"
      refine k_fldx h4 T.cl_Game T.f_Game_again (by walk_at "lk") ?_
      walk_at "go"
      cases ea : g.ag with
      | true =>
        rw [ea] at done
        walk_at "go"
        exact done (.inl rfl) H4 (Same.refl _)
      | false =>
        rw [ea] at done h4
        walk_at "go"
        refine k_fldx h4 T.cl_Game T.f_Game_many (by walk_at "lk") ?_
        walk_at "go"
        refine ⟨(g.n : Int), 2, rfl, fun z => absurd z (by decide), fun _ => ⟨okd_den (n := 2) (by decide) (by decide) (by decide), fun p1 H5 s5 h5 => ?_⟩⟩
        have e5 : Rat.divInt (g.n : Int) 2 = (g.n : Rat) / 2 := by rw [Rat.divInt_eq_div]; rfl
        have z1 : Fr.Sz 6 ((g.n : Rat) / 2) := by rw [← e5]; exact Fr.sz_divInt (by decide) (by show _ < 64; have := fit.n; omega) (by decide)
        rw [e5] at h5
        walk_at "go"
        refine k_fldx (s5 _ _ h4) T.cl_Game T.f_Game_sum_so_far (by walk_at "lk") ?_
        walk_at "go"
        refine ⟨p1, s', _, _, 6, _, rfl, h5, seqT_same s5 hs4, z1, zs', by have := fit.bb; have := fit.bc; omega, ?_⟩
        walk_at "go"
        refine k_if (fun e => ?_) (fun e => ?_)
        · walk_at "go"
          refine k_sfldx (s5 _ _ h4) T.cl_Game T.f_Game_certain (fun H6 b6 h6 => ?_) (by simp)
          walk_at "go"
          have ec : Gm.certBehind g v = true := by unfold Gm.certBehind; rw [ea, decide_eq_true e]; simp
          rw [ec]
          exact ⟨_, rfl, (But2.of s5).trans (But2.left b6), (imm_same s5).trans (imm_butI b6 (s5 _ _ h4)), b6 _ _ (Ne.symm nal) (s5 _ _ hl4), by rw [h6]; walk_at "pf", rfl⟩
        · exact done (.inr e) H5 s5
    rintro σ H5 ⟨w', rfl, b5, im5, hl5, h5, hw'⟩
    walk_at "go"
    refine k_sfldx h5 T.cl_Game T.f_Game_now (fun H6 b6 h6 => ?_) (by simp)
    replace h6 : H6 a = some (.ins (He.ga K "Game") dx [("many", .int (g.n : Int)), ("again", .bl g.ag), ("highest", .ref t), ("rule", .ref r), ("drawn_values", .ref l), ("sum_so_far", .ref s'), ("now", w'), ("most", .ref m), ("certain", .bl (Gm.certBehind g v))]) := by rw [h6]; walk_at "pf"
    have im6 : Imm H1 H6 := im4.trans (im5.trans (imm_butI b6 h5))
    have b16 : But2 a l H1 H6 := b14.trans (b5.trans (But2.left b6))
    have hl6 := b6 _ _ (Ne.symm nal) hl5
    have rul6 : RAt K H6 r g.R := G.rule.mono im6 fun C d f hf h => b16 _ _ (ne_of h G.ins (by intro z; cases z; simp at hf)) (ne_of h G.lst (by intro z; cases z)) h
    have val6 : Fqs K H6 (vs ++ [.ref p]) (g.vals ++ [v]) := Fqs.snoc (seqT_imm im6 hp) (G.vals.imm im6)
    have sum6 := seqT_imm (im5.trans (imm_butI b6 h5)) hs4
    have e2 : (Gm.play g v).vals = g.vals ++ [v] := rfl
    walk_at "go"
    cases ec : Gm.certBehind g v with
    | true =>
      rw [ec] at h6
      obtain rfl : w' = .non := by rw [if_pos ec] at hw'; exact hw'
      walk_at "go"
      refine kk H6 ((But2.of s1).trans b16) ⟨dx, t, r, s', .non, m, _, ?_, seqT_imm im6 G.top, rul6, hl6, val6, sum6, ?_, ?_⟩
      · show _ = some (HO.ins _ dx [_, _, _, _, _, _, _, _, ("certain", .bl (Gm.certBehind g v))])
        rw [ec]; exact h6
      · rw [if_pos (show (Gm.play g v).cert = true from ec)]
      · show SqT K H6 m (Fr.fq (if Gm.certBehind g v = true then g.most else _))
        rw [if_pos ec]
        exact seqT_imm im6 G.most
    | false =>
      rw [ec] at h6
      rw [if_neg (by rw [ec]; decide)] at hw'
      obtain ⟨q, rfl, hq⟩ := hw'
      have nc : g.cert = false := by
        unfold Gm.certBehind at ec
        cases e : g.cert with
        | false => rfl
        | true => rw [e] at ec; simp at ec
      obtain ⟨pm, pa, pw, zm, za, zn, zo, zb, bm, ba, bw, room⟩ := fit.live nc
      have hq6 := seqT_imm (imm_butI b6 h5) hq
      have now6 : if (Gm.play g v).cert = true then V.ref q = .non else ∃ p, V.ref q = .ref p ∧ SqT K H6 p (Fr.fq (Gm.play g v).now) := by
        rw [if_neg (show ¬ (Gm.play g v).cert = true by show ¬ Gm.certBehind g v = true; rw [ec]; decide)]
        refine ⟨q, rfl, ?_⟩
        show SqT K H6 q (Fr.fq (if g.cert = true then g.now else Gm.behind g v))
        rw [if_neg (by rw [nc]; decide)]
        exact hq6
      have em : (Gm.play g v).most = if g.most < Gm.behind g v then Gm.behind g v else g.most := by
        show (if Gm.certBehind g v = true then g.most else _) = _
        rw [if_neg (by rw [ec]; decide)]
      walk_at "go"
      refine k_fldx h6 T.cl_Game T.f_Game_most (by walk_at "lk") ?_
      walk_at "go"
      refine ⟨m, q, _, _, pw, pw, rfl, seqT_imm im6 G.most, hq6, zo, zb, by omega, ?_⟩
      walk_at "go"
      refine k_if (fun lt => ?_) (fun ge => ?_)
      · walk_at "go"
        refine k_sfldx h6 T.cl_Game T.f_Game_most (fun H7 b7 h7 => ?_) (by simp)
        have im7 := imm_butI b7 h6
        walk_at "go"
        refine kk H7 ((But2.of s1).trans (b16.trans (But2.left b7))) ⟨dx, t, r, s', .ref q, q, _, ?_, seqT_imm (im6.trans im7) G.top, rul6.butI b7 h6 (by simp), b7 _ _ (Ne.symm nal) hl6, val6.imm im7, seqT_imm im7 sum6, ?_, ?_⟩
        · show _ = some (HO.ins _ dx [_, _, _, _, _, _, _, _, ("certain", .bl (Gm.certBehind g v))])
          rw [ec, h7]; walk_at "pf"
        · split at now6
          · rw [if_pos ‹_›]; exact now6
          · rw [if_neg ‹_›]; obtain ⟨p', h1, h2⟩ := now6; exact ⟨p', h1, seqT_imm im7 h2⟩
        · rw [em, if_pos lt]; exact seqT_imm im7 hq6
      · walk_at "go"
        refine kk H6 ((But2.of s1).trans b16) ⟨dx, t, r, s', .ref q, m, _, ?_, seqT_imm im6 G.top, rul6, hl6, val6, sum6, now6, ?_⟩
        · show _ = some (HO.ins _ dx [_, _, _, _, _, _, _, _, ("certain", .bl (Gm.certBehind g v))])
          rw [ec]; exact h6
        · rw [em, if_neg ge]; exact seqT_imm im6 G.most
end
end Lw
namespace Lw
open PySem PySem.Spec PyProof.Rows L2 Gx LamX NdefX
section
variable {P : Program} {w : World} {K : PySem.W.Frag} {mg : Str → Option Value} {base : Heap} {f : Addr} {fd : FuncData}
theorem ok_Game_reached (F : FnP K "reached" "Game.reached" s_Game_reached f fd) (T : Txt K mg) (c_below : Cl P w K mg base 1 "below" ["x", "y"] (sp_below K)) (c_times : Cl P w K mg base 3 "times" ["x", "y"] (sp_times K)) : FnOk P w K mg base (L2.CX P w) 4 f fd ["self", "limit"] (sp_Game_reached K) := by
  refine F.ok sc_Game_reached (fun vs H Q E h => ?_) (fun cdv A outer s H vs Q E hr h => ?_)
  · obtain ⟨a, l, p, g, x, m, n, rfl, _⟩ := h; rfl
  · refine ⟨_, (pss_one (ps_ret (pe_or (pe_fldK (K := K) rfl (pv 0) rfl) (pe_one (pe_not (pcall c_below hr (by first | decide | omega) (takes_of rfl rfl rfl rfl) (pa_cons (pcall c_times hr (by first | decide | omega) (takes_of rfl rfl rfl rfl) (pa_cons (pe_fldK (K := K) rfl (pv 0) rfl) (pa_cons (pv 1) pa_nil))) (pa_cons (C8.pe_gc (by rfl) T.c_ONE_games) pa_nil)))))))), ?_⟩
    obtain ⟨a, l, p, g, x, mm, n, rfl, ⟨dx, t, r, s, now, m, vs, G⟩, hp, sm, sx, hmn, kk⟩ := h
    walk_at "go"
    refine k_fldx G.ins T.cl_Game T.f_Game_certain (by walk_at "lk") ?_
    cases e : g.cert with
    | true =>
      walk_at "go"
      have er : Gm.reached g x = true := by unfold Gm.reached; rw [e]; rfl
      rw [er] at kk
      exact kk H (Same.refl H)
    | false =>
      have er : Gm.reached g x = !decide (g.most * x < 1) := by unfold Gm.reached; rw [e]; rfl
      rw [er] at kk
      walk_at "go"
      refine k_fldx G.ins T.cl_Game T.f_Game_most (by walk_at "lk") ?_
      walk_at "go"
      refine ⟨m, p, _, _, mm, n, rfl, G.most, hp, sm e, sx, hmn, fun q1 H1 s1 h1 z1 => ?_⟩
      walk_at "go"
      refine ⟨q1, _, _, 1, mm + n, 1, rfl, h1, by rw [Cm.fq1]; exact T.t_ONE_games H1, z1, Ru.sz1 (by decide), by omega, ?_⟩
      walk_at "go"
      exact kk H1 s1
end
end Lw
namespace Lw
open PySem PySem.Spec PyProof.Rows L2 Gx LamX NdefX
section
variable {P : Program} {w : World} {K : PySem.W.Frag} {mg : Str → Option Value} {base : Heap} {f : Addr} {fd : FuncData}
theorem ok_Way___init__ (F : FnP K "__init__" "Way.__init__" s_Way___init__ f fd) (T : Txt K mg) : FnOk P w K mg base (L2.CX P w) 1 f fd ["self", "claim"] (sp_Way___init__ K) := by
  refine F.ok sc_Way___init__ (fun vs H Q E h => ?_) (fun cdv A outer s H vs Q E hr h => ?_)
  · obtain ⟨a, C, dx, u, rfl, _⟩ := h; rfl
  · refine ⟨_, (pss_one (ps_fld (pv 0) (pv 1) rfl)), ?_⟩
    obtain ⟨a, C, dx, u, rfl, h0, hc, hn, kk⟩ := h
    walk_at "go"
    refine k_sfldx h0 hc hn (fun H1 b1 h1 => ?_) (by walk_at "pl")
    walk_at "go"
    exact kk H1 b1 (by rw [h1]; walk_at "pf")
end
end Lw
namespace Lw
open PySem PySem.Spec PyProof.Rows L2 Gx LamX NdefX
section
variable {P : Program} {w : World} {K : PySem.W.Frag} {mg : Str → Option Value} {base : Heap} {f : Addr} {fd : FuncData}
theorem ok_Comparing___init__ (F : FnP K "__init__" "Comparing.__init__" s_Comparing___init__ f fd) (T : Txt K mg) (c_minus : Cl P w K mg base 3 "minus" ["x", "y"] (sp_minus K)) (c_over : Cl P w K mg base 3 "over" ["x", "y"] (sp_over K)) (m_Under_greatest : MCl P w K mg base 4 "Under" "greatest" ["self"] (sp_Under_greatest K)) (m_Over_greatest : MCl P w K mg base 4 "Over" "greatest" ["self"] (sp_Over_greatest K)) (m_Beats_greatest : MCl P w K mg base 1 "Beats" "greatest" ["self"] (sp_Beats_greatest K)) (m_Claim_greatest : MCl P w K mg base 1 "Claim" "greatest" ["self"] (sp_Claim_greatest K)) (c_times : Cl P w K mg base 3 "times" ["x", "y"] (sp_times K)) (c_total : Cl P w K mg base 4 "total" ["some"] (sp_total K)) (m_Under_value : MCl P w K mg base 6 "Under" "value" ["self", "mark"] (sp_Claim_value K)) (m_Over_value : MCl P w K mg base 6 "Over" "value" ["self", "mark"] (sp_Claim_value K)) (m_Beats_value : MCl P w K mg base 6 "Beats" "value" ["self", "mark"] (sp_Claim_value K)) (m_Claim_value : MCl P w K mg base 6 "Claim" "value" ["self", "mark"] (sp_Claim_value K)) (m_Under_holds : MCl P w K mg base 7 "Under" "holds" ["self", "marks"] (sp_Claim_holds K)) (m_Over_holds : MCl P w K mg base 7 "Over" "holds" ["self", "marks"] (sp_Claim_holds K)) (m_Beats_holds : MCl P w K mg base 7 "Beats" "holds" ["self", "marks"] (sp_Claim_holds K)) (m_Claim_holds : MCl P w K mg base 7 "Claim" "holds" ["self", "marks"] (sp_Claim_holds K)) (s_Way___init__ : SCl P w K mg base 1 "Way" "__init__" ["self", "claim"] (sp_Way___init__ K)) : FnOk P w K mg base (L2.CX P w) 8 f fd ["self", "claim", "marks"] (sp_Comparing___init__ K) := by
  refine F.ok sc_Comparing___init__ (fun vs H Q E h => ?_) (fun cdv A outer s H vs Q E hr h => ?_)
  · obtain ⟨a, w, p, dx, c, ms, n, H0, rfl, _⟩ := h; rfl
  · refine ⟨_, (pss_cons (ps_expr (psup s_Way___init__ hr (by first | decide | omega) (pa_cons (pv 0) (pa_cons (pv 1) pa_nil)))) (pss_cons (ps_if (pt_not (pt_val (pe_or2 (pmeth rfl m_Claim_holds hr (by first | decide | omega) (takes_of rfl rfl rfl rfl) (pv 1) (pa_cons (pv 2) pa_nil)) (pe_or2 (pmeth rfl m_Beats_holds hr (by first | decide | omega) (takes_of rfl rfl rfl rfl) (pv 1) (pa_cons (pv 2) pa_nil)) (pe_or2 (pmeth rfl m_Over_holds hr (by first | decide | omega) (takes_of rfl rfl rfl rfl) (pv 1) (pa_cons (pv 2) pa_nil)) (pmeth rfl m_Under_holds hr (by first | decide | omega) (takes_of rfl rfl rfl rfl) (pv 1) (pa_cons (pv 2) pa_nil))))))) (pss_one (ps_raise rfl (takes_of rfl rfl rfl rfl) (pmk_own PySem.F.excBase_ValueError T.x_NoMargin.1 T.g_NoMargin T.x_NoMargin.2.1 (raises_own T.x_NoMargin.2.2.1 T.x_NoMargin.2.2.2) rfl))) pss_nil) (pss_cons (ps_fld (pv 0) (pe_lc (own := [("mark", 5)]) (g := gName 5) (by rfl) sc_Comparing___init__.nd (pi_seqU (pv 2)) (blkOk_by (own := [("mark", 5)]) (N := ["self", "claim", "marks", "mean", "margin", "mark"]) (sc := defScope s_Comparing___init__) (by decide +kernel)) (fun _ _ _ _ _ => pg_name (i := 5) sc_Comparing___init__.nd rfl (Or.inl rfl)) (fun _ _ _ _ _ => pts_nil) (fun _ _ _ _ _ => (pe_or2 (pmethN rfl m_Claim_value hr (by first | decide | omega) (pv 1) (pa_cons (pv 5) pa_nil)) (pe_or2 (pmethN rfl m_Beats_value hr (by first | decide | omega) (pv 1) (pa_cons (pv 5) pa_nil)) (pe_or2 (pmethN rfl m_Over_value hr (by first | decide | omega) (pv 1) (pa_cons (pv 5) pa_nil)) (pmethN rfl m_Under_value hr (by first | decide | omega) (pv 1) (pa_cons (pv 5) pa_nil))))))) rfl) (pss_cons (ps_set (i := 3) sc_Comparing___init__.nd rfl (Or.inl rfl) (pcall c_over hr (by first | decide | omega) (takes_of rfl rfl rfl rfl) (pa_cons (pcall c_total hr (by first | decide | omega) (takes_of rfl rfl rfl rfl) (pa_cons (pe_fldK (K := K) rfl (pv 0) rfl) pa_nil)) (pa_cons (pe_tup (pa_cons (pe_callB (callK (K := K) (r := rLenU) rfl call_lenU) (by rfl) T.n_len (by decide +kernel) (pa_cons (pv 2) pa_nil)) (pa_cons pe_int pa_nil))) pa_nil)))) (pss_cons (ps_set (i := 4) sc_Comparing___init__.nd rfl (Or.inl rfl) (pcall c_minus hr (by first | decide | omega) (takes_of rfl rfl rfl rfl) (pa_cons (pcall c_times hr (by first | decide | omega) (takes_of rfl rfl rfl rfl) (pa_cons (C8.pe_gc (by rfl) T.c_TWO) (pa_cons (pv 3) pa_nil))) (pa_cons (C8.pe_gc (by rfl) T.c_ONE_ways) pa_nil)))) (pss_one (ps_fld (pv 0) (pcall c_minus hr (by first | decide | omega) (takes_of rfl rfl rfl rfl) (pa_cons (C8.pe_gc (by rfl) T.c_TWO) (pa_cons (pcall c_over hr (by first | decide | omega) (takes_of rfl rfl rfl rfl) (pa_cons (pv 4) (pa_cons (pe_or2 (pmeth0 rfl m_Claim_greatest hr (by first | decide | omega) (takes_of rfl rfl rfl rfl) (pv 1)) (pe_or2 (pmeth0 rfl m_Beats_greatest hr (by first | decide | omega) (takes_of rfl rfl rfl rfl) (pv 1)) (pe_or2 (pmeth0 rfl m_Over_greatest hr (by first | decide | omega) (takes_of rfl rfl rfl rfl) (pv 1)) (pmeth0 rfl m_Under_greatest hr (by first | decide | omega) (takes_of rfl rfl rfl rfl) (pv 1))))) pa_nil))) pa_nil))) rfl))))))), ?_⟩
    obtain ⟨a, w, p, dx, c, ms, n, H0, rfl, s0, na, ha, hc, ok, hn, hp, l1, l2, kE, kk⟩ := h
    have hsz : ms.length * (n + 6) + 1 ≤ 3600 := by
      have : ms.length * (n + 6) ≤ 62 * 56 := Nat.mul_le_mul l2 (by omega)
      omega
    walk_at "go"
    refine ⟨a, _, dx, .ref w, rfl, ha, T.cl_Comparing, T.f_Comparing_claim, fun H1 b1 h1 => ?_⟩
    have s1 := But.same na s0 b1
    walk_at "go"
    refine Cm.k_m4 (a := w) (c := c) (fun Q' h => by walk_at "go"; exact h) (hc.same s1) ?_
    walk_at "go"
    rw [Cm.pick_same]
    refine ⟨w, p, c, ms, n, rfl, hc.same s1, ok, seqT_same s1 hp, by omega, by omega, fun H2 s2 => ?_⟩
    walk_at "go"
    refine k_ifn (fun c1 => ?_) (fun hh => ?_)
    · walk_at "go"
      exact kE c1 H2 (s1.trans s2)
    have h2 := s2 _ _ h1
    have s02 := s1.trans s2
    walk_at "go"
    refine k_lcU (.inr (seqT_same s02 hp)) (fun D i ys H' => Same H2 H' ∧ Fqs K H' ys ((ms.take i).map (Cm.value c)) ∧ ys.length = i) (fun D H' nD sD hD => ⟨sD, .nil, rfl⟩) (fun D i ys H' nD h => h.1) ?_ ?_
    · rintro D i x ys H' nD hx ⟨s, fq, hy⟩ hD
      obtain ⟨m, hm, rfl⟩ := Cm.get_map hx
      have hi := (List.getElem?_eq_some_iff.mp hm).1
      have hc' := hc.same (s02.trans s)
      refine k_lcB rfl ?_
      walk_at "go"
      refine Cm.k_m4 (a := w) (c := c) (fun Q' h => by walk_at "go"; exact h) hc' ?_
      walk_at "go"
      rw [Cm.pick_same]
      refine ⟨w, m, c, n, rfl, hc', ok, by omega, fun p7 H7 s7 h7 => ?_⟩
      have hD7 := s7 _ _ hD
      refine ⟨_, hD7, by rw [sizeLine_eq]; omega, _, ⟨But.same nD (s.trans s7) But.upd, ?_, by simp [hy]⟩, upd_same⟩
      rw [take_snoc hm, List.map_append]
      exact Fqs.snoc (seqT_but But.upd hD7 h7) (Fqs.but But.upd hD7 (fq.same s7))
    rintro D ys H3 nD ⟨s3, fq, hy⟩ hD
    rw [List.length_map, List.take_of_length_le (Nat.le_refl _)] at fq
    rw [List.length_map] at hy
    walk_at "go"
    refine k_sfldx (s3 _ _ h2) T.cl_Comparing T.f_Comparing_told (fun H4 b4 h4 => ?_) (by walk_at "pl")
    replace h4 : H4 a = some (.ins (He.ga K "Comparing") dx [("claim", .ref w), ("told", .ref D)]) := by rw [h4]; walk_at "pf"
    have s4 := But.same na ((s1.trans s2).trans s3) b4
    have naD : D ≠ a := fun e => by subst e; rw [h2] at nD; cases nD
    have hD4 := b4 _ _ naD hD
    have sz := Cm.sizes c ok ms
    have fq4 : Fqs K H4 ys (ms.map (Cm.value c)) := Wy.fqs_butI b4 (s3 _ _ h2) fq
    walk_at "go"
    refine k_fldx h4 T.cl_Comparing T.f_Comparing_told (by walk_at "lk") ?_
    walk_at "go"
    refine ⟨D, ys, _, _, rfl, .inl (SqL.of hD4), fq4, sz, by rw [Cm.szs_rep]; omega, fun r5 H5 s5 hr5 sz5 => ?_⟩
    rw [Cm.szs_rep] at sz5
    walk_at "go"
    refine k_lenT ?_ (seqT_same (s4.trans s5) hp)
    rw [List.length_map]
    walk_at "go"
    refine k_tupx (fun r6 H6 n6 s6 hr6 => ?_) (by simp [sizeLine_eq])
    refine ⟨r5, r6, _, (ms.length : Rat), _, 10, rfl, seqT_same s6 hr5, by rw [Wy.fqn]; exact SqT.of hr6, sz5, Wy.szn (by omega) (by decide), by omega, fun e => absurd e (Wy.n_ne l1), fun _ r7 H7 s7 hr7 sz7 => ?_⟩
    walk_at "go"
    refine ⟨_, r7, 2, _, 3, _, rfl, by rw [Wy.fq2]; exact T.t_TWO H7, hr7, Wy.sz2, sz7, by omega, fun r8 H8 s8 hr8 sz8 => ?_⟩
    walk_at "go"
    refine ⟨r8, _, _, 1, _, 2, rfl, hr8, by rw [Cm.fq1]; exact T.t_ONE_ways H8, sz8, Cm.sz1 (n := 0), by omega, fun r9 H9 s9 hr9 sz9 => ?_⟩
    walk_at "go"
    have s49 : Same H4 H9 := s5.trans (s6.trans (s7.trans (s8.trans s9)))
    have hc9 := hc.same (s4.trans s49)
    have gr : ∀ (Q' : VK) (E' : XK), (∀ p H', Same H9 H' → SqT K H' p (Fr.fq (Cm.greatest c)) → Q' (.ref p) H') → (Cm.pick c (sp_Claim_greatest K) (sp_Beats_greatest K) (sp_Over_greatest K) (sp_Under_greatest K)) [.ref w] H9 Q' E' := fun Q' E' q => by
      cases c with
      | claim => exact ⟨w, _, n, rfl, hc9, ok, by omega, rfl, q⟩
      | beats o t => exact ⟨w, _, n, rfl, hc9, ok, by omega, ⟨o, t, rfl⟩, q⟩
      | over k s => exact ⟨w, _, n, rfl, hc9, ok, by omega, ⟨k, s, rfl⟩, q⟩
      | under k s => exact ⟨w, _, n, rfl, hc9, ok, by omega, ⟨k, s, rfl⟩, q⟩
    refine Cm.k_m4 (a := w) (c := c) (fun Q' h => by walk_at "go"; exact h) hc9 ?_
    walk_at "go"
    refine gr _ _ (fun g H10 s10 hg => ?_)
    walk_at "go"
    refine ⟨r9, g, _, _, _, n + 5, rfl, seqT_same s10 hr9, hg, sz9, Cm.sz_greatest ok, by omega, fun e => absurd e (Wy.g_ne ok), fun _ r11 H11 s11 hr11 sz11 => ?_⟩
    walk_at "go"
    refine ⟨_, r11, 2, _, 3, _, rfl, by rw [Wy.fq2]; exact T.t_TWO H11, hr11, Wy.sz2, sz11, by omega, fun r12 H12 s12 hr12 sz12 => ?_⟩
    walk_at "go"
    have s4c : Same H4 H12 := s49.trans (s10.trans (s11.trans s12))
    refine k_sfldx (s4c _ _ h4) T.cl_Comparing T.f_Comparing_scale (fun H13 b13 h13 => ?_) (by walk_at "pl")
    replace h13 : H13 a = some (.ins (He.ga K "Comparing") dx [("claim", .ref w), ("told", .ref D), ("scale", .ref r12)]) := by rw [h13]; walk_at "pf"
    walk_at "go"
    refine kk hh D r12 ys H13 (But.same na (s4.trans s4c) b13) h13 (b13 _ _ naD (s4c _ _ hD4)) ?_ ?_ (sz12.mono (by omega))
    · exact Wy.fqs_butI b13 (s4c _ _ h4) (fq4.same s4c)
    · exact seqT_butI b13 (s4c _ _ h4) hr12
end
end Lw
namespace Lw
open PySem PySem.Spec PyProof.Rows L2 Gx LamX NdefX
section
variable {P : Program} {w : World} {K : PySem.W.Frag} {mg : Str → Option Value} {base : Heap} {f : Addr} {fd : FuncData}
theorem ok_Comparing_value (F : FnP K "value" "Comparing.value" s_Comparing_value f fd) (T : Txt K mg) (c_over : Cl P w K mg base 3 "over" ["x", "y"] (sp_over K)) (c_minus : Cl P w K mg base 3 "minus" ["x", "y"] (sp_minus K)) (m_Under_greatest : MCl P w K mg base 4 "Under" "greatest" ["self"] (sp_Under_greatest K)) (m_Over_greatest : MCl P w K mg base 4 "Over" "greatest" ["self"] (sp_Over_greatest K)) (m_Beats_greatest : MCl P w K mg base 1 "Beats" "greatest" ["self"] (sp_Beats_greatest K)) (m_Claim_greatest : MCl P w K mg base 1 "Claim" "greatest" ["self"] (sp_Claim_greatest K)) (m_Under_value : MCl P w K mg base 6 "Under" "value" ["self", "mark"] (sp_Claim_value K)) (m_Over_value : MCl P w K mg base 6 "Over" "value" ["self", "mark"] (sp_Claim_value K)) (m_Beats_value : MCl P w K mg base 6 "Beats" "value" ["self", "mark"] (sp_Claim_value K)) (m_Claim_value : MCl P w K mg base 6 "Claim" "value" ["self", "mark"] (sp_Claim_value K)) : FnOk P w K mg base (L2.CX P w) 7 f fd ["self", "number", "mark"] (sp_Comparing_value K) := by
  refine F.ok sc_Comparing_value (fun vs H Q E h => ?_) (fun cdv A outer s H vs Q E hr h => ?_)
  · obtain ⟨a, i, m, t, c, ms, n, rfl, _⟩ := h; rfl
  · refine ⟨_, (pss_cons (ps_set (i := 3) sc_Comparing_value.nd rfl (Or.inl rfl) (pcall c_minus hr (by first | decide | omega) (takes_of rfl rfl rfl rfl) (pa_cons (pe_ix (ix_K (K := K) rfl) (pe_fldK (K := K) rfl (pv 0) rfl) (pv 1) (fun _ _ => rfl)) (pa_cons (pe_or2 (pmeth rfl m_Claim_value hr (by first | decide | omega) (takes_of rfl rfl rfl rfl) (pe_fldK (K := K) rfl (pv 0) rfl) (pa_cons (pv 2) pa_nil)) (pe_or2 (pmeth rfl m_Beats_value hr (by first | decide | omega) (takes_of rfl rfl rfl rfl) (pe_fldK (K := K) rfl (pv 0) rfl) (pa_cons (pv 2) pa_nil)) (pe_or2 (pmeth rfl m_Over_value hr (by first | decide | omega) (takes_of rfl rfl rfl rfl) (pe_fldK (K := K) rfl (pv 0) rfl) (pa_cons (pv 2) pa_nil)) (pmeth rfl m_Under_value hr (by first | decide | omega) (takes_of rfl rfl rfl rfl) (pe_fldK (K := K) rfl (pv 0) rfl) (pa_cons (pv 2) pa_nil))))) pa_nil)))) (pss_cons (ps_set (i := 4) sc_Comparing_value.nd rfl (Or.inl rfl) (pcall c_minus hr (by first | decide | omega) (takes_of rfl rfl rfl rfl) (pa_cons (C8.pe_gc (by rfl) T.c_ONE_ways) (pa_cons (pcall c_over hr (by first | decide | omega) (takes_of rfl rfl rfl rfl) (pa_cons (pv 3) (pa_cons (pe_or2 (pmeth0 rfl m_Claim_greatest hr (by first | decide | omega) (takes_of rfl rfl rfl rfl) (pe_fldK (K := K) rfl (pv 0) rfl)) (pe_or2 (pmeth0 rfl m_Beats_greatest hr (by first | decide | omega) (takes_of rfl rfl rfl rfl) (pe_fldK (K := K) rfl (pv 0) rfl)) (pe_or2 (pmeth0 rfl m_Over_greatest hr (by first | decide | omega) (takes_of rfl rfl rfl rfl) (pe_fldK (K := K) rfl (pv 0) rfl)) (pmeth0 rfl m_Under_greatest hr (by first | decide | omega) (takes_of rfl rfl rfl rfl) (pe_fldK (K := K) rfl (pv 0) rfl))))) pa_nil))) pa_nil)))) (pss_one (ps_ret (pcall c_over hr (by first | decide | omega) (takes_of rfl rfl rfl rfl) (pa_cons (pv 4) (pa_cons (pe_fldK (K := K) rfl (pv 0) rfl) pa_nil))))))), ?_⟩
    obtain ⟨a, i, m, t, c, ms, n, rfl, ⟨dx, w, l, r, ys, hi, hc, hl, fq, hr, sr⟩, ht, ok, hn, kk⟩ := h
    have z1 := Cm.sz_value c ok t
    have z2 := Cm.sz_value c ok m
    have gz := Cm.sz_greatest ok
    have hil := (List.getElem?_eq_some_iff.mp ht).1
    have hyl : ys.length = ms.length := by rw [fq.len, List.length_map]
    obtain ⟨y, hy⟩ : ∃ y, ys[i]? = some y := ⟨_, List.getElem?_eq_getElem (by omega)⟩
    obtain ⟨tp, q, rfl, hq, htp⟩ := fq.get hy
    rw [List.getElem?_map, ht] at hq
    obtain rfl : Cm.value c t = q := Option.some.inj hq
    walk_at "go"
    refine k_fldx hi T.cl_Comparing T.f_Comparing_told (by walk_at "lk") ?_
    walk_at "go"
    refine k_ixL (SqL.of hl) (atI_nat hy) ?_
    walk_at "go"
    refine Cm.k_m4 (a := w) (c := c) (fun Q' h => by walk_at "go"; refine k_fldx hi T.cl_Comparing T.f_Comparing_claim (by walk_at "lk") ?_; exact h) hc ?_
    walk_at "go"
    rw [Cm.pick_same]
    refine ⟨w, m, c, n, rfl, hc, ok, by omega, fun r1 H1 s1 hr1 => ?_⟩
    refine ⟨tp, r1, _, _, _, _, rfl, seqT_same s1 htp, hr1, z1, z2, by omega, fun r2 H2 s2 hr2 sz2 => ?_⟩
    walk_at "go"
    have s02 := s1.trans s2
    have hc2 := hc.same s02
    have gr : ∀ (Q' : VK) (E' : XK), (∀ p H', Same H2 H' → SqT K H' p (Fr.fq (Cm.greatest c)) → Q' (.ref p) H') → (Cm.pick c (sp_Claim_greatest K) (sp_Beats_greatest K) (sp_Over_greatest K) (sp_Under_greatest K)) [.ref w] H2 Q' E' := fun Q' E' q => by
      cases c with
      | claim => exact ⟨w, _, n, rfl, hc2, ok, by omega, rfl, q⟩
      | beats o t => exact ⟨w, _, n, rfl, hc2, ok, by omega, ⟨o, t, rfl⟩, q⟩
      | over k s => exact ⟨w, _, n, rfl, hc2, ok, by omega, ⟨k, s, rfl⟩, q⟩
      | under k s => exact ⟨w, _, n, rfl, hc2, ok, by omega, ⟨k, s, rfl⟩, q⟩
    refine Cm.k_m4 (a := w) (c := c) (fun Q' h => by walk_at "go"; refine k_fldx (s02 _ _ hi) T.cl_Comparing T.f_Comparing_claim (by walk_at "lk") ?_; exact h) hc2 ?_
    walk_at "go"
    refine gr _ _ (fun g H3 s3 hg => ?_)
    walk_at "go"
    refine ⟨r2, g, _, _, _, n + 5, rfl, seqT_same s3 hr2, hg, sz2, gz, by omega, fun e => absurd e (Wy.g_ne ok), fun _ r4 H4 s4 hr4 sz4 => ?_⟩
    walk_at "go"
    refine ⟨_, r4, 1, _, 2, _, rfl, by rw [Cm.fq1]; exact T.t_ONE_ways H4, hr4, Cm.sz1 (n := 0), sz4, by omega, fun r5 H5 s5 hr5 sz5 => ?_⟩
    walk_at "go"
    have s05 := s02.trans (s3.trans (s4.trans s5))
    refine k_fldx (s05 _ _ hi) T.cl_Comparing T.f_Comparing_scale (by walk_at "lk") ?_
    walk_at "go"
    refine ⟨r5, r, _, _, _, _, rfl, hr5, seqT_same s05 hr, sz5, sr, by omega, fun e => absurd e (Wy.scale_ne ok (by omega)), fun _ r6 H6 s6 hr6 _ => ?_⟩
    exact kk r6 H6 (s05.trans s6) hr6
end
end Lw
namespace Lw
open PySem PySem.Spec PyProof.Rows L2 Gx LamX NdefX
section
variable {P : Program} {w : World} {K : PySem.W.Frag} {mg : Str → Option Value} {base : Heap} {f : Addr} {fd : FuncData}
theorem ok_Comparing_top (F : FnP K "top" "Comparing.top" s_Comparing_top f fd) (T : Txt K mg) (c_over : Cl P w K mg base 3 "over" ["x", "y"] (sp_over K)) : FnOk P w K mg base (L2.CX P w) 4 f fd ["self"] (sp_Comparing_top K) := by
  refine F.ok sc_Comparing_top (fun vs H Q E h => ?_) (fun cdv A outer s H vs Q E hr h => ?_)
  · obtain ⟨a, c, ms, n, rfl, _⟩ := h; rfl
  · refine ⟨_, (pss_one (ps_ret (pcall c_over hr (by first | decide | omega) (takes_of rfl rfl rfl rfl) (pa_cons (C8.pe_gc (by rfl) T.c_TWO) (pa_cons (pe_fldK (K := K) rfl (pv 0) rfl) pa_nil))))), ?_⟩
    obtain ⟨a, c, ms, n, rfl, ⟨dx, w, l, r, ys, hi, hc, hl, fq, hr, sr⟩, m1, ok, kk⟩ := h
    walk_at "go"
    refine k_fldx hi T.cl_Comparing T.f_Comparing_scale (by walk_at "lk") ?_
    walk_at "go"
    refine ⟨_, r, 2, _, 3, _, rfl, by rw [Wy.fq2]; exact T.t_TWO H, hr, Wy.sz2, sr, by omega, fun e => absurd e (Wy.scale_ne ok m1), fun _ r6 H6 s6 hr6 _ => ?_⟩
    exact kk r6 H6 s6 hr6
end
end Lw
namespace Lw
open PySem PySem.Spec PyProof.Rows L2 Gx LamX NdefX
section
variable {P : Program} {w : World} {K : PySem.W.Frag} {mg : Str → Option Value} {base : Heap} {f : Addr} {fd : FuncData}
theorem ok_draws_alike (F : FnP K "draws_alike" "draws_alike" s_draws_alike f fd) (T : Txt K mg) (m_Game_reached : MCl P w K mg base 4 "Game" "reached" ["self", "limit"] (sp_Game_reached K)) (m_Game_play : MCl P w K mg base 7 "Game" "play" ["self", "value"] (sp_Game_play K)) (m_Comparing_value : MCl P w K mg base 7 "Comparing" "value" ["self", "number", "mark"] (sp_Comparing_value K)) (k_Game : KCl P w K mg base 1 "Game" ["self", "many", "again", "top", "rule"] (sp_Game___init__ K)) (m_Comparing_top : MCl P w K mg base 4 "Comparing" "top" ["self"] (sp_Comparing_top K)) (k_Comparing : KCl P w K mg base 8 "Comparing" ["self", "claim", "marks"] (sp_Comparing___init__ K)) : FnOk P w K mg base (L2.CX P w) 10 f fd ["claim", "marks", "rule", "limit", "again"] (sp_draws_alike K) := by
  refine F.ok sc_draws_alike (fun vs H Q E h => ?_) (fun cdv A outer s H vs Q E hr h => ?_)
  · obtain ⟨w, p, ra, lp, c, ms, x, R, b, rfl, _⟩ := h; rfl
  · refine ⟨_, (pss_cons (ps_set (i := 5) sc_draws_alike.nd rfl (Or.inl rfl) (pmakeS rfl k_Comparing hr (by first | decide | omega) (takes_of rfl rfl rfl rfl) (pa_cons (pv 0) (pa_cons (pv 1) pa_nil)))) (pss_cons (ps_set (i := 6) sc_draws_alike.nd rfl (Or.inl rfl) (pmake rfl k_Game hr (by first | decide | omega) (pa_cons (pe_callB (callK (K := K) (r := rLenU) rfl call_lenU) (by rfl) T.n_len (by decide +kernel) (pa_cons (pv 1) pa_nil)) (pa_cons (pv 4) (pa_cons (pmeth0 rfl m_Comparing_top hr (by first | decide | omega) (takes_of rfl rfl rfl rfl) (pv 5)) (pa_cons (pv 2) pa_nil)))))) (pss_cons (ps_set (i := 7) sc_draws_alike.nd rfl (Or.inl rfl) (C8.pe_gc (by rfl) T.c_MOST_DRAWS)) (C8.pss_cut (ps_if (pt_not (pt_val (pv 4))) (pss_one (ps_set (i := 7) sc_draws_alike.nd rfl (Or.inl rfl) (pe_callB (call_minU rfl) (by rfl) T.n_min (by decide +kernel) (pa_cons (pv 7) (pa_cons (pe_callB (callK (K := K) (r := rLenU) rfl call_lenU) (by rfl) T.n_len (by decide +kernel) (pa_cons (pv 1) pa_nil)) pa_nil))))) pss_nil) (pss_cons (ps_for (passes_of rfl) rfl (pi_range1 rfl T.n_range (pa_cons (pv 7) pa_nil)) (pg_name (i := 8) sc_draws_alike.nd rfl (Or.inl rfl)) (pss_cons (ps_if (pt_val (pmeth rfl m_Game_reached hr (by first | decide | omega) (takes_of rfl rfl rfl rfl) (pv 6) (pa_cons (pv 3) pa_nil))) (pss_one (ps_ret (pv 8))) pss_nil) (pss_one (ps_expr (pmeth rfl m_Game_play hr (by first | decide | omega) (takes_of rfl rfl rfl rfl) (pv 6) (pa_cons (pmeth rfl m_Comparing_value hr (by first | decide | omega) (takes_of rfl rfl rfl rfl) (pv 5) (pa_cons pe_int (pa_cons (pe_ix (ix_K (K := K) rfl) (pv 1) pe_int (fun _ _ => rfl)) pa_nil))) pa_nil)))))) (pss_cons (ps_if (pt_val (pmeth rfl m_Game_reached hr (by first | decide | omega) (takes_of rfl rfl rfl rfl) (pv 6) (pa_cons (pv 3) pa_nil))) (pss_one (ps_ret (pv 7))) pss_nil) (pss_one (ps_ret pe_non)))))))), ?_⟩
    obtain ⟨w, p, ra, lp, c, ms, x, R, b, rfl, hw, ok, hp, l1, l2, hra, okR, hlp, sx, x0, kE, kk⟩ := h
    have n60 := alN_le (ms := ms) (b := b)
    have s0 := al_std ok l1 l2 (b := b) okR
    have vok := al_vok ok l1 l2
    have x0' : 0 ≤ x := Rat.le_of_lt x0
    generalize hvs : List.replicate (alN ms b) (alv c ms) = vs at *
    have vl : vs.length = alN ms b := by rw [← hvs, List.length_replicate]
    have vm : ∀ q ∈ vs, q = alv c ms := fun q hq => by rw [← hvs] at hq; exact List.eq_of_mem_replicate hq
    have std : ∀ k, k ≤ vs.length → Gg.Std PA (alv c ms).den (Gm.plays (Gm.init ms.length b (alt c ms) R) (vs.take k)) := fun k hk => by
      have tl : (vs.take k).length = k := by rw [List.length_take]; omega
      refine Gg.std_plays _ s0 (fun q hq => ?_) (fun e => ?_) (by show 0 + _ ≤ 60; omega)
      · rw [vm q (List.mem_of_mem_take hq)]; exact vok
      · have := alN_few (ms := ms) (show b = false from e)
        show 0 + _ ≤ ms.length
        omega
    have r0 : Gm.reached (Gm.init ms.length b (alt c ms) R) x = Gg.hit x (Gm.init ms.length b (alt c ms) R) := by
      have := Gm.reached_init x0' ms.length b (alt c ms) R []
      rw [show Gm.plays (Gm.init ms.length b (alt c ms) R) [] = Gm.init ms.length b (alt c ms) R from rfl] at this
      rw [this]
      exact Bool.or_false _
    have rh : ∀ k, k ≤ vs.length → (∀ j, j < k → Gg.hit x (Gm.plays (Gm.init ms.length b (alt c ms) R) (vs.take j)) = false) → Gm.reached (Gm.plays (Gm.init ms.length b (alt c ms) R) (vs.take k)) x = Gg.hit x (Gm.plays (Gm.init ms.length b (alt c ms) R) (vs.take k)) := fun k hk h => Gg.reached_hit x0' r0 hk h
    have sc : PA.s * PA.L + 1 + 20 ≤ 9000 ∨ (PA.s * PA.L + 1 + 20 ≤ 1000000 ∧ x ≠ 0 ∧ 2 * 20 ≤ 9000) := .inr ⟨by decide, fun z => by rw [z] at x0; exact absurd x0 (by decide), by decide⟩
    walk_at "go"
    refine k_makex (fun a dx H2 na nd s2 ha oo => ?_)
    refine ⟨a, w, p, dx, c, ms, 7, H, rfl, s2, na, ha, hw, ok, by decide, hp, l1, by omega, fun nh H3 s3 => kE nh H3 s3, fun hh l r ys H3 s3 h3 hl fq hr _ => ⟨rfl, ?_⟩⟩
    have kk := kk hh
    have wa : Wy.Wa K H3 a c ms := ⟨dx, w, l, r, ys, h3, hw.same s3, hl, fq, hr, (scale_sz ok l1 l2).mono (by decide)⟩
    walk_at "go"
    refine k_lenT ?_ (seqT_same s3 hp)
    rw [List.length_map]
    walk_at "go"
    refine k_methx h3 (by walk_at "lz") ?_
    walk_at "go"
    refine ⟨a, c, ms, 7, rfl, wa, l1, ok, fun tp H4 s4 htp => ?_⟩
    have s34 := s3.trans s4
    walk_at "go"
    refine k_makex (fun g dg A ng ndg sA hg oog => ⟨g, dg, tp, ra, ms.length, b, alt c ms, R, rfl, hg, seqT_same sA htp, hra.same (s34.trans sA), fun z => (hra.same s34).there (by rw [z]; exact ng), fun lg B bB nlg gat => ⟨rfl, ?_⟩⟩)
    have sB4 := But.same ng sA bB
    have sB := s34.trans sB4
    have ng0 : H g = none := by
      cases e : H g with
      | none => rfl
      | some o => rw [s34 _ _ e] at ng; cases ng
    have nlg0 : H lg = none := by
      cases e : H lg with
      | none => rfl
      | some o => rw [(s34.trans sA) _ _ e] at nlg; cases nlg
    have ngw : ∀ (b : Addr) (o : HO), H4 b = some o → b ≠ g ∧ b ≠ lg := fun b o h => ⟨(fun z => by subst z; rw [ng] at h; cases h), (fun z => by subst z; rw [sA _ _ h] at nlg; cases nlg)⟩
    have waB : Wy.Wa K B a c ms := wa.same (s4.trans sB4)
    refine k_gn ?_
    dsimp only
    walk_at "go"
    refine k_cut (fun σ H' => H' = B ∧ σ = [some (.ref w), some (.ref p), some (.ref ra), some (.ref lp), some (.bl b), some (.ref a), some (.ref g), some (.int (alN ms b : Nat)), none]) ?_ ?_
    · cases eb : b with
      | true =>
        walk_at "go"
        exact ⟨rfl, rfl⟩
      | false =>
        walk_at "go"
        refine k_lenT ?_ (seqT_same sB hp)
        rw [List.length_map]
        walk_at "go"
        rw [show min (60 : Int) (ms.length : Int) = ((alN ms false : Nat) : Int) by show _ = ((min 60 ms.length : Nat) : Int); omega]
        exact ⟨rfl, rfl⟩
    rintro σ H5 ⟨rfl, rfl⟩
    walk_at "go"
    refine k_rng1 (by omega) ?_
    rw [show ((alN ms b : Nat) : Int).toNat = alN ms b by omega]
    have same2 : ∀ {G1 G2 : Hp}, Same H4 G1 → But2 g lg G1 G2 → Same H4 G2 := fun s1 b2 b o h => b2 _ _ (ngw b o h).1 (ngw b o h).2 (s1 _ _ h)
    refine k_loopR (n := alN ms b) (fun i σ H' => ∃ t8 : Option V, σ = [some (.ref w), some (.ref p), some (.ref ra), some (.ref lp), some (.bl b), some (.ref a), some (.ref g), some (.int (alN ms b : Nat)), t8] ∧ Same H4 H' ∧ (∀ j, j < i → Gg.hit x (Gm.plays (Gm.init ms.length b (alt c ms) R) (vs.take j)) = false) ∧ GAt K H' g lg (Gm.plays (Gm.init ms.length b (alt c ms) R) (vs.take i)))
      ⟨_, rfl, sB4, fun j h => absurd h (by omega), gat⟩ ?_ ?_
    rotate_left
    · rintro σ H6 ⟨t8, rfl, s6, nh, gt⟩
      rw [← vl] at nh gt
      have st := std vs.length (Nat.le_refl _)
      have er := rh vs.length (Nat.le_refl _) nh
      generalize hgs : Gm.plays (Gm.init ms.length b (alt c ms) R) (vs.take vs.length) = gs at *
      obtain ⟨dg', fg, _, hgi⟩ := gt.ins
      walk_at "go"
      refine k_methx hgi (gt.look hgi (by decide +kernel)) ?_
      walk_at "go"
      refine ⟨g, lg, lp, gs, x, PA.s * PA.L + 1, 20, rfl, gt, seqT_same (s34.trans s6) hlp, Gg.most_sz st, sx, sc, fun H7 s7 => ?_⟩
      rw [er]
      have s07 := s34.trans (s6.trans s7)
      cases eh : Gg.hit x gs with
      | true =>
        walk_at "go"
        have := kk H7 s07
        rw [show alturn c ms x R b = some (alN ms b) by unfold alturn; rw [hvs, ← vl]; exact Gg.turn_some (Nat.le_refl _) (by rw [hgs]; exact eh) nh] at this
        exact this
      | false =>
        walk_at "go"
        have := kk H7 s07
        rw [show alturn c ms x R b = none by
          unfold alturn
          rw [hvs]
          refine Gg.turn_none fun j hj => ?_
          rcases Nat.lt_or_ge j vs.length with h | h
          · exact nh j h
          · rw [show j = vs.length by omega, hgs, eh]] at this
        exact this
    rintro i σ H6 hi ⟨t8, rfl, s6, nh, gt⟩
    have st := std i (by omega)
    have er := rh i (by omega) nh
    have hvi : vs[i]? = some (alv c ms) := by
      rw [List.getElem?_eq_getElem (show i < vs.length by omega)]
      exact congrArg some (vm _ (List.getElem_mem _))
    have tsn := take_snoc hvi
    have tl : (vs.take i).length = i := by rw [List.length_take]; omega
    obtain ⟨en, ea, et, eR⟩ := Gm.plays_n (Gm.init ms.length b (alt c ms) R) (vs.take i)
    have gv := Gm.plays_vals (Gm.init ms.length b (alt c ms) R) (vs.take i)
    generalize hgs : Gm.plays (Gm.init ms.length b (alt c ms) R) (vs.take i) = gs at *
    replace en : gs.n = ms.length := en
    replace ea : gs.ag = b := ea
    replace et : gs.top = alt c ms := et
    replace gv : gs.vals = vs.take i := gv
    obtain ⟨dg', fg, _, hgi⟩ := gt.ins
    walk_at "go"
    refine k_methx hgi (gt.look hgi (by decide +kernel)) ?_
    walk_at "go"
    refine ⟨g, lg, lp, gs, x, PA.s * PA.L + 1, 20, rfl, gt, seqT_same (s34.trans s6) hlp, Gg.most_sz st, sx, sc, fun H7 s7 => ?_⟩
    rw [er]
    have s07 := s34.trans (s6.trans s7)
    cases eh : Gg.hit x gs with
    | true =>
      walk_at "go"
      have := kk H7 s07
      rw [show alturn c ms x R b = some i by unfold alturn; rw [hvs]; exact Gg.turn_some (by omega) (by rw [hgs]; exact eh) nh] at this
      exact this
    | false =>
      have gt7 := gt.same s7
      obtain ⟨dg7, fg7, _, hgi7⟩ := gt7.ins
      have wa7 : Wy.Wa K H7 a c ms := (wa.same s4).same (s6.trans s7)
      obtain ⟨dxw, w', l', r', ys', hwi, _⟩ := id wa7
      have op : Gm.ended gs = false := Gg.open_of (p := PA) (D := (alv c ms).den) fun h => by
        rw [ea] at h
        have := alN_few (ms := ms) h
        rw [en, gv, tl]
        omega
      have fits := Gg.fits st op (by rw [gv, tl]; show i < 60; omega) (v := alv c ms) (by rw [et]; exact vok)
      walk_at "go"
      refine k_methx hgi7 (gt7.look hgi7 (by decide +kernel)) ?_
      walk_at "go"
      refine k_methx hwi (by walk_at "lz") ?_
      walk_at "go"
      have ht0 : ms[0]? = some ms[0] := List.getElem?_eq_getElem (by omega)
      refine k_ixT (seqT_same s07 hp) (i := ((0 : Nat) : Int)) (v := Cm.mv ms[0]) (atI_nat (by rw [List.getElem?_map, ht0]; rfl)) ?_
      walk_at "go"
      refine ⟨a, 0, ms[0], ms[0], c, ms, 7, rfl, wa7, ht0, ok, by decide, fun pv H8 s8 hpv => ?_⟩
      rw [Wy.same_cmp] at hpv
      walk_at "go"
      refine ⟨g, lg, pv, gs, alv c ms, rfl, gt7.same s8, hpv, .inr ⟨_, _, _, _, fits, fun H9 b9 gt9 => ?_⟩⟩
      walk_at "go"
      refine ⟨_, rfl, same2 (s6.trans (s7.trans s8)) b9, fun j hj => ?_, by rw [tsn, Gm.plays_snoc, hgs]; exact gt9⟩
      rcases Nat.lt_or_ge j i with h | h
      · exact nh j h
      · rw [show j = i by omega, hgs, eh]
end
end Lw
namespace Lw
open PySem PySem.Spec PyProof.Rows L2 Gx LamX NdefX
section
variable {P : Program} {w : World} {K : PySem.W.Frag} {mg : Str → Option Value} {base : Heap} {f : Addr} {fd : FuncData}
theorem ok_Claim_value (F : FnP K "value" "Claim.value" s_Claim_value f fd) (T : Txt K mg) (m_Under_value_of : MCl P w K mg base 5 "Under" "value_of" ["self", "mark"] (sp_Under_value_of K)) (m_Over_value_of : MCl P w K mg base 5 "Over" "value_of" ["self", "mark"] (sp_Over_value_of K)) (m_Beats_value_of : MCl P w K mg base 1 "Beats" "value_of" ["self", "mark"] (sp_Beats_value_of K)) (m_Claim_value_of : MCl P w K mg base 1 "Claim" "value_of" ["self", "mark"] (sp_Claim_value_of K)) : FnOk P w K mg base (L2.CX P w) 6 f fd ["self", "mark"] (sp_Claim_value K) := by
  refine F.ok sc_Claim_value (fun vs H Q E h => ?_) (fun cdv A outer s H vs Q E hr h => ?_)
  · obtain ⟨a, m, c, n, rfl, _⟩ := h; rfl
  · refine ⟨_, (pss_cons (ps_if (pt_cmpR (op_eqK (K := K) rfl hr) (pv 1) pe_str (nomark _)) (pss_one (ps_ret (C8.pe_gc (by rfl) T.c_NOUGHT_claims))) pss_nil) (pss_one (ps_ret (pe_or2 (pmeth rfl m_Claim_value_of hr (by first | decide | omega) (takes_of rfl rfl rfl rfl) (pv 0) (pa_cons (pv 1) pa_nil)) (pe_or2 (pmeth rfl m_Beats_value_of hr (by first | decide | omega) (takes_of rfl rfl rfl rfl) (pv 0) (pa_cons (pv 1) pa_nil)) (pe_or2 (pmeth rfl m_Over_value_of hr (by first | decide | omega) (takes_of rfl rfl rfl rfl) (pv 0) (pa_cons (pv 1) pa_nil)) (pmeth rfl m_Under_value_of hr (by first | decide | omega) (takes_of rfl rfl rfl rfl) (pv 0) (pa_cons (pv 1) pa_nil)))))))), ?_⟩
    obtain ⟨a, m, c, n, rfl, hc, ok, hn, kk⟩ := h
    walk_at "go"
    refine Cm.k_eqM ?_
    walk_at "go"
    refine k_if (fun c1 => ?_) (fun c1 => ?_)
    · walk_at "go"
      refine kk _ H (Same.refl H) ?_
      rw [show Cm.value c m = 0 from if_pos c1, Cm.fq0]
      exact T.t_NOUGHT_claims H
    · walk_at "go"
      have e : Cm.value c m = Cm.valueOf c m := if_neg c1
      have hc0 := hc
      cases c with
      | claim =>
        obtain ⟨dx, hi⟩ := hc
        refine k_o1 ?_
        walk_at "go"
        refine k_methx hi (by walk_at "lz") ?_
        walk_at "go"
        exact ⟨a, m, _, n, rfl, hc0, ok, hn, rfl, fun p H1 s1 hp => kk p H1 s1 (by rw [e]; exact hp)⟩
      | beats o t =>
        obtain ⟨dx, hi⟩ := hc
        refine k_o2 (k_o1 ?_)
        walk_at "go"
        refine k_methx hi (by walk_at "lz") ?_
        walk_at "go"
        exact ⟨a, m, _, n, rfl, hc0, ok, hn, ⟨o, t, rfl⟩, fun p H1 s1 hp => kk p H1 s1 (by rw [e]; exact hp)⟩
      | over k s =>
        obtain ⟨dx, q, hi, hq⟩ := hc
        refine k_o2 (k_o2 (k_o1 ?_))
        walk_at "go"
        refine k_methx hi (by walk_at "lz") ?_
        walk_at "go"
        exact ⟨a, m, _, n, rfl, hc0, ok, hn, ⟨k, s, rfl⟩, fun p H1 s1 hp => kk p H1 s1 (by rw [e]; exact hp)⟩
      | under k s =>
        obtain ⟨dx, q, hi, hq⟩ := hc
        refine k_o2 (k_o2 (k_o2 ?_))
        walk_at "go"
        refine k_methx hi (by walk_at "lz") ?_
        walk_at "go"
        exact ⟨a, m, _, n, rfl, hc0, ok, hn, ⟨k, s, rfl⟩, fun p H1 s1 hp => kk p H1 s1 (by rw [e]; exact hp)⟩
end
end Lw
namespace Lw
open PySem PySem.Spec PyProof.Rows L2 Gx LamX NdefX
section
variable {P : Program} {w : World} {K : PySem.W.Frag} {mg : Str → Option Value} {base : Heap} {f : Addr} {fd : FuncData}
theorem ok_Claim_value_of (F : FnP K "value_of" "Claim.value_of" s_Claim_value_of f fd) (T : Txt K mg) : FnOk P w K mg base (L2.CX P w) 1 f fd ["self", "mark"] (sp_Claim_value_of K) := by
  refine F.ok sc_Claim_value_of (fun vs H Q E h => ?_) (fun cdv A outer s H vs Q E hr h => ?_)
  · obtain ⟨a, m, c, n, rfl, _⟩ := h; rfl
  · refine ⟨_, (pss_one (ps_ret (C8.pe_gc (by rfl) T.c_HALF))), ?_⟩
    obtain ⟨a, m, c, n, rfl, hc, ok, hn, rfl, kk⟩ := h
    walk_at "go"
    refine kk _ H (Same.refl H) ?_
    rw [show Cm.valueOf .claim m = 1/2 from rfl, Cm.fqh]
    exact T.t_HALF H
end
end Lw
namespace Lw
open PySem PySem.Spec PyProof.Rows L2 Gx LamX NdefX
section
variable {P : Program} {w : World} {K : PySem.W.Frag} {mg : Str → Option Value} {base : Heap} {f : Addr} {fd : FuncData}
theorem ok_Claim_greatest (F : FnP K "greatest" "Claim.greatest" s_Claim_greatest f fd) (T : Txt K mg) : FnOk P w K mg base (L2.CX P w) 1 f fd ["self"] (sp_Claim_greatest K) := by
  refine F.ok sc_Claim_greatest (fun vs H Q E h => ?_) (fun cdv A outer s H vs Q E hr h => ?_)
  · obtain ⟨a, c, n, rfl, _⟩ := h; rfl
  · refine ⟨_, (pss_one (ps_ret (C8.pe_gc (by rfl) T.c_HALF))), ?_⟩
    obtain ⟨a, c, n, rfl, hc, ok, hn, rfl, kk⟩ := h
    walk_at "go"
    refine kk _ H (Same.refl H) ?_
    rw [show Cm.greatest .claim = 1/2 from rfl, Cm.fqh]
    exact T.t_HALF H
end
end Lw
namespace Lw
open PySem PySem.Spec PyProof.Rows L2 Gx LamX NdefX
section
variable {P : Program} {w : World} {K : PySem.W.Frag} {mg : Str → Option Value} {base : Heap} {f : Addr} {fd : FuncData}
theorem ok_Claim_holds (F : FnP K "holds" "Claim.holds" s_Claim_holds f fd) (T : Txt K mg) (c_below : Cl P w K mg base 1 "below" ["x", "y"] (sp_below K)) (c_total : Cl P w K mg base 4 "total" ["some"] (sp_total K)) (m_Under_value : MCl P w K mg base 6 "Under" "value" ["self", "mark"] (sp_Claim_value K)) (m_Over_value : MCl P w K mg base 6 "Over" "value" ["self", "mark"] (sp_Claim_value K)) (m_Beats_value : MCl P w K mg base 6 "Beats" "value" ["self", "mark"] (sp_Claim_value K)) (m_Claim_value : MCl P w K mg base 6 "Claim" "value" ["self", "mark"] (sp_Claim_value K)) (c_lowest : Cl P w K mg base 2 "lowest" ["a", "b"] (sp_lowest K)) : FnOk P w K mg base (L2.CX P w) 7 f fd ["self", "marks"] (sp_Claim_holds K) := by
  refine F.ok sc_Claim_holds (fun vs H Q E h => ?_) (fun cdv A outer s H vs Q E hr h => ?_)
  · obtain ⟨a, p, c, ms, n, rfl, _⟩ := h; rfl
  · refine ⟨_, (pss_one (ps_ret (pcall c_below hr (by first | decide | omega) (takes_of rfl rfl rfl rfl) (pa_cons (pcall c_lowest hr (by first | decide | omega) (takes_of rfl rfl rfl rfl) (pa_cons (pe_callB (callK (K := K) (r := rLenU) rfl call_lenU) (by rfl) T.n_len (by decide +kernel) (pa_cons (pv 1) pa_nil)) (pa_cons pe_int pa_nil))) (pa_cons (pcall c_total hr (by first | decide | omega) (takes_of rfl rfl rfl rfl) (pa_cons (pe_lc (own := [("mark", 2)]) (g := gName 2) (by rfl) sc_Claim_holds.nd (pi_seqU (pv 1)) (blkOk_by (own := [("mark", 2)]) (N := ["self", "marks", "mark"]) (sc := defScope s_Claim_holds) (by decide +kernel)) (fun _ _ _ _ _ => pg_name (i := 2) sc_Claim_holds.nd rfl (Or.inl rfl)) (fun _ _ _ _ _ => pts_nil) (fun _ _ _ _ _ => (pe_or2 (pmethN rfl m_Claim_value hr (by first | decide | omega) (pv 0) (pa_cons (pv 2) pa_nil)) (pe_or2 (pmethN rfl m_Beats_value hr (by first | decide | omega) (pv 0) (pa_cons (pv 2) pa_nil)) (pe_or2 (pmethN rfl m_Over_value hr (by first | decide | omega) (pv 0) (pa_cons (pv 2) pa_nil)) (pmethN rfl m_Under_value hr (by first | decide | omega) (pv 0) (pa_cons (pv 2) pa_nil))))))) pa_nil)) pa_nil))))), ?_⟩
    obtain ⟨a, p, c, ms, n, rfl, hc, ok, hp, hn, hsz, kk⟩ := h
    have hml : ms.length * 6 ≤ 8000 := by
      have : ms.length * 6 ≤ ms.length * (n + 6) := Nat.mul_le_mul_left _ (by omega)
      omega
    walk_at "go"
    refine k_lenT ?_ hp
    walk_at "go"
    rw [List.length_map]
    refine ⟨_, _, rfl, fun z => absurd z (by decide), fun _ => ⟨.inl ⟨?_, by decide⟩, fun p1 H1 s1 h1 => ?_⟩⟩
    · refine Nat.lt_of_lt_of_le (m := 2 ^ 13) (by omega) (Nat.pow_le_pow_right (by decide) (by decide))
    walk_at "go"
    have hp1 := seqT_same s1 hp
    refine k_lcU (.inr hp1) (fun D i ys H' => Same H1 H' ∧ Fqs K H' ys ((ms.take i).map (Cm.value c)) ∧ ys.length = i) (fun D H' nD sD hD => ⟨sD, .nil, rfl⟩) (fun D i ys H' nD h => h.1) ?_ ?_
    · rintro D i x ys H' nD hx ⟨s, fq, hy⟩ hD
      obtain ⟨m, hm, rfl⟩ : ∃ m, ms[i]? = some m ∧ x = Cm.mv m := by
        rw [List.getElem?_map] at hx
        cases e : ms[i]? with
        | none => rw [e] at hx; cases hx
        | some m => rw [e] at hx; exact ⟨m, rfl, (Option.some.inj hx).symm⟩
      have hi := (List.getElem?_eq_some_iff.mp hm).1
      have hc' := hc.same (s1.trans s)
      have fin : ∀ p7 H7, Same H' H7 → SqT K H7 p7 (Fr.fq (Cm.value c m)) → ∃ acc, H7 D = some (.lst acc) ∧ acc.length < sizeLine ∧ ∃ zs, (Same H1 (upd H7 D (.lst (acc ++ [V.ref p7]))) ∧ Fqs K (upd H7 D (.lst (acc ++ [V.ref p7]))) zs ((ms.take (i + 1)).map (Cm.value c)) ∧ zs.length = i + 1) ∧ upd H7 D (.lst (acc ++ [V.ref p7])) D = some (.lst zs) := fun p7 H7 s7 h7 => by
        have hD7 := s7 _ _ hD
        refine ⟨_, hD7, by rw [sizeLine_eq]; omega, _, ⟨But.same nD (s.trans s7) But.upd, ?_, by simp [hy]⟩, upd_same⟩
        rw [take_snoc hm, List.map_append]
        exact Fqs.snoc (seqT_but But.upd hD7 h7) (Fqs.but But.upd hD7 (fq.same s7))
      refine k_lcB rfl ?_
      walk_at "go"
      have hc0 := hc'
      cases c with
      | claim =>
        obtain ⟨dx, hi2⟩ := hc'
        refine k_o1 ?_
        walk_at "go"
        refine k_methx hi2 (by walk_at "lz") ?_
        walk_at "go"
        exact ⟨a, m, _, n, rfl, hc0, ok, hn, fin⟩
      | beats o t =>
        obtain ⟨dx, hi2⟩ := hc'
        refine k_o2 (k_o1 ?_)
        walk_at "go"
        refine k_methx hi2 (by walk_at "lz") ?_
        walk_at "go"
        exact ⟨a, m, _, n, rfl, hc0, ok, hn, fin⟩
      | over k s' =>
        obtain ⟨dx, q, hi2, hq⟩ := hc'
        refine k_o2 (k_o2 (k_o1 ?_))
        walk_at "go"
        refine k_methx hi2 (by walk_at "lz") ?_
        walk_at "go"
        exact ⟨a, m, _, n, rfl, hc0, ok, hn, fin⟩
      | under k s' =>
        obtain ⟨dx, q, hi2, hq⟩ := hc'
        refine k_o2 (k_o2 (k_o2 ?_))
        walk_at "go"
        refine k_methx hi2 (by walk_at "lz") ?_
        walk_at "go"
        exact ⟨a, m, _, n, rfl, hc0, ok, hn, fin⟩
    · rintro D ys H2 nD ⟨s2, fq, hy⟩ hD
      rw [List.length_map, List.take_of_length_le (Nat.le_refl _)] at fq
      rw [List.length_map] at hy
      have sz := Cm.sizes c ok ms
      refine ⟨D, ys, _, _, rfl, .inl (SqL.of hD), fq, sz, by rw [Cm.szs_rep]; omega, fun r H3 s3 hr sz2 => ?_⟩
      walk_at "go"
      refine ⟨p1, r, _, _, 14, _, rfl, seqT_same s3 (seqT_same s2 h1), hr, Fr.sz_divInt (by decide) (by omega) (by decide), sz2, by rw [Cm.szs_rep]; omega, ?_⟩
      walk_at "go"
      have := kk H3 (s1.trans (s2.trans s3))
      rw [show Rat.divInt (ms.length : Int) 2 = (ms.length : Rat) / 2 from Cm.half_of ms.length]
      exact this
end
end Lw
namespace Lw
open PySem PySem.Spec PyProof.Rows L2 Gx LamX NdefX
section
variable {P : Program} {w : World} {K : PySem.W.Frag} {mg : Str → Option Value} {base : Heap} {f : Addr} {fd : FuncData}
theorem ok_Beats___init__ (F : FnP K "__init__" "Beats.__init__" s_Beats___init__ f fd) (T : Txt K mg) : FnOk P w K mg base (L2.CX P w) 1 f fd ["self", "one", "other"] (sp_Beats___init__ K) := by
  refine F.ok sc_Beats___init__ (fun vs H Q E h => ?_) (fun cdv A outer s H vs Q E hr h => ?_)
  · obtain ⟨a, dx, u0, u1, rfl, _⟩ := h; rfl
  · refine ⟨_, (pss_cons (ps_fld (pv 0) (pv 1) rfl) (pss_one (ps_fld (pv 0) (pv 2) rfl))), ?_⟩
    obtain ⟨a, dx, u0, u1, rfl, h0, kk⟩ := h
    walk_at "go"
    refine k_sfldx h0 T.cl_Beats T.f_Beats_one (fun H1 b1 h1 => ?_) (by walk_at "pl")
    walk_at "go"
    refine k_sfldx h1 T.cl_Beats T.f_Beats_other (fun H2 b2 h2 => ?_) (by walk_at "pl")
    walk_at "go"
    exact kk H2 (b1.trans b2) (by rw [h2]; walk_at "pf")
end
end Lw
namespace Lw
open PySem PySem.Spec PyProof.Rows L2 Gx LamX NdefX
section
variable {P : Program} {w : World} {K : PySem.W.Frag} {mg : Str → Option Value} {base : Heap} {f : Addr} {fd : FuncData}
theorem ok_Beats_value_of (F : FnP K "value_of" "Beats.value_of" s_Beats_value_of f fd) (T : Txt K mg) : FnOk P w K mg base (L2.CX P w) 1 f fd ["self", "mark"] (sp_Beats_value_of K) := by
  refine F.ok sc_Beats_value_of (fun vs H Q E h => ?_) (fun cdv A outer s H vs Q E hr h => ?_)
  · obtain ⟨a, m, c, n, rfl, _⟩ := h; rfl
  · refine ⟨_, (pss_cons (ps_if (pt_cmpR (op_eqK (K := K) rfl hr) (pv 1) (pe_fldK (K := K) rfl (pv 0) rfl) (nomark _)) (pss_one (ps_ret (C8.pe_gc (by rfl) T.c_ONE_claims))) pss_nil) (pss_cons (ps_if (pt_cmpR (op_eqK (K := K) rfl hr) (pv 1) (pe_fldK (K := K) rfl (pv 0) rfl) (nomark _)) (pss_one (ps_ret (C8.pe_gc (by rfl) T.c_NOUGHT_claims))) pss_nil) (pss_one (ps_ret (C8.pe_gc (by rfl) T.c_HALF))))), ?_⟩
    obtain ⟨a, m, c, n, rfl, hc, ok, hn, ⟨o, t, rfl⟩, kk⟩ := h
    obtain ⟨dx, hi⟩ := hc
    have kk : ∀ p H', Same H H' → SqT K H' p (Fr.fq (if m = some o then 1 else if m = some t then 0 else 1/2)) → Q (.ref p) H' := kk
    walk_at "go"
    refine k_fldx hi T.cl_Beats T.f_Beats_one (by walk_at "lk") ?_
    walk_at "go"
    refine Cm.k_eqM ?_
    walk_at "go"
    refine k_if (fun c1 => ?_) (fun c1 => ?_)
    · walk_at "go"
      refine kk _ H (Same.refl H) ?_
      rw [if_pos c1, Cm.fq1]
      exact T.t_ONE_claims H
    · walk_at "go"
      refine k_fldx hi T.cl_Beats T.f_Beats_other (by walk_at "lk") ?_
      walk_at "go"
      refine Cm.k_eqM ?_
      walk_at "go"
      refine k_if (fun c2 => ?_) (fun c2 => ?_)
      · walk_at "go"
        refine kk _ H (Same.refl H) ?_
        rw [if_neg c1, if_pos c2, Cm.fq0]
        exact T.t_NOUGHT_claims H
      · walk_at "go"
        refine kk _ H (Same.refl H) ?_
        rw [if_neg c1, if_neg c2, Cm.fqh]
        exact T.t_HALF H
end
end Lw
namespace Lw
open PySem PySem.Spec PyProof.Rows L2 Gx LamX NdefX
section
variable {P : Program} {w : World} {K : PySem.W.Frag} {mg : Str → Option Value} {base : Heap} {f : Addr} {fd : FuncData}
theorem ok_Beats_greatest (F : FnP K "greatest" "Beats.greatest" s_Beats_greatest f fd) (T : Txt K mg) : FnOk P w K mg base (L2.CX P w) 1 f fd ["self"] (sp_Beats_greatest K) := by
  refine F.ok sc_Beats_greatest (fun vs H Q E h => ?_) (fun cdv A outer s H vs Q E hr h => ?_)
  · obtain ⟨a, c, n, rfl, _⟩ := h; rfl
  · refine ⟨_, (pss_one (ps_ret (C8.pe_gc (by rfl) T.c_ONE_claims))), ?_⟩
    obtain ⟨a, c, n, rfl, hc, ok, hn, ⟨o, t, rfl⟩, kk⟩ := h
    walk_at "go"
    refine kk _ H (Same.refl H) ?_
    rw [show Cm.greatest (.beats o t) = 1 from rfl, Cm.fq1]
    exact T.t_ONE_claims H
end
end Lw
namespace Lw
open PySem PySem.Spec PyProof.Rows L2 Gx LamX NdefX
section
variable {P : Program} {w : World} {K : PySem.W.Frag} {mg : Str → Option Value} {base : Heap} {f : Addr} {fd : FuncData}
theorem ok_Over___init__ (F : FnP K "__init__" "Over.__init__" s_Over___init__ f fd) (T : Txt K mg) : FnOk P w K mg base (L2.CX P w) 1 f fd ["self", "name", "share"] (sp_Over___init__ K) := by
  refine F.ok sc_Over___init__ (fun vs H Q E h => ?_) (fun cdv A outer s H vs Q E hr h => ?_)
  · obtain ⟨a, dx, u0, u1, rfl, _⟩ := h; rfl
  · refine ⟨_, (pss_cons (ps_fld (pv 0) (pv 1) rfl) (pss_one (ps_fld (pv 0) (pv 2) rfl))), ?_⟩
    obtain ⟨a, dx, u0, u1, rfl, h0, kk⟩ := h
    walk_at "go"
    refine k_sfldx h0 T.cl_Over T.f_Over_name (fun H1 b1 h1 => ?_) (by walk_at "pl")
    walk_at "go"
    refine k_sfldx h1 T.cl_Over T.f_Over_share (fun H2 b2 h2 => ?_) (by walk_at "pl")
    walk_at "go"
    exact kk H2 (b1.trans b2) (by rw [h2]; walk_at "pf")
end
end Lw
namespace Lw
open PySem PySem.Spec PyProof.Rows L2 Gx LamX NdefX
section
variable {P : Program} {w : World} {K : PySem.W.Frag} {mg : Str → Option Value} {base : Heap} {f : Addr} {fd : FuncData}
theorem ok_Over_value_of (F : FnP K "value_of" "Over.value_of" s_Over_value_of f fd) (T : Txt K mg) (m_Over_greatest : MCl P w K mg base 4 "Over" "greatest" ["self"] (sp_Over_greatest K)) : FnOk P w K mg base (L2.CX P w) 5 f fd ["self", "mark"] (sp_Over_value_of K) := by
  refine F.ok sc_Over_value_of (fun vs H Q E h => ?_) (fun cdv A outer s H vs Q E hr h => ?_)
  · obtain ⟨a, m, c, n, rfl, _⟩ := h; rfl
  · refine ⟨_, (pss_cons (ps_if (PW.pt (pw_or (pt_cmpR op_isNU (pv 1) pe_non (nomark _)) (pw_or1 (pt_cmpR (op_eqK (K := K) rfl hr) (pv 1) pe_str (nomark _))))) (pss_one (ps_ret (C8.pe_gc (by rfl) T.c_HALF))) pss_nil) (pss_cons (ps_if (pt_cmpR (op_eqK (K := K) rfl hr) (pv 1) (pe_fldK (K := K) rfl (pv 0) rfl) (nomark _)) (pss_one (ps_ret (pmeth0 rfl m_Over_greatest hr (by first | decide | omega) (takes_of rfl rfl rfl rfl) (pv 0)))) pss_nil) (pss_one (ps_ret (C8.pe_gc (by rfl) T.c_NOUGHT_claims))))), ?_⟩
    obtain ⟨a, m, c, n, rfl, hc, ok, hn, ⟨k, s, rfl⟩, kk⟩ := h
    have hc0 := hc
    obtain ⟨dx, q, hi, hq⟩ := hc
    have kk : ∀ p H', Same H H' → SqT K H' p (Fr.fq (if m = none ∨ m = some (Str.ofString "") then 1/2 else if m = some k then Cm.greatest (.over k s) else 0)) → Q (.ref p) H' := kk
    have half : m = none ∨ m = some (Str.ofString "") → Q (.ref (He.ga K "HALF")) H := fun c1 => by
      refine kk _ H (Same.refl H) ?_
      rw [if_pos c1, Cm.fqh]
      exact T.t_HALF H
    walk_at "go"
    rw [Cm.dec_non]
    refine k_if (fun c1 => ?_) (fun c1 => ?_)
    · walk_at "go"
      exact half (.inl c1)
    walk_at "go"
    refine Cm.k_eqM ?_
    walk_at "go"
    refine k_if (fun c2 => ?_) (fun c2 => ?_)
    · walk_at "go"
      exact half (.inr c2)
    walk_at "go"
    refine k_fldx hi T.cl_Over T.f_Over_name (by walk_at "lk") ?_
    walk_at "go"
    refine Cm.k_eqM ?_
    walk_at "go"
    have nn : ¬ (m = none ∨ m = some (Str.ofString "")) := fun z => z.elim c1 c2
    refine k_if (fun c3 => ?_) (fun c3 => ?_)
    · walk_at "go"
      refine k_methx hi (by walk_at "lz") ?_
      walk_at "go"
      refine ⟨a, .over k s, n, rfl, hc0, ok, hn, ⟨k, s, rfl⟩, fun p H1 s1 hp => ?_⟩
      exact kk p H1 s1 (by rw [if_neg nn, if_pos c3]; exact hp)
    · walk_at "go"
      refine kk _ H (Same.refl H) ?_
      rw [if_neg nn, if_neg c3, Cm.fq0]
      exact T.t_NOUGHT_claims H
end
end Lw
namespace Lw
open PySem PySem.Spec PyProof.Rows L2 Gx LamX NdefX
section
variable {P : Program} {w : World} {K : PySem.W.Frag} {mg : Str → Option Value} {base : Heap} {f : Addr} {fd : FuncData}
theorem ok_Over_greatest (F : FnP K "greatest" "Over.greatest" s_Over_greatest f fd) (T : Txt K mg) (c_over : Cl P w K mg base 3 "over" ["x", "y"] (sp_over K)) : FnOk P w K mg base (L2.CX P w) 4 f fd ["self"] (sp_Over_greatest K) := by
  refine F.ok sc_Over_greatest (fun vs H Q E h => ?_) (fun cdv A outer s H vs Q E hr h => ?_)
  · obtain ⟨a, c, n, rfl, _⟩ := h; rfl
  · refine ⟨_, (pss_one (ps_ret (pcall c_over hr (by first | decide | omega) (takes_of rfl rfl rfl rfl) (pa_cons (C8.pe_gc (by rfl) T.c_HALF) (pa_cons (pe_fldK (K := K) rfl (pv 0) rfl) pa_nil))))), ?_⟩
    obtain ⟨a, c, n, rfl, hc, ok, hn, ⟨k, s, rfl⟩, kk⟩ := h
    obtain ⟨dx, q, hi, hq⟩ := hc
    walk_at "go"
    refine k_fldx hi T.cl_Over T.f_Over_share (by walk_at "lk") ?_
    walk_at "go"
    refine ⟨_, q, 1/2, s, 2, n, rfl, by rw [Cm.fqh]; exact T.t_HALF H, hq, Cm.szh (n := 0), ok.2.2, by omega, fun e => absurd e (Cm.ne0 ok.1), fun _ r H1 s1 hr _ => ?_⟩
    walk_at "go"
    exact kk r H1 s1 hr
end
end Lw
namespace Lw
open PySem PySem.Spec PyProof.Rows L2 Gx LamX NdefX
section
variable {P : Program} {w : World} {K : PySem.W.Frag} {mg : Str → Option Value} {base : Heap} {f : Addr} {fd : FuncData}
theorem ok_Under___init__ (F : FnP K "__init__" "Under.__init__" s_Under___init__ f fd) (T : Txt K mg) : FnOk P w K mg base (L2.CX P w) 1 f fd ["self", "name", "share"] (sp_Under___init__ K) := by
  refine F.ok sc_Under___init__ (fun vs H Q E h => ?_) (fun cdv A outer s H vs Q E hr h => ?_)
  · obtain ⟨a, dx, u0, u1, rfl, _⟩ := h; rfl
  · refine ⟨_, (pss_cons (ps_fld (pv 0) (pv 1) rfl) (pss_one (ps_fld (pv 0) (pv 2) rfl))), ?_⟩
    obtain ⟨a, dx, u0, u1, rfl, h0, kk⟩ := h
    walk_at "go"
    refine k_sfldx h0 T.cl_Under T.f_Under_name (fun H1 b1 h1 => ?_) (by walk_at "pl")
    walk_at "go"
    refine k_sfldx h1 T.cl_Under T.f_Under_share (fun H2 b2 h2 => ?_) (by walk_at "pl")
    walk_at "go"
    exact kk H2 (b1.trans b2) (by rw [h2]; walk_at "pf")
end
end Lw
namespace Lw
open PySem PySem.Spec PyProof.Rows L2 Gx LamX NdefX
section
variable {P : Program} {w : World} {K : PySem.W.Frag} {mg : Str → Option Value} {base : Heap} {f : Addr} {fd : FuncData}
theorem ok_Under_value_of (F : FnP K "value_of" "Under.value_of" s_Under_value_of f fd) (T : Txt K mg) (m_Under_greatest : MCl P w K mg base 4 "Under" "greatest" ["self"] (sp_Under_greatest K)) : FnOk P w K mg base (L2.CX P w) 5 f fd ["self", "mark"] (sp_Under_value_of K) := by
  refine F.ok sc_Under_value_of (fun vs H Q E h => ?_) (fun cdv A outer s H vs Q E hr h => ?_)
  · obtain ⟨a, m, c, n, rfl, _⟩ := h; rfl
  · refine ⟨_, (pss_cons (ps_if (PW.pt (pw_or (pt_cmpR op_isNU (pv 1) pe_non (nomark _)) (pw_or1 (pt_cmpR (op_eqK (K := K) rfl hr) (pv 1) pe_str (nomark _))))) (pss_one (ps_ret (C8.pe_gc (by rfl) T.c_HALF))) pss_nil) (pss_cons (ps_if (pt_cmpR (op_eqK (K := K) rfl hr) (pv 1) (pe_fldK (K := K) rfl (pv 0) rfl) (nomark _)) (pss_one (ps_ret (C8.pe_gc (by rfl) T.c_NOUGHT_claims))) pss_nil) (pss_one (ps_ret (pmeth0 rfl m_Under_greatest hr (by first | decide | omega) (takes_of rfl rfl rfl rfl) (pv 0)))))), ?_⟩
    obtain ⟨a, m, c, n, rfl, hc, ok, hn, ⟨k, s, rfl⟩, kk⟩ := h
    have hc0 := hc
    obtain ⟨dx, q, hi, hq⟩ := hc
    have kk : ∀ p H', Same H H' → SqT K H' p (Fr.fq (if m = none ∨ m = some (Str.ofString "") then 1/2 else if m = some k then 0 else Cm.greatest (.under k s))) → Q (.ref p) H' := kk
    have half : m = none ∨ m = some (Str.ofString "") → Q (.ref (He.ga K "HALF")) H := fun c1 => by
      refine kk _ H (Same.refl H) ?_
      rw [if_pos c1, Cm.fqh]
      exact T.t_HALF H
    walk_at "go"
    rw [Cm.dec_non]
    refine k_if (fun c1 => ?_) (fun c1 => ?_)
    · walk_at "go"
      exact half (.inl c1)
    walk_at "go"
    refine Cm.k_eqM ?_
    walk_at "go"
    refine k_if (fun c2 => ?_) (fun c2 => ?_)
    · walk_at "go"
      exact half (.inr c2)
    walk_at "go"
    refine k_fldx hi T.cl_Under T.f_Under_name (by walk_at "lk") ?_
    walk_at "go"
    refine Cm.k_eqM ?_
    walk_at "go"
    have nn : ¬ (m = none ∨ m = some (Str.ofString "")) := fun z => z.elim c1 c2
    refine k_if (fun c3 => ?_) (fun c3 => ?_)
    · walk_at "go"
      refine kk _ H (Same.refl H) ?_
      rw [if_neg nn, if_pos c3, Cm.fq0]
      exact T.t_NOUGHT_claims H
    · walk_at "go"
      refine k_methx hi (by walk_at "lz") ?_
      walk_at "go"
      refine ⟨a, .under k s, n, rfl, hc0, ok, hn, ⟨k, s, rfl⟩, fun p H1 s1 hp => ?_⟩
      exact kk p H1 s1 (by rw [if_neg nn, if_neg c3]; exact hp)
end
end Lw
namespace Lw
open PySem PySem.Spec PyProof.Rows L2 Gx LamX NdefX
section
variable {P : Program} {w : World} {K : PySem.W.Frag} {mg : Str → Option Value} {base : Heap} {f : Addr} {fd : FuncData}
theorem ok_Under_greatest (F : FnP K "greatest" "Under.greatest" s_Under_greatest f fd) (T : Txt K mg) (c_over : Cl P w K mg base 3 "over" ["x", "y"] (sp_over K)) (c_minus : Cl P w K mg base 3 "minus" ["x", "y"] (sp_minus K)) : FnOk P w K mg base (L2.CX P w) 4 f fd ["self"] (sp_Under_greatest K) := by
  refine F.ok sc_Under_greatest (fun vs H Q E h => ?_) (fun cdv A outer s H vs Q E hr h => ?_)
  · obtain ⟨a, c, n, rfl, _⟩ := h; rfl
  · refine ⟨_, (pss_one (ps_ret (pcall c_over hr (by first | decide | omega) (takes_of rfl rfl rfl rfl) (pa_cons (C8.pe_gc (by rfl) T.c_HALF) (pa_cons (pcall c_minus hr (by first | decide | omega) (takes_of rfl rfl rfl rfl) (pa_cons (C8.pe_gc (by rfl) T.c_ONE_claims) (pa_cons (pe_fldK (K := K) rfl (pv 0) rfl) pa_nil))) pa_nil))))), ?_⟩
    obtain ⟨a, c, n, rfl, hc, ok, hn, ⟨k, s, rfl⟩, kk⟩ := h
    obtain ⟨dx, q, hi, hq⟩ := hc
    walk_at "go"
    refine k_fldx hi T.cl_Under T.f_Under_share (by walk_at "lk") ?_
    walk_at "go"
    refine ⟨_, q, 1, s, 2, n, rfl, by rw [Cm.fq1]; exact T.t_ONE_claims H, hq, Cm.sz1 (n := 0), ok.2.2, by omega, fun r H1 s1 hr sz => ?_⟩
    walk_at "go"
    refine ⟨_, r, 1/2, 1 - s, 2, 2 + n + 1, rfl, by rw [Cm.fqh]; exact T.t_HALF H1, hr, Cm.szh (n := 0), sz, by omega, fun e => absurd e (Cm.ne1 ok.2.1), fun _ r H2 s2 hr _ => ?_⟩
    walk_at "go"
    exact kk r H2 (s1.trans s2) hr
end
end Lw
namespace Lw
open PySem PySem.Spec PyProof.Rows L2 Gx LamX NdefX
section
variable {P : Program} {w : World} {K : PySem.W.Frag} {mg : Str → Option Value} {base : Heap} {f : Addr} {fd : FuncData}
theorem ok_within (F : FnP K "within" "within" s_within f fd) (T : Txt K mg) (c_below : Cl P w K mg base 1 "below" ["x", "y"] (sp_below K)) : FnOk P w K mg base (L2.CX P w) 2 f fd ["x"] (sp_within K) := by
  refine F.ok sc_within (fun vs H Q E h => ?_) (fun cdv A outer s H vs Q E hr h => ?_)
  · obtain ⟨p, x, m, rfl, _⟩ := h; rfl
  · refine ⟨_, (pss_cons (ps_if (pt_val (pcall c_below hr (by first | decide | omega) (takes_of rfl rfl rfl rfl) (pa_cons (pv 0) (pa_cons (C8.pe_gc (by rfl) T.c_NOUGHT_rules) pa_nil)))) (pss_one (ps_ret (C8.pe_gc (by rfl) T.c_NOUGHT_rules))) pss_nil) (pss_cons (ps_if (pt_val (pcall c_below hr (by first | decide | omega) (takes_of rfl rfl rfl rfl) (pa_cons (C8.pe_gc (by rfl) T.c_ONE_rules) (pa_cons (pv 0) pa_nil)))) (pss_one (ps_ret (C8.pe_gc (by rfl) T.c_ONE_rules))) pss_nil) (pss_one (ps_ret (pv 0))))), ?_⟩
    obtain ⟨p, x, m, rfl, hp, sx, hm, kk⟩ := h
    walk_at "go"
    refine ⟨p, _, x, 0, m, 2, rfl, hp, by rw [Cm.fq0]; exact T.t_NOUGHT_rules H, sx, Cm.sz0 (n := 0), by omega, ?_⟩
    walk_at "go"
    refine k_if (fun c => ?_) (fun c => ?_)
    · walk_at "go"
      refine kk _ ?_
      rw [show Ru.clip x = 0 from if_pos c, Cm.fq0]
      exact T.t_NOUGHT_rules H
    walk_at "go"
    refine ⟨_, p, 1, x, 2, m, rfl, by rw [Cm.fq1]; exact T.t_ONE_rules H, hp, Cm.sz1 (n := 0), sx, by omega, ?_⟩
    walk_at "go"
    refine k_if (fun c2 => ?_) (fun c2 => ?_)
    · walk_at "go"
      refine kk _ ?_
      rw [show Ru.clip x = 1 from (if_neg c).trans (if_pos c2), Cm.fq1]
      exact T.t_ONE_rules H
    · walk_at "go"
      refine kk p ?_
      rw [show Ru.clip x = x from (if_neg c).trans (if_neg c2)]
      exact hp
end
end Lw
namespace Lw
open PySem PySem.Spec PyProof.Rows L2 Gx LamX NdefX
section
variable {P : Program} {w : World} {K : PySem.W.Frag} {mg : Str → Option Value} {base : Heap} {f : Addr} {fd : FuncData}
theorem ok_Rule_stake (F : FnP K "stake" "Rule.stake" s_Rule_stake f fd) (T : Txt K mg) : FnOk P w K mg base (L2.CX P w) 1 f fd ["self", "past", "price", "top"] (sp_Rule_stake K) := by
  refine F.ok sc_Rule_stake (fun vs H Q E h => ?_) (fun cdv A outer s H vs Q E hr h => ?_)
  · obtain ⟨a, b, c, d, rfl, _⟩ := h; rfl
  · refine ⟨_, (pss_one (ps_ret (C8.pe_gc (by rfl) T.c_NOUGHT_rules))), ?_⟩
    obtain ⟨a, b, c, d, rfl, kk⟩ := h
    walk_at "go"
    refine kk _ ?_
    rw [Cm.fq0]
    exact T.t_NOUGHT_rules H
end
end Lw
namespace Lw
open PySem PySem.Spec PyProof.Rows L2 Gx LamX NdefX
section
variable {P : Program} {w : World} {K : PySem.W.Frag} {mg : Str → Option Value} {base : Heap} {f : Addr} {fd : FuncData}
theorem ok_Fixed___init__ (F : FnP K "__init__" "Fixed.__init__" s_Fixed___init__ f fd) (T : Txt K mg) : FnOk P w K mg base (L2.CX P w) 1 f fd ["self", "part"] (sp_Fixed___init__ K) := by
  refine F.ok sc_Fixed___init__ (fun vs H Q E h => ?_) (fun cdv A outer s H vs Q E hr h => ?_)
  · obtain ⟨a, dx, u, rfl, _⟩ := h; rfl
  · refine ⟨_, (pss_one (ps_fld (pv 0) (pv 1) rfl)), ?_⟩
    obtain ⟨a, dx, u, rfl, h0, kk⟩ := h
    walk_at "go"
    refine k_sfldx h0 T.cl_Fixed T.f_Fixed_part (fun H1 b1 h1 => ?_) (by walk_at "pl")
    walk_at "go"
    exact kk H1 b1 (by rw [h1]; walk_at "pf")
end
end Lw
namespace Lw
open PySem PySem.Spec PyProof.Rows L2 Gx LamX NdefX
section
variable {P : Program} {w : World} {K : PySem.W.Frag} {mg : Str → Option Value} {base : Heap} {f : Addr} {fd : FuncData}
theorem ok_Fixed_stake (F : FnP K "stake" "Fixed.stake" s_Fixed_stake f fd) (T : Txt K mg) : FnOk P w K mg base (L2.CX P w) 1 f fd ["self", "past", "price", "top"] (sp_Fixed_stake K) := by
  refine F.ok sc_Fixed_stake (fun vs H Q E h => ?_) (fun cdv A outer s H vs Q E hr h => ?_)
  · obtain ⟨a, dx, u, b, c, d, rfl, _⟩ := h; rfl
  · refine ⟨_, (pss_one (ps_ret (pe_fldK (K := K) rfl (pv 0) rfl))), ?_⟩
    obtain ⟨a, dx, u, b, c, d, rfl, h0, kk⟩ := h
    walk_at "go"
    refine k_fldx h0 T.cl_Fixed T.f_Fixed_part (by walk_at "lk") ?_
    exact kk
end
end Lw
namespace Lw
open PySem PySem.Spec PyProof.Rows L2 Gx LamX NdefX
section
variable {P : Program} {w : World} {K : PySem.W.Frag} {mg : Str → Option Value} {base : Heap} {f : Addr} {fd : FuncData}
theorem ok_Learning___init__ (F : FnP K "__init__" "Learning.__init__" s_Learning___init__ f fd) (T : Txt K mg) : FnOk P w K mg base (L2.CX P w) 1 f fd ["self", "guess", "weight"] (sp_Learning___init__ K) := by
  refine F.ok sc_Learning___init__ (fun vs H Q E h => ?_) (fun cdv A outer s H vs Q E hr h => ?_)
  · obtain ⟨a, dx, u0, u1, rfl, _⟩ := h; rfl
  · refine ⟨_, (pss_cons (ps_fld (pv 0) (pv 1) rfl) (pss_one (ps_fld (pv 0) (pv 2) rfl))), ?_⟩
    obtain ⟨a, dx, u0, u1, rfl, h0, kk⟩ := h
    walk_at "go"
    refine k_sfldx h0 T.cl_Learning T.f_Learning_guess (fun H1 b1 h1 => ?_) (by walk_at "pl")
    walk_at "go"
    refine k_sfldx h1 T.cl_Learning T.f_Learning_weight (fun H2 b2 h2 => ?_) (by walk_at "pl")
    walk_at "go"
    exact kk H2 (b1.trans b2) (by rw [h2]; walk_at "pf")
end
end Lw
namespace Lw
open PySem PySem.Spec PyProof.Rows L2 Gx LamX NdefX
section
variable {P : Program} {w : World} {K : PySem.W.Frag} {mg : Str → Option Value} {base : Heap} {f : Addr} {fd : FuncData}
theorem ok_Learning_stake (F : FnP K "stake" "Learning.stake" s_Learning_stake f fd) (T : Txt K mg) (c_within : Cl P w K mg base 2 "within" ["x"] (sp_within K)) (c_over : Cl P w K mg base 3 "over" ["x", "y"] (sp_over K)) (c_minus : Cl P w K mg base 3 "minus" ["x", "y"] (sp_minus K)) (c_plus : Cl P w K mg base 3 "plus" ["x", "y"] (sp_plus K)) (c_total : Cl P w K mg base 4 "total" ["some"] (sp_total K)) (c_times : Cl P w K mg base 3 "times" ["x", "y"] (sp_times K)) (c_below : Cl P w K mg base 1 "below" ["x", "y"] (sp_below K)) : FnOk P w K mg base (L2.CX P w) 5 f fd ["self", "past", "price", "top"] (sp_Learning_stake K) := by
  refine F.ok sc_Learning_stake (fun vs H Q E h => ?_) (fun cdv A outer s H vs Q E hr h => ?_)
  · obtain ⟨a, dx, ga, l, p, t, w, g, x, y, xs, qs, m, b, z, rfl, _⟩ := h; rfl
  · refine ⟨_, (pss_cons (ps_if (pt_not (pt_val (pcall c_below hr (by first | decide | omega) (takes_of rfl rfl rfl rfl) (pa_cons (pv 2) (pa_cons (pv 3) pa_nil))))) (pss_one (ps_ret (C8.pe_gc (by rfl) T.c_NOUGHT_rules))) pss_nil) (pss_cons (ps_set (i := 4) sc_Learning_stake.nd rfl (Or.inl rfl) (pcall c_plus hr (by first | decide | omega) (takes_of rfl rfl rfl rfl) (pa_cons (pcall c_times hr (by first | decide | omega) (takes_of rfl rfl rfl rfl) (pa_cons (pe_tup (pa_cons (pe_fldK (K := K) rfl (pv 0) rfl) (pa_cons pe_int pa_nil))) (pa_cons (pe_fldK (K := K) rfl (pv 0) rfl) pa_nil))) (pa_cons (pcall c_total hr (by first | decide | omega) (takes_of rfl rfl rfl rfl) (pa_cons (pv 1) pa_nil)) pa_nil)))) (pss_cons (ps_set (i := 5) sc_Learning_stake.nd rfl (Or.inl rfl) (pcall c_over hr (by first | decide | omega) (takes_of rfl rfl rfl rfl) (pa_cons (pv 4) (pa_cons (pe_tup (pa_cons (pe_op (op_addK (K := K) rfl) (pe_fldK (K := K) rfl (pv 0) rfl) (pe_callB (callK (K := K) (r := rLenU) rfl call_lenU) (by rfl) T.n_len (by decide +kernel) (pa_cons (pv 1) pa_nil))) (pa_cons pe_int pa_nil))) pa_nil)))) (pss_one (ps_ret (pcall c_within hr (by first | decide | omega) (takes_of rfl rfl rfl rfl) (pa_cons (pcall c_over hr (by first | decide | omega) (takes_of rfl rfl rfl rfl) (pa_cons (pcall c_minus hr (by first | decide | omega) (takes_of rfl rfl rfl rfl) (pa_cons (pv 5) (pa_cons (pv 2) pa_nil))) (pa_cons (pcall c_minus hr (by first | decide | omega) (takes_of rfl rfl rfl rfl) (pa_cons (pv 3) (pa_cons (pv 2) pa_nil))) pa_nil))) pa_nil))))))), ?_⟩
    obtain ⟨a, dx, ga, l, p, t, w, g, x, y, xs, qs, m, b, z, rfl, hi, hg, sg, w1, w2, hl, fq, sq, q60, b90, hp, ht, sx, sy, hm, hz, kk⟩ := h
    have hxl := fq.len
    walk_at "go"
    refine ⟨p, t, x, y, m, z, rfl, hp, ht, sx, sy, by omega, ?_⟩
    walk_at "go"
    refine k_ifn (fun c => ?_) (fun c => ?_)
    · walk_at "go"
      refine kk _ H (Same.refl H) ?_
      rw [show Ru.learn g (w : Rat) qs x y = 0 from if_neg c, Cm.fq0]
      exact T.t_NOUGHT_rules H
    walk_at "go"
    refine k_fldx hi T.cl_Learning T.f_Learning_weight (by walk_at "lk") ?_
    walk_at "go"
    refine k_tupx (fun r1 H1 n1 s1 hr1 => ?_) (by simp [sizeLine_eq])
    walk_at "go"
    refine k_fldx (s1 _ _ hi) T.cl_Learning T.f_Learning_guess (by walk_at "lk") ?_
    walk_at "go"
    refine ⟨r1, ga, (w : Rat), g, 7, 9, rfl, by rw [Ru.fqn]; exact SqT.of hr1, seqT_same s1 hg, Ru.szn (by omega) (by decide), sg, .inl (by decide), fun r2 H2 s2 hr2 sz2 => ?_⟩
    walk_at "go"
    have s02 := s1.trans s2
    have pr : Paired (fun q n => Fr.Sz n q) qs (qs.map fun _ => b + 5) := by
      clear hxl fq kk q60
      induction qs with
      | nil => exact .nil
      | cons q r ih => exact .cons ((sq q (List.mem_cons_self ..)).mono (by show b ≤ b + 5; omega)) (ih fun z hz => sq z (List.mem_cons_of_mem _ hz))
    have lb : qs.length * (b + 6) ≤ 60 * 96 := Nat.mul_le_mul q60 (by omega)
    refine ⟨l, xs, qs, _, rfl, .inr (seqT_same s02 hl), fq.same s02, pr, by rw [Cm.szs_rep]; omega, fun r3 H3 s3 hr3 sz3 => ?_⟩
    rw [Cm.szs_rep] at sz3
    refine ⟨r2, r3, _, _, _, _, rfl, seqT_same s3 hr2, hr3, sz2, sz3, by omega, fun r4 H4 s4 hr4 sz4 => ?_⟩
    walk_at "go"
    have s04 := s02.trans (s3.trans s4)
    refine k_fldx (s04 _ _ hi) T.cl_Learning T.f_Learning_weight (by walk_at "lk") ?_
    walk_at "go"
    refine k_lenT ?_ (seqT_same s04 hl)
    rw [hxl]
    walk_at "go"
    refine k_tupx (fun r5 H5 n5 s5 hr5 => ?_) (by simp [sizeLine_eq])
    have ewl : ((w + qs.length : Nat) : Rat) = (w : Rat) + (qs.length : Rat) := Rat.natCast_add ..
    have hr5' : SqT K H5 r5 (Fr.fq ((w + qs.length : Nat) : Rat)) := by rw [Ru.fqn]; exact SqT.of hr5
    refine ⟨r4, r5, _, _, _, 8, rfl, seqT_same s5 hr4, hr5', sz4, Ru.szn (by omega) (by decide), by omega, fun e => absurd e (Ru.n_ne (by omega)), fun _ r6 H6 s6 hr6 sz6 => ?_⟩
    rw [ewl] at hr6 sz6
    walk_at "go"
    have s06 := s04.trans (s5.trans s6)
    refine ⟨r6, p, _, x, _, m, rfl, hr6, seqT_same s06 hp, sz6, sx, by omega, fun r7 H7 s7 hr7 sz7 => ?_⟩
    walk_at "go"
    have s07 := s06.trans s7
    refine ⟨t, p, y, x, z, m, rfl, seqT_same s07 ht, seqT_same s07 hp, sy, sx, by omega, fun r8 H8 s8 hr8 sz8 => ?_⟩
    have ne : y - x ≠ 0 := fun e => by
      have : y = x := by grind
      rw [this] at c
      exact absurd c Rat.lt_irrefl
    refine ⟨r7, r8, _, _, _, _, rfl, seqT_same s8 hr7, hr8, sz7, sz8, by omega, fun e => absurd e ne, fun _ r9 H9 s9 hr9 sz9 => ?_⟩
    refine ⟨r9, _, _, rfl, hr9, sz9, by omega, fun r hr => ?_⟩
    refine kk r H9 (s07.trans (s8.trans s9)) ?_
    rw [show Ru.learn g (w : Rat) qs x y = _ from if_pos c]
    exact hr
end
end Lw
namespace Lw
open PySem PySem.Spec PyProof.Rows L2 Gx LamX NdefX
section
variable {P : Program} {w : World} {K : PySem.W.Frag} {mg : Str → Option Value} {base : Heap} {f : Addr} {fd : FuncData}
theorem ok_Asked___init__ (F : FnP K "__init__" "Asked.__init__" s_Asked___init__ f fd) (T : Txt K mg) : FnOk P w K mg base (L2.CX P w) 1 f fd ["self", "function"] (sp_Asked___init__ K) := by
  refine F.ok sc_Asked___init__ (fun vs H Q E h => ?_) (fun cdv A outer s H vs Q E hr h => ?_)
  · obtain ⟨a, dx, u, rfl, _⟩ := h; rfl
  · refine ⟨_, (pss_one (ps_fld (pv 0) (pv 1) rfl)), ?_⟩
    obtain ⟨a, dx, u, rfl, h0, kk⟩ := h
    walk_at "go"
    refine k_sfldx h0 T.cl_Asked T.f_Asked_function (fun H1 b1 h1 => ?_) (by walk_at "pl")
    walk_at "go"
    exact kk H1 b1 (by rw [h1]; walk_at "pf")
end
end Lw
namespace Lw
open PySem PySem.Spec PyProof.Rows L2 Gx LamX NdefX
section
variable {P : Program} {w : World} {K : PySem.W.Frag} {mg : Str → Option Value} {base : Heap} {f : Addr} {fd : FuncData}
theorem ok_Asked_stake (F : FnP K "stake" "Asked.stake" s_Asked_stake f fd) (T : Txt K mg) (c_within : Cl P w K mg base 2 "within" ["x"] (sp_within K)) (c_is_fraction : Cl P w K mg base 2 "is_fraction" ["thing"] (sp_is_fraction K)) (c_NoStake___init__ : XCl P w K mg base 1 "NoStake" ["self", "turn"] (sp_NoStake___init__ K)) (c__law_rule_of__lam : CloCl P w K mg base 1 IsF__law_rule_of__lam ["_law_past"] ["_law_parts"] (sp__law_rule_of__lam K)) : FnOk P w K mg base (L2.CX P w) 3 f fd ["self", "past", "price", "top"] (sp_Asked_stake K) := by
  refine F.ok sc_Asked_stake (fun vs H Q E h => ?_) (fun cdv A outer s H vs Q E hr h => ?_)
  · obtain ⟨a, dx, f, l, u, v, φ, xs, qs, b, z, rfl, _⟩ := h; rfl
  · refine ⟨_, (pss_cons (ps_set (i := 4) sc_Asked_stake.nd rfl (Or.inl rfl) (pfldcall (K := K) rfl c__law_rule_of__lam hr (by first | decide | omega) (pv 0) (pa_cons (pv 1) pa_nil))) (pss_cons (ps_if (PW.pt (pw_or (pt_not (pt_val (pcall c_is_fraction hr (by first | decide | omega) (takes_of rfl rfl rfl rfl) (pa_cons (pv 4) pa_nil)))) (pw_or1 (pt_cmpR (op_neK (K := K) rfl hr) (pcall c_within hr (by first | decide | omega) (takes_of rfl rfl rfl rfl) (pa_cons (pv 4) pa_nil)) (pv 4) (nomark _))))) (pss_one (ps_raise rfl (takes_of rfl rfl rfl rfl) (pmkOK (K := K) rfl c_NoStake___init__ hr (by first | decide | omega) (pa_cons (pe_callB (callK (K := K) (r := rLenU) rfl call_lenU) (by rfl) T.n_len (by decide +kernel) (pa_cons (pv 1) pa_nil)) pa_nil)))) pss_nil) (pss_one (ps_ret (pv 4))))), ?_⟩
    obtain ⟨a, dx, f, l, u, v, φ, xs, qs, b, z, rfl, h0, ht, hl, fq, sq, q60, b90, sz, hz, p0, p1, kk⟩ := h
    obtain ⟨F, hF⟩ := ht.fn
    walk_at "go"
    refine k_fldcallx h0 T.cl_Asked T.f_Asked_function (by walk_at "lk") hF ?_
    walk_at "go"
    refine ht.call hl fq sq q60 b90 hF (fun r H1 s1 hr => ?_)
    walk_at "go"
    refine ⟨_, true, rfl, IsF.yes hr, ?_⟩
    walk_at "go"
    refine ⟨r, _, z, rfl, hr, sz, by omega, fun r2 hr2 => ?_⟩
    walk_at "go"
    rw [Ru.clip_id p0 p1] at hr2
    refine k_neD (Fr.dp_fq hr2) (Fr.dp_fq hr) ?_ (Fr.shaped_fq _) (Fr.shaped_fq _)
    rw [Fr.eqv_fq, decide_eq_true rfl]
    walk_at "go"
    exact kk r H1 s1 hr
end
end Lw
namespace Lw
open PySem PySem.Spec PyProof.Rows L2 Gx LamX NdefX
section
variable {P : Program} {w : World} {K : PySem.W.Frag} {mg : Str → Option Value} {base : Heap} {f : Addr} {fd : FuncData}
theorem ok__law_digits (F : FnP K "_law_digits" "_law_digits" s__law_digits f fd) (T : Txt K mg) : FnOk P w K mg base (L2.CX P w) 1 f fd ["_law_script", "_law_k"] (sp__law_digits K) := by
  refine F.ok sc__law_digits (fun vs H Q E h => ?_) (fun cdv A outer s H vs Q E hr h => ?_)
  · obtain ⟨a, ns, k, rfl, _⟩ := h; rfl
  · refine ⟨_, (pss_cons (ps_if (pt_cmpR op_lt (pv 1) (pe_callB (callK (K := K) (r := rLenU) rfl call_lenU) (by rfl) T.n_len (by decide +kernel) (pa_cons (pv 0) pa_nil)) (nomark _)) (pss_one (ps_ret (pe_op op_modN (pe_ix (ix_K (K := K) rfl) (pv 0) (pv 1) (fun _ _ => rfl)) (pe_op op_pow pe_int pe_int)))) pss_nil) (pss_cons (ps_set (i := 2) sc__law_digits.nd rfl (Or.inl rfl) pe_int) (C8.pss_cut (ps_if (pt_cmpR (op_neK (K := K) rfl hr) (pv 0) (pe_lst pa_nil) (nomark _)) (pss_cons (ps_set (i := 2) sc__law_digits.nd rfl (Or.inl rfl) (pe_callB (call_maxU rfl) (by rfl) T.n_max (by decide +kernel) (pa_cons pe_int (pa_cons (pe_ix (ix_K (K := K) rfl) (pv 0) (pe_op op_modN (pv 1) (pe_callB (callK (K := K) (r := rLenU) rfl call_lenU) (by rfl) T.n_len (by decide +kernel) (pa_cons (pv 0) pa_nil))) (fun _ _ => rfl)) pa_nil)))) (pss_one (ps_for (passes_of rfl) rfl (pi_range1 rfl T.n_range (pa_cons (pe_op op_fdivG (pv 1) (pe_callB (callK (K := K) (r := rLenU) rfl call_lenU) (by rfl) T.n_len (by decide +kernel) (pa_cons (pv 0) pa_nil))) pa_nil)) (pg_name (i := 3) sc__law_digits.nd rfl (Or.inl rfl)) (pss_one (ps_set (i := 2) sc__law_digits.nd rfl (Or.inl rfl) (pe_op op_fdivG (pv 2) (pe_op op_pow pe_int pe_int))))))) pss_nil) (pss_one (ps_ret (pe_op op_modN (pv 2) (pe_op op_pow pe_int pe_int))))))), ?_⟩
    obtain ⟨a, ns, k, rfl, hS, hl, k0, k1, kk⟩ := h
    have hlm : (ns.map V.int).length = ns.length := List.length_map ..
    walk_at "go"
    refine k_lenL ?_ hS
    walk_at "go"
    refine k_if (fun c => ?_) (fun c => ?_)
    · walk_at "go"
      obtain ⟨z, hz⟩ := Dk.at_map (ns := ns) k0 (by omega)
      refine k_ixL hS hz ?_
      walk_at "go"
      refine kk _ _ (Same.refl H) (by omega) (by omega)
    · walk_at "go"
      refine k_cut0 ?_
      walk_at "go"
      refine k_lstx (fun p H1 np s1 hp1 => ?_) (by simp)
      have hS1 := seqL_same s1 hS
      refine k_neD (Dk.dp_ints hS1) (.lst (SqL.of hp1) .nil) ?_ (Dk.shaped_ints ns) rfl
      walk_at "go"
      rw [Dk.eqv_nil]
      refine k_ifb (fun c2 => ?_) (fun c2 => ?_)
      · have hpos : 0 < ns.length := by
          cases ns with
          | nil => simp at c2
          | cons => simp
        walk_at "go"
        refine k_lenL ?_ hS1
        walk_at "go"
        obtain ⟨z, hz⟩ := Dk.at_map (ns := ns) (i := k % (((ns.map V.int).length : Nat) : Int)) (Int.emod_nonneg _ (by omega)) (by
          have := Int.emod_lt_of_pos k (show (0 : Int) < ((ns.map V.int).length : Nat) by omega)
          omega)
        refine k_ixL hS1 hz ?_
        walk_at "go"
        refine k_lenL ?_ hS1
        walk_at "go"
        have hq0 : 0 ≤ k / (((ns.map V.int).length : Nat) : Int) := Int.ediv_nonneg k0 (by omega)
        have hq1 : k / (((ns.map V.int).length : Nat) : Int) ≤ k := Int.ediv_le_self _ k0
        refine k_rng1 (by omega) ?_
        refine k_loopR (fun _ σ H' => ∃ (c : Int) (t : Option V), σ = [some (.ref a), some (.int k), some (.int c), t] ∧ Same H1 H') ⟨_, none, rfl, Same.refl _⟩ ?_ ?_
        · rintro i σ H' hi ⟨c, t, rfl, s2⟩
          walk_at "go"
          exact ⟨_, _, rfl, s2⟩
        · rintro σ H' ⟨c, t, rfl, s2⟩
          walk_at "go"
          refine kk _ _ (s1.trans s2) (by omega) (by omega)
      · walk_at "go"
        refine kk _ _ s1 (by omega) (by omega)
end
end Lw
namespace Lw
open PySem PySem.Spec PyProof.Rows L2 Gx LamX NdefX
section
variable {P : Program} {w : World} {K : PySem.W.Frag} {mg : Str → Option Value} {base : Heap} {f : Addr} {fd : FuncData}
theorem ok__law_deck (F : FnP K "_law_deck" "_law_deck" s__law_deck f fd) (T : Txt K mg) (c__law_digits : Cl P w K mg base 1 "_law_digits" ["_law_script", "_law_k"] (sp__law_digits K)) : FnOk P w K mg base (L2.CX P w) 2 f fd ["_law_script", "_law_most"] (sp__law_deck K) := by
  refine F.ok sc__law_deck (fun vs H Q E h => ?_) (fun cdv A outer s H vs Q E hr h => ?_)
  · obtain ⟨a, ns, m, rfl, _⟩ := h; rfl
  · refine ⟨_, (pss_cons (ps_set (i := 2) sc__law_deck.nd rfl (Or.inl rfl) (pe_lst pa_nil)) (pss_cons (ps_set (i := 3) sc__law_deck.nd rfl (Or.inl rfl) pe_int) (pss_cons (ps_for (passes_of rfl) rfl (pi_range1 rfl T.n_range (pa_cons (pv 1) pa_nil)) (pg_name (i := 4) sc__law_deck.nd rfl (Or.inl rfl)) (pss_cons (ps_set (i := 5) sc__law_deck.nd rfl (Or.inl rfl) (pcall c__law_digits hr (by first | decide | omega) (takes_of rfl rfl rfl rfl) (pa_cons (pv 0) (pa_cons (pv 4) pa_nil)))) (C8.pss_cut (ps_if (PW.pt (pw_and (pt_cmpR op_ge (pv 4) (pe_callB (callK (K := K) (r := rLenU) rfl call_lenU) (by rfl) T.n_len (by decide +kernel) (pa_cons (pv 0) pa_nil)) (nomark _)) (pw_and1 (pt_cmpR (op_eqK (K := K) rfl hr) (pv 5) pe_int (nomark _))))) (pss_one (ps_set (i := 5) sc__law_deck.nd rfl (Or.inl rfl) (pe_op op_modN (pe_op (op_mulK (K := K) rfl) (pe_op op_modN (pe_op (op_mulK (K := K) rfl) (pv 3) pe_int) pe_int) pe_int) pe_int))) pss_nil) (pss_cons (ps_set (i := 3) sc__law_deck.nd rfl (Or.inl rfl) (pe_op op_modN (pe_op (op_addK (K := K) rfl) (pe_op (op_addK (K := K) rfl) (pe_op (op_mulK (K := K) rfl) (pv 3) pe_int) (pv 5)) (pv 4)) pe_int)) (pss_one (ps_expr (pe_bmK (K := K) rfl PySem.F.plainAttrs_list PySem.F.slot_list_append PySem.F.type_list_append mt_append (pv 2) (pa_cons (pv 5) pa_nil)))))))) (pss_one (ps_ret (pe_revL (pv 2))))))), ?_⟩
    obtain ⟨a, ns, m, rfl, hS, hl, hm, kk⟩ := h
    have hlm : (ns.map V.int).length = ns.length := List.length_map ..
    walk_at "go"
    refine k_lstx (fun l H1 nl s1 hl1 => ?_) (by simp)
    walk_at "go"
    refine k_rng1 (by omega) ?_
    have hmt : ((m : Int)).toNat = m := by omega
    rw [hmt]
    refine k_loopR (fun i σ H' => ∃ (c : Int) (t1 t2 : Option V) (ds : List Int), σ = [some (.ref a), some (.int (m : Int)), some (.ref l), some (.int c), t1, t2] ∧ Same H H' ∧ H' l = some (.lst (ds.map V.int)) ∧ ds.length = i ∧ Deck ds ∧ 0 ≤ c ∧ c < 2147483647) ⟨_, none, none, [], rfl, s1, hl1, rfl, fun d hd => (nomatch hd), by omega, by omega⟩ ?_ ?_
    · rintro i σ H2 hi ⟨c, t1, t2, ds, rfl, s2, hl2, hn, hd, c0, c1⟩
      walk_at "go"
      refine ⟨a, ns, (i : Int), rfl, seqL_same s2 hS, hl, by omega, by omega, fun r H3 s3 r0 r1 => ?_⟩
      walk_at "go"
      refine k_cut (fun σ H' => ∃ r : Int, 0 ≤ r ∧ r < 10000000000000000000000000000000000000000000000000000000000000 ∧ H' = H3 ∧ σ = [some (.ref a), some (.int (m : Int)), some (.ref l), some (.int c), some (.int (i : Int)), some (.int r)]) ?_ (fun σ H' => ?_)
      rotate_left
      · rintro ⟨r, r0, r1, rfl, rfl⟩
        have hl3 := s3 _ _ hl2
        walk_at "go"
        refine k_mulB (m := 40) (n := 40) (by omega) (by decide) (by decide) ?_
        walk_at "go"
        refine ⟨k_app0 hl3, ?_⟩
        walk_at "go"
        refine k_app1 hl3 (by rw [List.length_map, sizeLine_eq]; omega) (fun H4 b4 hl4 => ?_)
        refine ⟨_, _, _, ds ++ [r], rfl, But.same nl (s2.trans s3) b4, ?_, by simp [hn], ?_, by omega, by omega⟩
        · rw [hl4]; simp
        · intro d hd'
          rcases List.mem_append.mp hd' with q | q
          · exact hd d q
          · rw [List.mem_singleton.mp q]; exact ⟨r0, r1⟩
      walk_at "go"
      refine k_lenL ?_ (seqL_same s3 (seqL_same s2 hS))
      walk_at "go"
      have hl3 := s3 _ _ hl2
      have hz : (ds.map V.int).length < sizeLine := by rw [List.length_map, sizeLine_eq]; omega
      refine k_if (fun c2 => ?_) (fun c2 => ?_)
      · walk_at "go"
        refine k_if (fun c3 => ?_) (fun c3 => ?_)
        · walk_at "go"
          refine k_mulB (m := 40) (n := 40) (by omega) (by decide) (by decide) ?_
          walk_at "go"
          refine k_mulB (m := 40) (n := 40) (by omega) (by decide) (by decide) ?_
          walk_at "go"
          exact ⟨_, by omega, by omega, rfl, rfl⟩
        · walk_at "go"
          exact ⟨_, r0, r1, rfl, rfl⟩
      · walk_at "go"
        exact ⟨_, r0, r1, rfl, rfl⟩
    · rintro σ H2 ⟨c, t1, t2, ds, rfl, s2, hl2, hn, hd, c0, c1⟩
      walk_at "go"
      refine k_rev1 (SqL.of hl2) (fun p H3 np s3 hp => ?_)
      refine kk p ds.reverse H3 (s2.trans s3) (s2.free np) ?_ (by simp [hn]) (fun d hd' => hd d (List.mem_reverse.mp hd'))
      rw [hp, List.map_reverse]
end
end Lw
namespace Lw
open PySem PySem.Spec PyProof.Rows L2 Gx LamX NdefX
section
variable {P : Program} {w : World} {K : PySem.W.Frag} {mg : Str → Option Value} {base : Heap} {f : Addr} {fd : FuncData}
theorem ok__law_common (F : FnP K "_law_common" "_law_common" s__law_common f fd) (T : Txt K mg) : FnOk P w K mg base (L2.CX P w) 1 f fd ["_law_a", "_law_b"] (sp__law_common K) := by
  refine F.ok sc__law_common (fun vs H Q E h => ?_) (fun cdv A outer s H vs Q E hr h => ?_)
  · obtain ⟨a, b, rfl, _⟩ := h; rfl
  · refine ⟨_, (pss_cons (ps_while (passes_of rfl) (pt_cmpR (op_neK (K := K) rfl hr) (pv 1) pe_int (nomark _)) (pss_one (ps_par (i := 0) (j := 1) (by rfl) sc__law_common.nd rfl rfl (by decide) rfl rfl (pa_cons (pv 1) (pa_cons (pe_op op_modN (pv 0) (pv 1)) pa_nil)) (by rfl)))) (pss_one (ps_ret (pe_callB call_absU (by rfl) T.n_abs (by decide +kernel) (pa_cons (pv 0) pa_nil))))), ?_⟩
    obtain ⟨a, b, rfl, kk⟩ := h
    walk_at "go"
    refine k_while (fun m σ H' => H' = H ∧ ∃ x y : Int, σ = [some (.int x), some (.int y)] ∧ m = y.natAbs ∧ Int.gcd x y = Int.gcd a b) b.natAbs ⟨rfl, a, b, rfl, rfl, rfl⟩ ?_
    rintro m σ H' ⟨rfl, x, y, rfl, rfl, e⟩
    walk_at "go"
    refine k_ifn (fun c => ?_) (fun c => ?_)
    · refine k_wN ?_
      walk_at "go"
      refine k_I ?_ c
      walk_at "go"
      exact ⟨_, Fr.fmod_less c, rfl, y, _, rfl, rfl, by rw [Fr.gcd_fmod]; exact e⟩
    · subst c
      walk_at "go"
      rw [Int.gcd_zero] at e
      rw [e]
      exact kk
end
end Lw
namespace Lw
open PySem PySem.Spec PyProof.Rows L2 Gx LamX NdefX
section
variable {P : Program} {w : World} {K : PySem.W.Frag} {mg : Str → Option Value} {base : Heap} {f : Addr} {fd : FuncData}
theorem ok__law_made (F : FnP K "_law_made" "_law_made" s__law_made f fd) (T : Txt K mg) (c__law_common : Cl P w K mg base 1 "_law_common" ["_law_a", "_law_b"] (sp__law_common K)) : FnOk P w K mg base (L2.CX P w) 2 f fd ["_law_a", "_law_b"] (sp__law_made K) := by
  refine F.ok sc__law_made (fun vs H Q E h => ?_) (fun cdv A outer s H vs Q E hr h => ?_)
  · obtain ⟨a, b, rfl, _⟩ := h; rfl
  · refine ⟨_, (pss_cons (ps_set (i := 2) sc__law_made.nd rfl (Or.inl rfl) (pcall c__law_common hr (by first | decide | omega) (takes_of rfl rfl rfl rfl) (pa_cons (pv 0) (pa_cons (pv 1) pa_nil)))) (C8.pss_cut (ps_if (pt_cmpR op_lt (pv 1) pe_int (nomark _)) (pss_one (ps_set (i := 2) sc__law_made.nd rfl (Or.inl rfl) (pe_op op_sub pe_int (pv 2)))) pss_nil) (pss_one (ps_ret (pe_tup (pa_cons (pe_op op_fdivG (pv 0) (pv 2)) (pa_cons (pe_op op_fdivG (pv 1) (pv 2)) pa_nil))))))), ?_⟩
    obtain ⟨a, b, rfl, c, hd, k1⟩ := h
    walk_at "go"
    refine ⟨a, b, rfl, ?_⟩
    walk_at "go"
    refine k_cut (fun σ H' => H' = H ∧ ∃ d : Int, d = (if b < 0 then 0 - (Int.gcd a b : Int) else (Int.gcd a b : Int)) ∧ σ = [some (.int a), some (.int b), some (.int d)]) ?_ ?_
    · walk_at "go"
      refine k_if (fun c2 => ?_) (fun c2 => ?_)
      · walk_at "go"
        exact ⟨rfl, _, by rw [if_pos c2], rfl⟩
      · walk_at "go"
        exact ⟨rfl, _, by rw [if_neg c2], rfl⟩
    · rintro σ H' ⟨rfl, d, ed, rfl⟩
      have hg := Int.gcd_pos_of_ne_zero_right a c
      have hn : d.natAbs = Int.gcd a b := by rw [ed]; split <;> omega
      have hz : d ≠ 0 := by omega
      obtain ⟨d1, d2⟩ := hd.div hn
      walk_at "go"
      refine k_I ?_ ⟨hz, d1⟩
      walk_at "go"
      refine k_I ?_ ⟨hz, d2⟩
      walk_at "go"
      refine k_tupx (fun p H2 np s1 hp => ?_) (by simp [sizeLine_eq])
      refine k1 p H2 s1 (SqT.of ?_)
      rw [hp, Fr.low_num c ed, Fr.low_den c ed]
end
end Lw
namespace Lw
open PySem PySem.Spec PyProof.Rows L2 Gx LamX NdefX
section
variable {P : Program} {w : World} {K : PySem.W.Frag} {mg : Str → Option Value} {base : Heap} {f : Addr} {fd : FuncData}
theorem ok__law_less (F : FnP K "_law_less" "_law_less" s__law_less f fd) (T : Txt K mg) : FnOk P w K mg base (L2.CX P w) 1 f fd ["_law_x", "_law_y"] (sp__law_less K) := by
  refine F.ok sc__law_less (fun vs H Q E h => ?_) (fun cdv A outer s H vs Q E hr h => ?_)
  · obtain ⟨p, q, x, y, m, n, rfl, _⟩ := h; rfl
  · refine ⟨_, (pss_one (ps_ret (pe_cmpR op_lt (pe_op (op_mulK (K := K) rfl) (pe_ix (ix_K (K := K) rfl) (pv 0) pe_int (fun _ _ => rfl)) (pe_ix (ix_K (K := K) rfl) (pv 1) pe_int (fun _ _ => rfl))) (pe_op (op_mulK (K := K) rfl) (pe_ix (ix_K (K := K) rfl) (pv 1) pe_int (fun _ _ => rfl)) (pe_ix (ix_K (K := K) rfl) (pv 0) pe_int (fun _ _ => rfl))) (nomark _)))), ?_⟩
    obtain ⟨p, q, x, y, m, n, rfl, hp, hq, sx, sy, hmn, kk⟩ := h
    walk_at "go"
    refine k_ixT hp (v := .int x.num) rfl ?_
    walk_at "go"
    refine k_ixT hq (v := .int (y.den : Int)) rfl ?_
    walk_at "go"
    refine k_mulB sx.1 sy.den (by omega) ?_
    walk_at "go"
    refine k_ixT hq (v := .int y.num) rfl ?_
    walk_at "go"
    refine k_ixT hp (v := .int (x.den : Int)) rfl ?_
    walk_at "go"
    refine k_mulB sy.1 sx.den (by omega) ?_
    walk_at "go"
    rw [show decide (x.num * (y.den : Int) < y.num * (x.den : Int)) = decide (x < y) from decide_eq_decide.mpr Ru.lt_parts.symm]
    exact kk
end
end Lw
namespace Lw
open PySem PySem.Spec PyProof.Rows L2 Gx LamX NdefX
section
variable {P : Program} {w : World} {K : PySem.W.Frag} {mg : Str → Option Value} {base : Heap} {f : Addr} {fd : FuncData}
theorem ok__law_sum (F : FnP K "_law_sum" "_law_sum" s__law_sum f fd) (T : Txt K mg) (c__law_made : Cl P w K mg base 2 "_law_made" ["_law_a", "_law_b"] (sp__law_made K)) : FnOk P w K mg base (L2.CX P w) 3 f fd ["_law_x", "_law_y"] (sp__law_sum K) := by
  refine F.ok sc__law_sum (fun vs H Q E h => ?_) (fun cdv A outer s H vs Q E hr h => ?_)
  · obtain ⟨p, q, a, b, c, d, m, n, rfl, _⟩ := h; rfl
  · refine ⟨_, (pss_one (ps_ret (pcall c__law_made hr (by first | decide | omega) (takes_of rfl rfl rfl rfl) (pa_cons (pe_op (op_addK (K := K) rfl) (pe_op (op_mulK (K := K) rfl) (pe_ix (ix_K (K := K) rfl) (pv 0) pe_int (fun _ _ => rfl)) (pe_ix (ix_K (K := K) rfl) (pv 1) pe_int (fun _ _ => rfl))) (pe_op (op_mulK (K := K) rfl) (pe_ix (ix_K (K := K) rfl) (pv 1) pe_int (fun _ _ => rfl)) (pe_ix (ix_K (K := K) rfl) (pv 0) pe_int (fun _ _ => rfl)))) (pa_cons (pe_op (op_mulK (K := K) rfl) (pe_ix (ix_K (K := K) rfl) (pv 0) pe_int (fun _ _ => rfl)) (pe_ix (ix_K (K := K) rfl) (pv 1) pe_int (fun _ _ => rfl))) pa_nil))))), ?_⟩
    obtain ⟨p, q, a, b, c, d, m, n, rfl, hp, hq, ha, hb, hc, hd, hmn, b0, d0, kk⟩ := h
    have e : Rat.divInt (a * d + c * b) (b * d) = Rat.divInt a b + Rat.divInt c d := (Rat.divInt_add_divInt a c (by omega) (by omega)).symm
    have bd : 0 < b * d := Int.mul_pos b0 d0
    have l1 := Fr.mul_lt ha hd
    have l2 := Fr.mul_lt hc hb
    rw [Nat.add_comm n m] at l2
    have l3 := Fr.add_lt l1 l2
    have l4 := Fr.up1 (Fr.mul_lt hb hd)
    walk_at "go"
    refine k_ixT hp (v := .int a) rfl ?_
    walk_at "go"
    refine k_ixT hq (v := .int d) rfl ?_
    walk_at "go"
    refine k_mulB ha hd (by omega) ?_
    walk_at "go"
    refine k_ixT hq (v := .int c) rfl ?_
    walk_at "go"
    refine k_ixT hp (v := .int b) rfl ?_
    walk_at "go"
    refine k_mulB hc hb (by omega) ?_
    walk_at "go"
    refine k_ixT hp (v := .int b) rfl ?_
    walk_at "go"
    refine k_ixT hq (v := .int d) rfl ?_
    walk_at "go"
    refine k_mulB hb hd (by omega) ?_
    walk_at "go"
    refine ⟨_, _, rfl, by omega, okd_den (by omega) l4 (by omega), fun r H' s1 hr => ?_⟩
    rw [e] at hr
    exact kk r H' s1 hr (by rw [← e]; exact Fr.sz_divInt (by omega) l3 l4)
end
end Lw
namespace Lw
open PySem PySem.Spec PyProof.Rows L2 Gx LamX NdefX
section
variable {P : Program} {w : World} {K : PySem.W.Frag} {mg : Str → Option Value} {base : Heap} {f : Addr} {fd : FuncData}
theorem ok__law_product (F : FnP K "_law_product" "_law_product" s__law_product f fd) (T : Txt K mg) (c__law_made : Cl P w K mg base 2 "_law_made" ["_law_a", "_law_b"] (sp__law_made K)) : FnOk P w K mg base (L2.CX P w) 3 f fd ["_law_x", "_law_y"] (sp__law_product K) := by
  refine F.ok sc__law_product (fun vs H Q E h => ?_) (fun cdv A outer s H vs Q E hr h => ?_)
  · obtain ⟨p, q, a, b, c, d, m, n, rfl, _⟩ := h; rfl
  · refine ⟨_, (pss_one (ps_ret (pcall c__law_made hr (by first | decide | omega) (takes_of rfl rfl rfl rfl) (pa_cons (pe_op (op_mulK (K := K) rfl) (pe_ix (ix_K (K := K) rfl) (pv 0) pe_int (fun _ _ => rfl)) (pe_ix (ix_K (K := K) rfl) (pv 1) pe_int (fun _ _ => rfl))) (pa_cons (pe_op (op_mulK (K := K) rfl) (pe_ix (ix_K (K := K) rfl) (pv 0) pe_int (fun _ _ => rfl)) (pe_ix (ix_K (K := K) rfl) (pv 1) pe_int (fun _ _ => rfl))) pa_nil))))), ?_⟩
    obtain ⟨p, q, a, b, c, d, m, n, rfl, hp, hq, ha, hb, hc, hd, hmn, okd, b0, d0, kk⟩ := h
    have e : Rat.divInt (a * c) (b * d) = Rat.divInt a b * Rat.divInt c d := (Rat.divInt_mul_divInt a c).symm
    have bd : 0 < b * d := Int.mul_pos b0 d0
    have l1 := Fr.mul_lt ha hc
    have l2 := Fr.mul_lt hb hd
    walk_at "go"
    refine k_ixT hp (v := .int a) rfl ?_
    walk_at "go"
    refine k_ixT hq (v := .int c) rfl ?_
    walk_at "go"
    refine k_mulB ha hc (by omega) ?_
    walk_at "go"
    refine k_ixT hp (v := .int b) rfl ?_
    walk_at "go"
    refine k_ixT hq (v := .int d) rfl ?_
    walk_at "go"
    refine k_mulB hb hd (by omega) ?_
    walk_at "go"
    refine ⟨_, _, rfl, by omega, okd, fun r H' s1 hr => ?_⟩
    rw [e] at hr
    exact kk r H' s1 hr (by rw [← e]; exact Fr.sz_divInt (by omega) l1 l2)
end
end Lw
namespace Lw
open PySem PySem.Spec PyProof.Rows L2 Gx LamX NdefX
section
variable {P : Program} {w : World} {K : PySem.W.Frag} {mg : Str → Option Value} {base : Heap} {f : Addr} {fd : FuncData}
theorem ok__law_stake (F : FnP K "_law_stake" "_law_stake" s__law_stake f fd) (T : Txt K mg) (c__law_made : Cl P w K mg base 2 "_law_made" ["_law_a", "_law_b"] (sp__law_made K)) (c__law_sum : Cl P w K mg base 3 "_law_sum" ["_law_x", "_law_y"] (sp__law_sum K)) (c__law_product : Cl P w K mg base 3 "_law_product" ["_law_x", "_law_y"] (sp__law_product K)) (c__law_less : Cl P w K mg base 1 "_law_less" ["_law_x", "_law_y"] (sp__law_less K)) : FnOk P w K mg base (L2.CX P w) 4 f fd ["_law_rule_here", "_law_past", "_law_price", "_law_top"] (sp__law_stake K) := by
  refine F.ok sc__law_stake (fun vs H Q E h => ?_) (fun cdv A outer s H vs Q E hr h => ?_)
  · obtain ⟨a, l, p, t, r, xs, qs, x, y, b, m, n, z, rfl, _⟩ := h; rfl
  · refine ⟨_, (pss_cons (ps_if (pt_cmpR (op_eqK (K := K) rfl hr) (pe_ix (ix_K (K := K) rfl) (pv 0) pe_int (fun _ _ => rfl)) pe_str (nomark _)) (pss_one (ps_ret (pe_tup (pa_cons pe_int (pa_cons pe_int pa_nil))))) pss_nil) (pss_cons (ps_if (pt_cmpR (op_eqK (K := K) rfl hr) (pe_ix (ix_K (K := K) rfl) (pv 0) pe_int (fun _ _ => rfl)) pe_str (nomark _)) (pss_one (ps_ret (pe_ix (ix_K (K := K) rfl) (pv 0) pe_int (fun _ _ => rfl)))) pss_nil) (pss_cons (ps_if (pt_cmpR (op_eqK (K := K) rfl hr) (pe_ix (ix_K (K := K) rfl) (pv 0) pe_int (fun _ _ => rfl)) pe_str (nomark _)) (pss_one (ps_ret (pe_ix (ix_K (K := K) rfl) (pe_ix (ix_K (K := K) rfl) (pv 0) pe_int (fun _ _ => rfl)) (pe_op op_modN (pe_callB (callK (K := K) (r := rLenU) rfl call_lenU) (by rfl) T.n_len (by decide +kernel) (pa_cons (pv 1) pa_nil)) (pe_callB (callK (K := K) (r := rLenU) rfl call_lenU) (by rfl) T.n_len (by decide +kernel) (pa_cons (pe_ix (ix_K (K := K) rfl) (pv 0) pe_int (fun _ _ => rfl)) pa_nil))) (fun _ _ => rfl)))) pss_nil) (pss_cons (ps_if (pt_not (pt_val (pcall c__law_less hr (by first | decide | omega) (takes_of rfl rfl rfl rfl) (pa_cons (pv 2) (pa_cons (pv 3) pa_nil))))) (pss_one (ps_ret (pe_tup (pa_cons pe_int (pa_cons pe_int pa_nil))))) pss_nil) (pss_cons (ps_set (i := 4) sc__law_stake.nd rfl (Or.inl rfl) (pcall c__law_product hr (by first | decide | omega) (takes_of rfl rfl rfl rfl) (pa_cons (pe_tup (pa_cons (pe_ix (ix_K (K := K) rfl) (pv 0) pe_int (fun _ _ => rfl)) (pa_cons pe_int pa_nil))) (pa_cons (pe_ix (ix_K (K := K) rfl) (pv 0) pe_int (fun _ _ => rfl)) pa_nil)))) (pss_cons (ps_for (passes_of rfl) rfl (pi_seqU (pv 1)) (pg_name (i := 5) sc__law_stake.nd rfl (Or.inl rfl)) (pss_one (ps_set (i := 4) sc__law_stake.nd rfl (Or.inl rfl) (pcall c__law_sum hr (by first | decide | omega) (takes_of rfl rfl rfl rfl) (pa_cons (pv 4) (pa_cons (pv 5) pa_nil)))))) (pss_cons (ps_set (i := 6) sc__law_stake.nd rfl (Or.inl rfl) (pe_tup (pa_cons (pe_op op_sub pe_int (pe_ix (ix_K (K := K) rfl) (pv 2) pe_int (fun _ _ => rfl))) (pa_cons (pe_ix (ix_K (K := K) rfl) (pv 2) pe_int (fun _ _ => rfl)) pa_nil)))) (pss_cons (ps_set (i := 7) sc__law_stake.nd rfl (Or.inl rfl) (pcall c__law_sum hr (by first | decide | omega) (takes_of rfl rfl rfl rfl) (pa_cons (pcall c__law_product hr (by first | decide | omega) (takes_of rfl rfl rfl rfl) (pa_cons (pv 4) (pa_cons (pe_tup (pa_cons pe_int (pa_cons (pe_op (op_addK (K := K) rfl) (pe_ix (ix_K (K := K) rfl) (pv 0) pe_int (fun _ _ => rfl)) (pe_callB (callK (K := K) (r := rLenU) rfl call_lenU) (by rfl) T.n_len (by decide +kernel) (pa_cons (pv 1) pa_nil))) pa_nil))) pa_nil))) (pa_cons (pv 6) pa_nil)))) (pss_cons (ps_set (i := 8) sc__law_stake.nd rfl (Or.inl rfl) (pcall c__law_sum hr (by first | decide | omega) (takes_of rfl rfl rfl rfl) (pa_cons (pv 3) (pa_cons (pv 6) pa_nil)))) (pss_cons (ps_set (i := 9) sc__law_stake.nd rfl (Or.inl rfl) (pcall c__law_made hr (by first | decide | omega) (takes_of rfl rfl rfl rfl) (pa_cons (pe_op (op_mulK (K := K) rfl) (pe_ix (ix_K (K := K) rfl) (pv 7) pe_int (fun _ _ => rfl)) (pe_ix (ix_K (K := K) rfl) (pv 8) pe_int (fun _ _ => rfl))) (pa_cons (pe_op (op_mulK (K := K) rfl) (pe_ix (ix_K (K := K) rfl) (pv 7) pe_int (fun _ _ => rfl)) (pe_ix (ix_K (K := K) rfl) (pv 8) pe_int (fun _ _ => rfl))) pa_nil)))) (pss_cons (ps_if (pt_cmpR op_lt (pe_ix (ix_K (K := K) rfl) (pv 9) pe_int (fun _ _ => rfl)) pe_int (nomark _)) (pss_one (ps_ret (pe_tup (pa_cons pe_int (pa_cons pe_int pa_nil))))) pss_nil) (pss_cons (ps_if (pt_cmpR op_gt (pe_ix (ix_K (K := K) rfl) (pv 9) pe_int (fun _ _ => rfl)) (pe_ix (ix_K (K := K) rfl) (pv 9) pe_int (fun _ _ => rfl)) (nomark _)) (pss_one (ps_ret (pe_tup (pa_cons pe_int (pa_cons pe_int pa_nil))))) pss_nil) (pss_one (ps_ret (pv 9))))))))))))))), ?_⟩
    obtain ⟨a, l, p, t, r, xs, qs, x, y, b, m, n, z, rfl, ha, ok, hl, fq, sq, q60, b90, hp, ht, sx, sy, hm, hn, kk⟩ := h
    obtain ⟨ys, h0, e0⟩ := ha.at0
    obtain ⟨n1, n2, n3, n4, n5, n6⟩ := rt_kinds
    have hxl := fq.len
    walk_at "go"
    refine k_ixT h0 e0 ?_
    walk_at "go"
    cases r with
    | none =>
      refine k_if (fun _ => ?_) (fun z => absurd rfl z)
      walk_at "go"
      refine k_tupx (fun f H1 nf s1 hf => ?_) (by simp [sizeLine_eq])
      refine kk f H1 s1 ?_
      rw [show Ru.stakeOf .none qs x y = 0 from rfl, Cm.fq0]
      exact SqT.of hf
    | fixed q =>
      obtain ⟨f, h1, h2⟩ := ha
      refine k_if (fun z => absurd z n1) (fun _ => ?_)
      walk_at "go"
      refine k_ixT h1 (v := .str (Str.ofString "fixed")) rfl ?_
      walk_at "go"
      refine k_if (fun _ => ?_) (fun z => absurd rfl z)
      walk_at "go"
      refine k_ixT h1 (v := .ref f) rfl ?_
      exact kk f H (Same.refl H) h2
    | told φ =>
      obtain ⟨u, o, us, ps, h1, h2, h3, ne, h5, rfl⟩ := ha
      refine k_if (fun z => absurd z n3) (fun _ => ?_)
      walk_at "go"
      refine k_ixT h1 (v := .str (Str.ofString "asked")) rfl ?_
      walk_at "go"
      refine k_if (fun z => absurd z n5) (fun _ => ?_)
      walk_at "go"
      refine k_ixT h1 (v := .str (Str.ofString "asked")) rfl ?_
      walk_at "go"
      refine k_if (fun _ => ?_) (fun z => absurd rfl z)
      walk_at "go"
      refine k_ixT h1 (v := .ref u) rfl ?_
      walk_at "go"
      refine k_lenL ?_ hl
      rw [hxl]
      walk_at "go"
      refine k_ixT h1 (v := .ref u) rfl ?_
      walk_at "go"
      refine k_lenL ?_ (SqL.frz h2)
      have hul := h3.len
      rw [hul]
      have l0 : 0 < ps.length := List.length_pos_iff.mpr ne
      walk_at "go"
      obtain ⟨j, hj, ej, eq⟩ := toldL (qs := qs) ne
      rw [ej]
      obtain ⟨pj, q, e1, hq, hpj⟩ := h3.get (i := j) (v := us[j]) (by simp)
      refine k_ixL (SqL.frz h2) (v := .ref pj) (by rw [← e1]; exact atI_nat (by simp)) ?_
      rw [eq] at hq
      cases hq
      exact kk pj H (Same.refl H) hpj
    | learn g w =>
      obtain ⟨f, h1, hg⟩ := ha
      obtain ⟨_, sg, w1, w2⟩ := ok
      refine k_if (fun z => absurd z n2) (fun _ => ?_)
      walk_at "go"
      refine k_ixT h1 (v := .str (Str.ofString "learning")) rfl ?_
      walk_at "go"
      refine k_if (fun z => absurd z n4) (fun _ => ?_)
      walk_at "go"
      refine k_ixT h1 (v := .str (Str.ofString "learning")) rfl ?_
      walk_at "go"
      refine k_if (fun z => absurd z n6) (fun _ => ?_)
      walk_at "go"
      refine ⟨p, t, x, y, m, n, rfl, hp, ht, sx, sy, by omega, ?_⟩
      walk_at "go"
      have kk : ∀ f H', Same H H' → SqT K H' f (Fr.fq (Ru.learn g (w : Rat) qs x y)) → Q (.ref f) H' := kk
      refine k_ifn (fun lt => ?_) (fun lt => ?_)
      · walk_at "go"
        refine k_tupx (fun r1 H1 n1 s1 hr1 => ?_) (by simp [sizeLine_eq])
        refine kk r1 H1 s1 ?_
        rw [show Ru.learn g (w : Rat) qs x y = 0 from if_neg lt, Cm.fq0]
        exact SqT.of hr1
      rw [show Ru.learn g (w : Rat) qs x y = _ from if_pos lt] at kk
      walk_at "go"
      refine k_ixT h1 (v := .int (w : Int)) rfl ?_
      walk_at "go"
      refine k_tupx (fun r1 H1 n1 s1 hr1 => ?_) (by simp [sizeLine_eq])
      walk_at "go"
      refine k_ixT (seqT_same s1 h1) (v := .ref f) rfl ?_
      walk_at "go"
      have wb : ((w : Int)).natAbs < 2 ^ 7 := by show ((w : Int)).natAbs < 128; omega
      refine ⟨r1, f, (w : Int), 1, _, _, 7, 9, rfl, SqT.of hr1, seqT_same s1 hg, wb, by decide, sg.1, sg.den, by decide, okd_den (n := 9) (by rw [Int.one_mul]; exact Fr.den_ne g) (by rw [Int.one_mul]; exact sg.den) (by decide), by decide, Fr.den_pos g, fun r2 H2 s2 hr2 z2 => ?_⟩
      have ew : Rat.divInt (w : Int) 1 * Rat.divInt g.num (g.den : Int) = (w : Rat) * g := by
        rw [Rat.num_divInt_den, show Rat.divInt (w : Int) 1 = (w : Rat) from Rat.num_divInt_den (w : Rat)]
      rw [ew] at hr2 z2
      have s02 := s1.trans s2
      walk_at "go"
      have fq2 := fq.same s02
      refine k_itUL (seqL_same s02 hl) ?_
      refine k_loopL (fun i σ H' => ∃ (kn : Addr) (t5 : Option V), σ = [some (.ref a), some (.ref l), some (.ref p), some (.ref t), some (.ref kn), t5, none, none, none, none] ∧ Same H2 H' ∧ SqT K H' kn (Fr.fq ((w : Rat) * g + Lw.sum (qs.take i))) ∧ Fr.Sz (16 + i * (b + 1)) ((w : Rat) * g + Lw.sum (qs.take i)))
        ⟨r2, _, rfl, Same.refl _, by rw [show Lw.sum (qs.take 0) = 0 from rfl, Rat.add_zero]; exact hr2, by rw [show Lw.sum (qs.take 0) = 0 from rfl, Rat.add_zero]; exact z2.mono (by omega)⟩ (fun i σ H' _ ⟨_, _, _, s', _⟩ => seqL_same (s02.trans s') hl) ?_ ?_
      · rintro i v σ H3 hv ⟨kn, t5, rfl, s3, hkn, zk⟩
        have hi := (List.getElem?_eq_some_iff.mp hv).1
        obtain ⟨pv, q, rfl, hq, hpv⟩ := (fq2.same s3).get hv
        have sqi := sq q (List.mem_of_getElem? hq)
        have tk := take_snoc hq
        have e1 : (i + 1) * (b + 1) = i * (b + 1) + (b + 1) := Nat.succ_mul ..
        have e2 : (i + 1) * (b + 1) ≤ 60 * 91 := Nat.mul_le_mul (by omega) (by omega)
        walk_at "go"
        refine sum_fq hkn hpv zk sqi (by omega) (fun r4 H4 s4 h4 z4 => ?_)
        have e3 : (w : Rat) * g + Lw.sum (qs.take i) + q = (w : Rat) * g + Lw.sum (qs.take (i + 1)) := by rw [tk, Lw.sum_snoc, Rat.add_assoc]
        rw [e3] at h4 z4
        exact ⟨r4, _, rfl, s3.trans s4, h4, z4.mono (by omega)⟩
      rintro σ H3 ⟨kn, t5, rfl, s3, hkn, zk⟩
      rw [hxl, List.take_length] at hkn zk
      have e2 : qs.length * (b + 1) ≤ 60 * 91 := Nat.mul_le_mul (by omega) (by omega)
      generalize hc : 16 + qs.length * (b + 1) = c at zk
      have c5 : c ≤ 5476 := by omega
      have s03 := s02.trans s3
      walk_at "go"
      refine k_ixT (seqT_same s03 hp) (v := .int _) rfl ?_
      walk_at "go"
      refine k_ixT (seqT_same s03 hp) (v := .int _) rfl ?_
      walk_at "go"
      refine k_tupx (fun r4 H4 n4' s4 hr4 => ?_) (by simp [sizeLine_eq])
      have snx : Fr.Sz m (-x) := ⟨by rw [Rat.neg_num, Int.natAbs_neg]; exact sx.1, by rw [Rat.neg_den]; exact sx.2⟩
      have hsh : SqT K H4 r4 (Fr.fq (-x)) := by rw [Ru.neg_fq]; exact SqT.of hr4
      have s04 := s03.trans s4
      walk_at "go"
      refine k_ixT (seqT_same s04 h1) (v := .int (w : Int)) rfl ?_
      walk_at "go"
      refine k_lenL ?_ (seqL_same s04 hl)
      rw [hxl]
      walk_at "go"
      refine k_tupx (fun r5 H5 n5' s5 hr5 => ?_) (by simp [sizeLine_eq])
      have nb : ((w : Int) + (qs.length : Int)).natAbs < 2 ^ 8 := by show _ < 256; omega
      have s05 := s04.trans s5
      walk_at "go"
      refine ⟨kn, r5, _, _, 1, (w : Int) + (qs.length : Int), c, 8, rfl, seqT_same (s4.trans s5) hkn, SqT.of hr5, zk.1, zk.den, by decide, nb, by omega, okd_den (Int.ne_of_gt (Int.mul_pos (Fr.den_pos _) (by omega))) (Fr.mul_lt zk.den nb) (by omega), Fr.den_pos _, by omega, fun r6 H6 s6 h6 z6 => ?_⟩
      have ewl : ((w + qs.length : Nat) : Rat) = (w : Rat) + (qs.length : Rat) := Rat.natCast_add ..
      have e6 : Rat.divInt ((w : Rat) * g + Lw.sum qs).num (((w : Rat) * g + Lw.sum qs).den : Int) * Rat.divInt 1 ((w : Int) + (qs.length : Int)) = ((w : Rat) * g + Lw.sum qs) / ((w : Rat) + (qs.length : Rat)) := by
        rw [Rat.num_divInt_den, ← ewl, Rat.div_def, Rat.divInt_eq_div]
        rw [show ((w : Int) + (qs.length : Int)) = ((w + qs.length : Nat) : Int) by omega, Rat.intCast_natCast, Rat.div_def, show ((1 : Int) : Rat) = 1 from rfl, Rat.one_mul]
      rw [e6] at h6 z6
      walk_at "go"
      refine sum_fq (y := -x) h6 (seqT_same (s5.trans s6) hsh) z6 snx (by omega) (fun r7 H7 s7 hr7 z7 => ?_)
      rw [← Rat.sub_eq_add_neg] at hr7 z7
      have s47 := s5.trans (s6.trans s7)
      have s07 := s04.trans s47
      walk_at "go"
      refine sum_fq (x := y) (y := -x) (seqT_same s07 ht) (seqT_same s47 hsh) sy snx (by omega) (fun r8 H8 s8 hr8 z8 => ?_)
      rw [← Rat.sub_eq_add_neg] at hr8 z8
      have hr7' := seqT_same s8 hr7
      have s08 := s07.trans s8
      have rp : 0 < y - x := by grind
      have rn := Cm.num_pos rp
      generalize ((w : Rat) * g + Lw.sum qs) / ((w : Rat) + (qs.length : Rat)) - x = more at hr7' z7 kk
      generalize y - x = room at hr8 z8 rp rn kk
      walk_at "go"
      refine k_ixT hr7' (v := .int _) rfl ?_
      walk_at "go"
      refine k_ixT hr8 (v := .int _) rfl ?_
      refine k_mulB z7.1 z8.den (by omega) ?_
      walk_at "go"
      refine k_ixT hr7' (v := .int _) rfl ?_
      walk_at "go"
      refine k_ixT hr8 (v := .int _) rfl ?_
      refine k_mulB z7.den z8.1 (by omega) ?_
      walk_at "go"
      have b9 : 0 < (more.den : Int) * room.num := Int.mul_pos (Fr.den_pos more) rn
      have l9 := Fr.mul_lt z7.den z8.1
      refine ⟨_, _, rfl, by omega, okd_den (by omega) l9 (by omega), fun r9 H9 s9 hr9 => ?_⟩
      rw [Fr.div_eq] at hr9
      have s09 := s08.trans s9
      walk_at "go"
      refine k_ixT hr9 (v := .int _) rfl ?_
      walk_at "go"
      refine k_if (fun c2 => ?_) (fun c2 => ?_)
      · walk_at "go"
        refine k_tupx (fun r10 H10 n10 s10 hr10 => ?_) (by simp [sizeLine_eq])
        refine kk r10 H10 (s09.trans s10) ?_
        rw [show Ru.clip (more / room) = 0 from if_pos (Gm.num_neg.mp c2), Cm.fq0]
        exact SqT.of hr10
      have mp : ¬ more / room < 0 := fun z => c2 (Gm.num_neg.mpr z)
      walk_at "go"
      refine k_ixT hr9 (v := .int _) rfl ?_
      walk_at "go"
      refine k_ixT hr9 (v := .int _) rfl ?_
      walk_at "go"
      refine k_if (fun c3 => ?_) (fun c3 => ?_)
      · walk_at "go"
        refine k_tupx (fun r10 H10 n10 s10 hr10 => ?_) (by simp [sizeLine_eq])
        refine kk r10 H10 (s09.trans s10) ?_
        rw [show Ru.clip (more / room) = 1 from (if_neg mp).trans (if_pos (Ru.one_lt.mp c3)), Cm.fq1]
        exact SqT.of hr10
      · walk_at "go"
        refine kk r9 H9 s09 ?_
        rw [show Ru.clip (more / room) = more / room from (if_neg mp).trans (if_neg (fun z => c3 (Ru.one_lt.mpr z)))]
        exact hr9
end
end Lw
namespace Lw
open PySem PySem.Spec PyProof.Rows L2 Gx LamX NdefX
section
variable {P : Program} {w : World} {K : PySem.W.Frag} {mg : Str → Option Value} {base : Heap} {f : Addr} {fd : FuncData}
theorem ok__law_turn (F : FnP K "_law_turn" "_law_turn" s__law_turn f fd) (T : Txt K mg) (c__law_sum : Cl P w K mg base 3 "_law_sum" ["_law_x", "_law_y"] (sp__law_sum K)) (c__law_product : Cl P w K mg base 3 "_law_product" ["_law_x", "_law_y"] (sp__law_product K)) (c__law_made : Cl P w K mg base 2 "_law_made" ["_law_a", "_law_b"] (sp__law_made K)) (c__law_stake : Cl P w K mg base 4 "_law_stake" ["_law_rule_here", "_law_past", "_law_price", "_law_top"] (sp__law_stake K)) : FnOk P w K mg base (L2.CX P w) 5 f fd ["_law_values", "_law_many", "_law_top", "_law_rule_here", "_law_limit_here", "_law_again"] (sp__law_turn K) := by
  refine F.ok sc__law_turn (fun vs H Q E h => ?_) (fun cdv A outer s H vs Q E hr h => ?_)
  · obtain ⟨l, t, rp, lp, xs, qs, m, D, b, top, x, R, p, rfl, _⟩ := h; rfl
  · refine ⟨_, (pss_cons (ps_set (i := 6) sc__law_turn.nd rfl (Or.inl rfl) (pe_tup (pa_cons pe_int (pa_cons pe_int pa_nil)))) (pss_cons (ps_set (i := 7) sc__law_turn.nd rfl (Or.inl rfl) (pe_tup (pa_cons pe_int (pa_cons pe_int pa_nil)))) (pss_cons (ps_for (passes_of rfl) rfl (pi_range1 rfl T.n_range (pa_cons (pe_op (op_addK (K := K) rfl) (pe_callB (callK (K := K) (r := rLenU) rfl call_lenU) (by rfl) T.n_len (by decide +kernel) (pa_cons (pv 0) pa_nil)) pe_int) pa_nil)) (pg_name (i := 8) sc__law_turn.nd rfl (Or.inl rfl)) (pss_cons (ps_if (pt_cmpR op_ge (pe_op (op_mulK (K := K) rfl) (pe_ix (ix_K (K := K) rfl) (pv 6) pe_int (fun _ _ => rfl)) (pe_ix (ix_K (K := K) rfl) (pv 4) pe_int (fun _ _ => rfl))) (pe_op (op_mulK (K := K) rfl) (pe_ix (ix_K (K := K) rfl) (pv 6) pe_int (fun _ _ => rfl)) (pe_ix (ix_K (K := K) rfl) (pv 4) pe_int (fun _ _ => rfl))) (nomark _)) (pss_one (ps_ret (pv 8))) pss_nil) (pss_cons (ps_if (PW.pt (pw_and (pt_not (pt_val (pv 5))) (pw_and1 (pt_cmpR op_gt (pe_op (op_mulK (K := K) rfl) pe_int (pe_ix (ix_K (K := K) rfl) (pv 7) pe_int (fun _ _ => rfl))) (pe_op (op_mulK (K := K) rfl) (pv 1) (pe_ix (ix_K (K := K) rfl) (pv 7) pe_int (fun _ _ => rfl))) (nomark _))))) (pss_one (ps_ret (pv 8))) pss_nil) (pss_one (ps_if (pt_cmpR op_lt (pv 8) (pe_callB (callK (K := K) (r := rLenU) rfl call_lenU) (by rfl) T.n_len (by decide +kernel) (pa_cons (pv 0) pa_nil)) (nomark _)) (pss_cons (ps_set (i := 9) sc__law_turn.nd rfl (Or.inl rfl) (pe_tup (pa_cons pe_int (pa_cons pe_int pa_nil)))) (C8.pss_cut (ps_if (pt_not (pt_val (pv 5))) (pss_one (ps_set (i := 9) sc__law_turn.nd rfl (Or.inl rfl) (pcall c__law_made hr (by first | decide | omega) (takes_of rfl rfl rfl rfl) (pa_cons (pe_op op_sub (pe_op (op_mulK (K := K) rfl) (pv 1) (pe_ix (ix_K (K := K) rfl) (pv 7) pe_int (fun _ _ => rfl))) (pe_op (op_mulK (K := K) rfl) pe_int (pe_ix (ix_K (K := K) rfl) (pv 7) pe_int (fun _ _ => rfl)))) (pa_cons (pe_op (op_mulK (K := K) rfl) (pe_op (op_mulK (K := K) rfl) pe_int (pe_ix (ix_K (K := K) rfl) (pv 7) pe_int (fun _ _ => rfl))) (pe_op op_sub (pv 1) (pv 8))) pa_nil))))) pss_nil) (pss_cons (ps_set (i := 10) sc__law_turn.nd rfl (Or.inl rfl) (pcall c__law_stake hr (by first | decide | omega) (takes_of rfl rfl rfl rfl) (pa_cons (pv 3) (pa_cons (pe_slice (sl_K (K := K) rfl) (pv 0) po_none (po_some (pv 8))) (pa_cons (pv 9) (pa_cons (pv 2) pa_nil)))))) (C8.pss_cut (ps_if (pt_cmpR op_gt (pe_ix (ix_K (K := K) rfl) (pv 9) pe_int (fun _ _ => rfl)) pe_int (nomark _)) (pss_cons (ps_set (i := 11) sc__law_turn.nd rfl (Or.inl rfl) (pcall c__law_made hr (by first | decide | omega) (takes_of rfl rfl rfl rfl) (pa_cons (pe_op (op_mulK (K := K) rfl) (pe_op (op_mulK (K := K) rfl) (pe_ix (ix_K (K := K) rfl) (pv 10) pe_int (fun _ _ => rfl)) (pe_ix (ix_K (K := K) rfl) (pe_ix (ix_K (K := K) rfl) (pv 0) (pv 8) (fun _ _ => rfl)) pe_int (fun _ _ => rfl))) (pe_ix (ix_K (K := K) rfl) (pv 9) pe_int (fun _ _ => rfl))) (pa_cons (pe_op (op_mulK (K := K) rfl) (pe_op (op_mulK (K := K) rfl) (pe_ix (ix_K (K := K) rfl) (pv 10) pe_int (fun _ _ => rfl)) (pe_ix (ix_K (K := K) rfl) (pe_ix (ix_K (K := K) rfl) (pv 0) (pv 8) (fun _ _ => rfl)) pe_int (fun _ _ => rfl))) (pe_ix (ix_K (K := K) rfl) (pv 9) pe_int (fun _ _ => rfl))) pa_nil)))) (pss_one (ps_set (i := 6) sc__law_turn.nd rfl (Or.inl rfl) (pcall c__law_product hr (by first | decide | omega) (takes_of rfl rfl rfl rfl) (pa_cons (pv 6) (pa_cons (pcall c__law_sum hr (by first | decide | omega) (takes_of rfl rfl rfl rfl) (pa_cons (pe_tup (pa_cons (pe_op op_sub (pe_ix (ix_K (K := K) rfl) (pv 10) pe_int (fun _ _ => rfl)) (pe_ix (ix_K (K := K) rfl) (pv 10) pe_int (fun _ _ => rfl))) (pa_cons (pe_ix (ix_K (K := K) rfl) (pv 10) pe_int (fun _ _ => rfl)) pa_nil))) (pa_cons (pv 11) pa_nil))) pa_nil)))))) pss_nil) (pss_one (ps_set (i := 7) sc__law_turn.nd rfl (Or.inl rfl) (pcall c__law_sum hr (by first | decide | omega) (takes_of rfl rfl rfl rfl) (pa_cons (pv 7) (pa_cons (pe_ix (ix_K (K := K) rfl) (pv 0) (pv 8) (fun _ _ => rfl)) pa_nil))))))))) pss_nil))))) (pss_one (ps_ret pe_non))))), ?_⟩
    obtain ⟨l, t, rp, lp, xs, qs, m, D, b, top, x, R, p, rfl, hl, fq, ht, hr, hx, sx, s0, vok, few, qL, kk⟩ := h
    have hxl := fq.len
    have L60 := s0.pk.L60
    have std : ∀ k, k ≤ qs.length → Gg.Std p D (Gm.plays (Gm.init m b top R) (qs.take k)) := fun k hk => by
      have tl : (qs.take k).length = k := by rw [List.length_take]; omega
      exact Gg.std_plays _ s0 (fun v hv => vok v (List.mem_of_mem_take hv)) (fun e => by have := few e; show 0 + _ ≤ m; omega) (by show 0 + _ ≤ p.L; omega)
    walk_at "go"
    refine k_tupx (fun w0 H1 nw s1 hw0 => ?_) (by simp [sizeLine_eq])
    walk_at "go"
    refine k_tupx (fun g0 H2 ng s2 hg0 => ?_) (by simp [sizeLine_eq])
    walk_at "go"
    have s02 := s1.trans s2
    refine k_lenL ?_ (seqL_same s02 hl)
    rw [hxl]
    walk_at "go"
    refine k_rng1 (by omega) ?_
    rw [show ((qs.length : Int) + 1).toNat = qs.length + 1 by omega]
    refine k_loopR (n := qs.length + 1) (fun i σ H' => ∃ (wa ga : Addr) (t8 t9 t10 t11 : Option V), σ = [some (.ref l), some (.int (m : Int)), some (.ref t), some (.ref rp), some (.ref lp), some (.bl b), some (.ref wa), some (.ref ga), t8, t9, t10, t11] ∧ Same H H' ∧ (∀ j, j < i → Gg.hit x (Gm.plays (Gm.init m b top R) (qs.take j)) = false) ∧
        (i ≤ qs.length → SqT K H' ga (Fr.fq (Lw.sum (qs.take i))) ∧ SqT K H' wa (Fr.fq (Gm.plays (Gm.init m b top R) (qs.take i)).now) ∧ Fr.Sz (p.s * i + 1) (Gm.plays (Gm.init m b top R) (qs.take i)).now))
      ⟨w0, g0, _, _, _, _, rfl, s02, fun j h => absurd h (by omega), fun _ => ⟨by rw [show Lw.sum (qs.take 0) = 0 from rfl, Cm.fq0]; exact SqT.of hg0, by show SqT K H2 w0 (Fr.fq 1); rw [Cm.fq1]; exact seqT_same s2 (SqT.of hw0), Ru.sz1 (by omega)⟩⟩ ?_ ?_
    rotate_left
    · rintro σ H3 ⟨wa, ga, t8, t9, t10, t11, rfl, s3, nh, _⟩
      walk_at "go"
      have := kk H3 s3
      rw [Gg.turn_none fun j hj => nh j (by omega)] at this
      exact this
    rintro i σ H3 hi ⟨wa, ga, t8, t9, t10, t11, rfl, s3, nh, hh⟩
    have hi : i ≤ qs.length := by omega
    obtain ⟨hga, hwa, zw⟩ := hh hi
    have st := std i hi
    have tl : (qs.take i).length = i := by rw [List.length_take]; omega
    obtain ⟨en, ea, et, eR⟩ := Gm.plays_n (Gm.init m b top R) (qs.take i)
    have gv := Gm.plays_vals (Gm.init m b top R) (qs.take i)
    generalize hgs : Gm.plays (Gm.init m b top R) (qs.take i) = gs at *
    replace en : gs.n = m := en
    replace ea : gs.ag = b := ea
    replace et : gs.top = top := et
    replace eR : gs.R = R := eR
    replace gv : gs.vals = qs.take i := gv
    have w1 := Gg.step_le (p := p) (n := i) (by omega)
    have w8 := st.pk.w8
    have all9 := st.pk.all
    have c1 := st.pk.c1
    have zg : Fr.Sz p.c (Lw.sum (qs.take i)) := by rw [← gv]; exact Gg.sum_sz st.D0 st.Dd st.ts st.vals (by rw [gv, tl]; omega)
    have nb : ((m : Nat) : Int).natAbs < 2 ^ 6 := by have h1 := st.n1; rw [en] at h1; show _ < 64; omega
    have he := hit_of (x := x) st
    have yes : Gg.hit x gs = true → ∀ H', Same H H' → Q (.int (i : Int)) H' := fun e H' s' => by
      have := kk H' s'
      rw [Gg.turn_some (k := i) hi (by rw [hgs]; exact e) nh] at this
      exact this
    walk_at "go"
    refine k_ixT hwa (v := .int _) rfl ?_
    walk_at "go"
    refine k_ixT (seqT_same s3 hx) (v := .int _) rfl ?_
    walk_at "go"
    refine k_mulB zw.1 sx.1 (by omega) ?_
    walk_at "go"
    refine k_ixT hwa (v := .int _) rfl ?_
    walk_at "go"
    refine k_ixT (seqT_same s3 hx) (v := .int _) rfl ?_
    walk_at "go"
    refine k_mulB zw.den sx.den (by omega) ?_
    walk_at "go"
    refine k_if (fun c => ?_) (fun c => ?_)
    · walk_at "go"
      refine yes ?_ H3 s3
      rw [he, ← Gm.atLim_some, decide_eq_true c]
      rfl
    have e1 : Gm.atLim x (some gs.now) = false := by rw [← Gm.atLim_some]; exact decide_eq_false c
    rw [e1, Bool.false_or] at he
    refine k_gn ?_
    dsimp only
    refine k_evT (fun b' H' => H' = H3 ∧ b' = gs.cert) (fun Q' kq => ?_) ?_
    · cases eb : b with
      | true =>
        walk_at "go"
        refine kq _ H3 ⟨rfl, ?_⟩
        have := st.cert
        rw [ea, eb] at this
        rw [this]
        rfl
      | false =>
        walk_at "go"
        refine k_ixT hga (v := .int _) rfl ?_
        walk_at "go"
        refine k_mulB (m := 2) (by decide) zg.1 (by omega) ?_
        walk_at "go"
        refine k_ixT hga (v := .int _) rfl ?_
        walk_at "go"
        refine k_mulB nb zg.den (by omega) ?_
        walk_at "go"
        refine kq _ H3 ⟨rfl, ?_⟩
        have := st.cert
        rw [ea, eb, en, gv] at this
        rw [this]
        show _ = (true && _)
        rw [Bool.true_and, decide_eq_decide, Gm.half_lt, Int.mul_comm _ 2]
    rintro b' H4 ⟨rfl, rfl⟩
    refine k_ifb (fun ec => ?_) (fun ec => ?_)
    · walk_at "go"
      refine yes ?_ H4 s3
      rw [he, ec]
    rw [ec] at he
    have nh' : ∀ j, j < i + 1 → Gg.hit x (Gm.plays (Gm.init m b top R) (qs.take j)) = false := fun j hj => by
      rcases Nat.lt_or_ge j i with h | h
      · exact nh j h
      · rw [show j = i by omega, hgs, he]
    walk_at "go"
    refine k_lenL ?_ (seqL_same s3 hl)
    rw [hxl]
    walk_at "go"
    refine k_if (fun cl => ?_) (fun cl => ?_)
    rotate_left
    · exact ⟨wa, ga, _, _, _, _, rfl, s3, nh', fun h => absurd h (by omega)⟩
    have hi' : i < qs.length := by omega
    obtain ⟨v, q, hvi, hqi, hvq⟩ : ∃ v q, xs[i]? = some (.ref v) ∧ qs[i]? = some q ∧ SqT K H4 v (Fr.fq q) := by
      obtain ⟨pv, q, h1, h2, h3⟩ := (fq.same s3).get (List.getElem?_eq_getElem (show i < xs.length by omega))
      exact ⟨pv, q, by rw [← h1]; exact List.getElem?_eq_getElem (by omega), h2, h3⟩
    have vq := vok q (List.mem_of_getElem? hqi)
    have tsn := take_snoc hqi
    have op : Gm.ended gs = false := Gg.open_of (p := p) (D := D) fun h => by
      rw [ea] at h
      have := few h
      rw [en, gv, tl]
      omega
    have zp := Gg.price_sz st op
    have zs := Gg.stake_sz st op
    have pnn := Gg.price_nn st ec op
    have m7 := st.pk.m7
    have nxt : ∀ (wb gb : Addr) (t8 t9 t10 t11 : Option V) H', Same H H' → SqT K H' gb (Fr.fq (Lw.sum (qs.take (i + 1)))) → SqT K H' wb (Fr.fq (Gm.play gs q).now) → ∃ (wa ga : Addr) (t8' t9' t10' t11' : Option V), [some (V.ref l), some (.int (m : Int)), some (.ref t), some (.ref rp), some (.ref lp), some (.bl b), some (.ref wb), some (.ref gb), t8, t9, t10, t11] = [some (.ref l), some (.int (m : Int)), some (.ref t), some (.ref rp), some (.ref lp), some (.bl b), some (.ref wa), some (.ref ga), t8', t9', t10', t11'] ∧ Same H H' ∧ (∀ j, j < i + 1 → Gg.hit x (Gm.plays (Gm.init m b top R) (qs.take j)) = false) ∧
        (i + 1 ≤ qs.length → SqT K H' ga (Fr.fq (Lw.sum (qs.take (i + 1)))) ∧ SqT K H' wa (Fr.fq (Gm.plays (Gm.init m b top R) (qs.take (i + 1))).now) ∧ Fr.Sz (p.s * (i + 1) + 1) (Gm.plays (Gm.init m b top R) (qs.take (i + 1))).now) := fun wb gb t8 t9 t10 t11 H' s' h1 h2 => by
      refine ⟨wb, gb, _, _, _, _, rfl, s', nh', fun _ => ⟨h1, ?_, ?_⟩⟩
      · rw [tsn, Gm.plays_snoc, hgs]; exact h2
      · rw [tsn, Gm.plays_snoc, hgs]
        show Fr.Sz _ (if gs.cert = true then gs.now else Gm.behind gs q)
        rw [if_neg (by rw [ec]; decide)]
        have := Gg.behind_sz st ec op (v := q) (by rw [et]; exact vq)
        rw [gv, tl] at this
        exact this
    have now_ : (Gm.play gs q).now = Gm.behind gs q := if_neg (by rw [ec]; decide)
    rw [now_] at nxt
    walk_at "go"
    refine k_tupx (fun p0 H5 np0 s5 hp0 => ?_) (by simp [sizeLine_eq])
    have s35 := s3.trans s5
    have hga5 := seqT_same s5 hga
    refine k_gn ?_
    dsimp only
    refine k_cut (fun σ H' => ∃ (pp : Addr), σ = [some (.ref l), some (.int (m : Int)), some (.ref t), some (.ref rp), some (.ref lp), some (.bl b), some (.ref wa), some (.ref ga), some (.int (i : Int)), some (.ref pp), t10, t11] ∧ Same H5 H' ∧ SqT K H' pp (Fr.fq (Gm.price gs))) ?_ ?_
    · cases eb : b with
      | true =>
        walk_at "go"
        refine ⟨p0, rfl, Same.refl _, ?_⟩
        rw [show Gm.price gs = 1/2 from if_pos (by rw [ea, eb]), Cm.fqh]
        exact SqT.of hp0
      | false =>
        have few' := few eb
        walk_at "go"
        refine k_ixT hga5 (v := .int _) rfl ?_
        refine k_mulB nb zg.den (by omega) ?_
        walk_at "go"
        refine k_ixT hga5 (v := .int _) rfl ?_
        refine k_mulB (m := 2) (by decide) zg.1 (by omega) ?_
        walk_at "go"
        refine k_ixT hga5 (v := .int _) rfl ?_
        refine k_mulB (m := 2) (by decide) zg.den (by omega) ?_
        walk_at "go"
        have z2 : (2 * ((Lw.sum (qs.take i)).den : Int)).natAbs < 2 ^ (2 + p.c) := Fr.mul_lt (by decide) zg.den
        have zk : ((m : Int) - (i : Int)).natAbs < 2 ^ 6 := by omega
        refine k_mulB z2 zk (by omega) ?_
        walk_at "go"
        have dp := Fr.den_pos (Lw.sum (qs.take i))
        have d0 : 0 < 2 * ((Lw.sum (qs.take i)).den : Int) * ((m : Int) - (i : Int)) := Int.mul_pos (by omega) (by omega)
        refine ⟨_, _, rfl, by omega, okd_den (by omega) (Fr.mul_lt z2 zk) (by omega), fun pp H6 s6 hpp => ?_⟩
        refine ⟨pp, rfl, s6, ?_⟩
        rw [price_form (by omega)] at hpp
        rw [show Gm.price gs = ((gs.n : Rat) / 2 - Lw.sum gs.vals) / ((gs.n - gs.vals.length : Nat) : Rat) from if_neg (by rw [ea, eb]; decide), en, gv, tl]
        exact hpp
    rintro σ H6 ⟨pp, rfl, s6, hpp⟩
    have s36 := s35.trans s6
    have h6 := s5.trans s6
    walk_at "go"
    refine k_slL (seqL_same s36 hl) (fun sl H7 nsl s7 hsl => ?_)
    rw [Ct.to (by omega)] at hsl
    have s37 := s36.trans s7
    have fq7 : Fqs K H7 (xs.take i) (qs.take i) := fqs_take i (fq.same s37)
    walk_at "go"
    refine ⟨rp, sl, pp, t, R, _, _, _, _, p.v, p.m, p.t, p.z, rfl, hr.same s37, by rw [← eR]; exact st.ok, SqL.of hsl, fq7, fun w hw => (vok w (List.mem_of_mem_take hw)).sz, by omega, st.pk.v90, seqT_same s7 hpp, seqT_same s37 ht, zp, by rw [← et]; exact st.ts, m7, st.pk.t2, fun ss H8 s8 hss => ?_⟩
    have est : Ru.stakeOf R (qs.take i) (Gm.price gs) top = Gm.stake gs := by unfold Gm.stake; rw [eR, gv, et]
    rw [est] at hss
    have s68 := s7.trans s8
    have s38 := s36.trans s68
    have hpp8 := seqT_same s68 hpp
    have hvq8 := seqT_same (h6.trans s68) hvq
    have hwa8 := seqT_same (h6.trans s68) hwa
    have hga8 := seqT_same (h6.trans s68) hga
    have hl8 := seqL_same s38 hl
    have a15 := st.pk.a1
    have v90 := st.pk.v90
    refine k_gn ?_
    dsimp only
    refine k_cut (fun σ H' => ∃ (wb : Addr) (t11 : Option V), σ = [some (.ref l), some (.int (m : Int)), some (.ref t), some (.ref rp), some (.ref lp), some (.bl b), some (.ref wb), some (.ref ga), some (.int (i : Int)), some (.ref pp), some (.ref ss), t11] ∧ Same H8 H' ∧ SqT K H' wb (Fr.fq (Gm.behind gs q))) ?_ ?_
    rotate_left
    · rintro σ H9 ⟨wb, t11, rfl, s9, hwb⟩
      walk_at "go"
      refine k_ixL (seqL_same s9 hl8) (i := (i : Int)) (v := .ref v) (by unfold atI; rw [ixN_nat (by omega)]; exact hvi) ?_
      walk_at "go"
      refine sum_fq (seqT_same s9 hga8) (seqT_same s9 hvq8) zg vq.sz (by omega) (fun gb H10 s10 hgb _ => ?_)
      rw [← Lw.sum_snoc, ← tsn] at hgb
      exact nxt wb gb _ _ _ _ H10 (s38.trans (s9.trans s10)) hgb (seqT_same s10 hwb)
    walk_at "go"
    refine k_ixT hpp8 (v := .int _) rfl ?_
    walk_at "go"
    refine k_if (fun cp => ?_) (fun cp => ?_)
    rotate_left
    · have : Gm.price gs = 0 := by
        have h1 := Ru.num_le0.mp (show (Gm.price gs).num ≤ 0 by omega)
        grind
      refine ⟨wa, _, rfl, Same.refl _, ?_⟩
      rw [show Gm.behind gs q = gs.now from if_pos this]
      exact hwa8
    have pne : Gm.price gs ≠ 0 := fun z => by rw [z] at cp; exact absurd cp (by decide)
    walk_at "go"
    refine k_ixT hss (v := .int _) rfl ?_
    walk_at "go"
    refine k_ixL hl8 (i := (i : Int)) (v := .ref v) (by unfold atI; rw [ixN_nat (by omega)]; exact hvi) ?_
    walk_at "go"
    refine k_ixT hvq8 (v := .int _) rfl ?_
    refine k_mulB zs.1 vq.sz.1 (by omega) ?_
    walk_at "go"
    refine k_ixT hpp8 (v := .int _) rfl ?_
    refine k_mulB (Fr.mul_lt zs.1 vq.sz.1) zp.den (by omega) ?_
    walk_at "go"
    refine k_ixT hss (v := .int _) rfl ?_
    walk_at "go"
    refine k_ixL hl8 (i := (i : Int)) (v := .ref v) (by unfold atI; rw [ixN_nat (by omega)]; exact hvi) ?_
    walk_at "go"
    refine k_ixT hvq8 (v := .int _) rfl ?_
    refine k_mulB zs.den vq.sz.den (by omega) ?_
    walk_at "go"
    refine k_ixT hpp8 (v := .int _) rfl ?_
    refine k_mulB (Fr.mul_lt zs.den vq.sz.den) zp.1 (by omega) ?_
    walk_at "go"
    have d9 : 0 < ((Gm.stake gs).den : Int) * (q.den : Int) * (Gm.price gs).num := Int.mul_pos (Int.mul_pos (Fr.den_pos _) (Fr.den_pos _)) cp
    have m9 := Fr.mul_lt (Fr.mul_lt zs.den vq.sz.den) zp.1
    refine ⟨_, _, rfl, by omega, okd_den (by omega) m9 (by omega), fun gr H9 s9 hgr => ?_⟩
    rw [grown_form] at hgr
    have zgr := (zs.mul vq.sz).div zp
    walk_at "go"
    refine k_ixT (seqT_same s9 hss) (v := .int _) rfl ?_
    walk_at "go"
    refine k_ixT (seqT_same s9 hss) (v := .int _) rfl ?_
    walk_at "go"
    refine k_ixT (seqT_same s9 hss) (v := .int _) rfl ?_
    walk_at "go"
    refine k_tupx (fun r1 H10 nr1 s10 hr1 => ?_) (by simp [sizeLine_eq])
    walk_at "go"
    have zd := Fr.sub_lt zs.den zs.1
    refine ⟨r1, gr, _, _, _, _, p.a + 1, p.a + p.v + p.m, rfl, SqT.of hr1, seqT_same s10 hgr, zd, Fr.up1 zs.den, zgr.1, zgr.den, by omega, Fr.den_pos _, Fr.den_pos _, fun r2 H11 s11 hr2 z2 => ?_⟩
    rw [rest_form, Rat.num_divInt_den] at hr2 z2
    have s9b := s9.trans (s10.trans s11)
    walk_at "go"
    have gne : p.pos = true → Gm.grow (Gm.stake gs) q (Gm.price gs) ≠ 0 := fun h => by
      have u := Ru.stake_unit st.ok gs.vals (Gm.price gs) gs.top
      refine Gg.grow_ne u.1 u.2 (vq.ps h) ?_
      grind
    have cond : (p.s * i + 1) + (p.a + 1 + (p.a + p.v + p.m) + 1) ≤ 9000 ∨ ((p.s * i + 1) + (p.a + 1 + (p.a + p.v + p.m) + 1) ≤ 1000000 ∧ 1 - Gm.stake gs + Gm.stake gs * q / Gm.price gs ≠ 0 ∧ 2 * (p.a + 1 + (p.a + p.v + p.m) + 1) ≤ 9000) := by
      rcases all9 with h | h
      · exact .inl (by omega)
      · exact .inr ⟨by omega, gne h.1, by have := h.2; omega⟩
    refine prod_big (seqT_same s9b hwa8) hr2 zw z2 cond (fun wb H12 s12 hwb _ => ?_)
    refine ⟨wb, _, rfl, s9b.trans s12, ?_⟩
    rw [show Gm.behind gs q = gs.now * Gm.grow (Gm.stake gs) q (Gm.price gs) from if_neg pne]
    exact hwb
end
end Lw
namespace Lw
open PySem PySem.Spec PyProof.Rows L2 Gx LamX NdefX
section
variable {P : Program} {w : World} {K : PySem.W.Frag} {mg : Str → Option Value} {base : Heap} {f : Addr} {fd : FuncData}
theorem ok__law_part (F : FnP K "_law_part" "_law_part" s__law_part f fd) (T : Txt K mg) (c__law_made : Cl P w K mg base 2 "_law_made" ["_law_a", "_law_b"] (sp__law_made K)) : FnOk P w K mg base (L2.CX P w) 3 f fd ["_law_deck_here"] (sp__law_part K) := by
  refine F.ok sc__law_part (fun vs H Q E h => ?_) (fun cdv A outer s H vs Q E hr h => ?_)
  · obtain ⟨l, ds, rfl, _⟩ := h; rfl
  · refine ⟨_, (pss_cons (ps_set (i := 1) sc__law_part.nd rfl (Or.inl rfl) (pe_op (op_addK (K := K) rfl) pe_int (pe_op op_modN (pe_bm0K (K := K) rfl PySem.F.plainAttrs_list PySem.F.slot_list_pop PySem.F.type_list_pop mt_pop (pv 0)) (pe_ix (ix_K (K := K) rfl) (pe_lst (pa_cons pe_int (pa_cons pe_int (pa_cons pe_int pa_nil)))) (pe_op op_modN (pe_bm0K (K := K) rfl PySem.F.plainAttrs_list PySem.F.slot_list_pop PySem.F.type_list_pop mt_pop (pv 0)) pe_int) (fun _ _ => rfl))))) (pss_one (ps_ret (pcall c__law_made hr (by first | decide | omega) (takes_of rfl rfl rfl rfl) (pa_cons (pe_op op_modN (pe_bm0K (K := K) rfl PySem.F.plainAttrs_list PySem.F.slot_list_pop PySem.F.type_list_pop mt_pop (pv 0)) (pe_op (op_addK (K := K) rfl) (pv 1) pe_int)) (pa_cons (pv 1) pa_nil)))))), ?_⟩
    obtain ⟨l, ds, rfl, hl, dk, n3, kk⟩ := h
    obtain ⟨d1, e1, ed1, dk1, e10, e11, n1⟩ := deck_last dk (by omega)
    obtain ⟨d2, e2, ed2, dk2, e20, e21, n2⟩ := deck_last dk1 (by omega)
    obtain ⟨d4, e4, ed4, dk4, e40, e41, n4⟩ := deck_last dk2 (by omega)
    rw [ed1] at hl
    walk_at "go"
    refine k_pop hl (fun H1 b1 h1 => ?_)
    rw [ed2] at h1
    walk_at "go"
    refine k_lstx (fun u H2 nu s2 hu => ?_) (by simp [sizeLine_eq])
    walk_at "go"
    have h2 := s2 _ _ h1
    have nul : u ≠ l := fun e => by subst e; rw [h1] at nu; cases nu
    refine k_pop h2 (fun H3 b3 h3 => ?_)
    have hu3 := b3 _ _ nul hu
    rw [ed4] at h3
    walk_at "go"
    obtain ⟨v, hv, hv'⟩ := one_of3 (a := V.int 4) (b := V.int 12) (c := V.int 100) e2
    obtain ⟨k, rfl, k1, k2⟩ : ∃ k : Int, v = .int k ∧ 1 ≤ k ∧ k ≤ 100 := by
      rcases hv' with rfl | rfl | rfl
      · exact ⟨4, rfl, by decide, by decide⟩
      · exact ⟨12, rfl, by decide, by decide⟩
      · exact ⟨100, rfl, by decide, by decide⟩
    refine k_ixL (SqL.of hu3) hv ?_
    walk_at "go"
    have f0 := Int.emod_nonneg e1 (show k ≠ 0 by omega)
    have f1 := Int.emod_lt_of_pos e1 (show 0 < k by omega)
    generalize hb : 1 + e1 % k = b
    refine k_pop h3 (fun H4 b4 h4 => ?_)
    walk_at "go"
    have g0 := Int.emod_nonneg e4 (show b + 1 ≠ 0 by omega)
    have g1 := Int.emod_lt_of_pos e4 (show 0 < b + 1 by omega)
    have d7 : b.natAbs < 2 ^ 7 := by show _ < 128; omega
    refine ⟨e4 % (b + 1), b, rfl, by omega, okd_den (n := 7) (by omega) d7 (by decide), fun p H5 s5 hp => ?_⟩
    have u' := Ru.unit (a := e4 % (b + 1)) (b := b) g0 (by omega) (by omega)
    exact kk p _ d4 H5 (b1.trans ((But.of s2).trans (b3.trans (b4.trans (But.of s5))))) (s5 _ _ h4) dk4 (by omega) hp u'.1 u'.2 (Fr.sz_divInt (by omega) (by show _ < 128; omega) d7)
end
end Lw
namespace Lw
open PySem PySem.Spec PyProof.Rows L2 Gx LamX NdefX
section
variable {P : Program} {w : World} {K : PySem.W.Frag} {mg : Str → Option Value} {base : Heap} {f : Addr} {fd : FuncData}
theorem ok__law_rule (F : FnP K "_law_rule" "_law_rule" s__law_rule f fd) (T : Txt K mg) (c__law_sum : Cl P w K mg base 3 "_law_sum" ["_law_x", "_law_y"] (sp__law_sum K)) (c__law_part : Cl P w K mg base 3 "_law_part" ["_law_deck_here"] (sp__law_part K)) : FnOk P w K mg base (L2.CX P w) 4 f fd ["_law_deck_here"] (sp__law_rule K) := by
  refine F.ok sc__law_rule (fun vs H Q E h => ?_) (fun cdv A outer s H vs Q E hr h => ?_)
  · obtain ⟨l, ds, rfl, _⟩ := h; rfl
  · refine ⟨_, (pss_cons (ps_set (i := 1) sc__law_rule.nd rfl (Or.inl rfl) (pe_op op_modN (pe_bm0K (K := K) rfl PySem.F.plainAttrs_list PySem.F.slot_list_pop PySem.F.type_list_pop mt_pop (pv 0)) pe_int)) (pss_cons (ps_if (pt_cmpR (op_eqK (K := K) rfl hr) (pv 1) pe_int (nomark _)) (pss_one (ps_ret (pe_tup (pa_cons pe_str pa_nil)))) pss_nil) (pss_cons (ps_if (pt_cmpR op_lt (pv 1) pe_int (nomark _)) (pss_one (ps_ret (pe_tup (pa_cons pe_str (pa_cons (pcall c__law_part hr (by first | decide | omega) (takes_of rfl rfl rfl rfl) (pa_cons (pv 0) pa_nil)) pa_nil))))) pss_nil) (pss_cons (ps_if (pt_cmpR (op_eqK (K := K) rfl hr) (pv 1) pe_int (nomark _)) (pss_one (ps_ret (pe_tup (pa_cons pe_str (pa_cons (pe_frz (pe_lc (own := [("_law_k", 3)]) (g := gName 3) (by rfl) sc__law_rule.nd (pi_range1 rfl T.n_range (pa_cons (pe_op (op_addK (K := K) rfl) pe_int (pe_op op_modN (pe_bm0K (K := K) rfl PySem.F.plainAttrs_list PySem.F.slot_list_pop PySem.F.type_list_pop mt_pop (pv 0)) pe_int)) pa_nil)) (blkOk_by (own := [("_law_k", 3)]) (N := ["_law_deck_here", "_law_way", "_law_guess", "_law_k"]) (sc := defScope s__law_rule) (by decide +kernel)) (fun _ _ _ _ _ => pg_name (i := 3) sc__law_rule.nd rfl (Or.inl rfl)) (fun _ _ _ _ _ => pts_nil) (fun _ _ _ _ _ => (pcallN c__law_part hr (by first | decide | omega) (pa_cons (pv 0) pa_nil))))) pa_nil))))) pss_nil) (pss_cons (ps_set (i := 2) sc__law_rule.nd rfl (Or.inl rfl) (pcall c__law_part hr (by first | decide | omega) (takes_of rfl rfl rfl rfl) (pa_cons (pv 0) pa_nil))) (C8.pss_cut (ps_if (pt_cmpR (op_eqK (K := K) rfl hr) (pe_op op_modN (pe_bm0K (K := K) rfl PySem.F.plainAttrs_list PySem.F.slot_list_pop PySem.F.type_list_pop mt_pop (pv 0)) pe_int) pe_int (nomark _)) (pss_one (ps_set (i := 2) sc__law_rule.nd rfl (Or.inl rfl) (pcall c__law_sum hr (by first | decide | omega) (takes_of rfl rfl rfl rfl) (pa_cons (pv 2) (pa_cons (pe_tup (pa_cons pe_int (pa_cons pe_int pa_nil))) pa_nil))))) pss_nil) (pss_one (ps_ret (pe_tup (pa_cons pe_str (pa_cons (pv 2) (pa_cons (pe_op (op_addK (K := K) rfl) pe_int (pe_op op_modN (pe_bm0K (K := K) rfl PySem.F.plainAttrs_list PySem.F.slot_list_pop PySem.F.type_list_pop mt_pop (pv 0)) (pe_ix (ix_K (K := K) rfl) (pe_lst (pa_cons pe_int (pa_cons pe_int pa_nil))) (pe_op op_modN (pe_bm0K (K := K) rfl PySem.F.plainAttrs_list PySem.F.slot_list_pop PySem.F.type_list_pop mt_pop (pv 0)) pe_int) (fun _ _ => rfl)))) pa_nil)))))))))))), ?_⟩
    obtain ⟨l, ds, rfl, hl, dk, n14, kk⟩ := h
    obtain ⟨d1, e1, ed1, dk1, e10, e11, n1⟩ := deck_last dk (by omega)
    rw [ed1] at hl
    walk_at "go"
    refine k_pop hl (fun H1 b1 h1 => ?_)
    walk_at "go"
    refine k_if (fun _ => ?_) (fun _ => ?_)
    · walk_at "go"
      refine k_tupx (fun p H3 np s3 hp => ?_) (by simp [sizeLine_eq])
      exact kk p .none d1 H3 (b1.trans (But.of s3)) (s3 _ _ h1) dk1 (by omega) (SqT.of hp) trivial
    walk_at "go"
    refine k_if (fun _ => ?_) (fun _ => ?_)
    · walk_at "go"
      refine ⟨l, d1, rfl, h1, dk1, by omega, fun r q d2 H2 b2 h2 dk2 n2 hr q0 q1 sq => ?_⟩
      walk_at "go"
      refine k_tupx (fun p H3 np s3 hp => ?_) (by simp [sizeLine_eq])
      exact kk p (.fixed q) d2 H3 (b1.trans (b2.trans (But.of s3))) (s3 _ _ h2) dk2 (by omega) ⟨r, SqT.of hp, seqT_same s3 hr⟩ ⟨q0, q1, sq⟩
    walk_at "go"
    refine k_if (fun _ => ?_) (fun _ => ?_)
    · obtain ⟨d2, e2, ed2, dk2, e20, e21, n2⟩ := deck_last dk1 (by omega)
      rw [ed2] at h1
      walk_at "go"
      refine k_pop h1 (fun H2 b2 h2 => ?_)
      walk_at "go"
      obtain ⟨k, ek⟩ := Int.eq_ofNat_of_zero_le (show 0 ≤ 1 + e2 % 4 by omega)
      rw [ek]
      refine k_rng1 (by omega) ?_
      rw [show ((k : Int)).toNat = k by omega]
      have k4 : k ≤ 4 := by omega
      refine k_lcR (fun D i ys H' => But l H2 H' ∧ (∃ es : List Int, H' l = some (.lst (es.map V.int)) ∧ Deck es ∧ d2.length = es.length + 3 * i) ∧ ∃ qs : List Rat, Fqs K H' ys qs ∧ qs.length = i ∧ ∀ q ∈ qs, 0 ≤ q ∧ q ≤ 1 ∧ Fr.Sz 7 q) (fun D H' nD sD hD => ⟨But.of sD, ⟨d2, sD _ _ h2, dk2, by omega⟩, [], .nil, rfl, fun _ h => (nomatch h)⟩) ?_ ?_
      · rintro D i ys H' nD hi ⟨bD, ⟨es, hl', dke, ne⟩, qs, fq, hq, hz⟩ hD
        have nlD : l ≠ D := fun e => by subst e; rw [nD] at h2; cases h2
        have hyl := fq.len
        refine k_lcB rfl ?_
        walk_at "go"
        refine ⟨l, es, rfl, hl', dke, by omega, fun r q d3 H3 b3 h3 dk3 n3 hr q0 q1 sq => ?_⟩
        have hD3 := b3 _ _ (Ne.symm nlD) hD
        refine ⟨_, hD3, by rw [sizeLine_eq]; omega, _, ⟨?_, ⟨d3, by rw [upd_ne nlD]; exact h3, dk3, by omega⟩, qs ++ [q], Fqs.snoc (seqT_but But.upd hD3 hr) (Fqs.but But.upd hD3 (Fqs.but b3 hl' fq)), by simp [hq], ?_⟩, upd_same⟩
        · intro a o ne h
          have h2' := b3 _ _ ne (bD _ _ ne h)
          rw [upd_ne (fun e => by subst e; rw [nD] at h; cases h)]
          exact h2'
        · intro x hx
          rcases List.mem_append.mp hx with h | h
          · exact hz x h
          · rw [List.mem_singleton.mp h]; exact ⟨q0, q1, sq⟩
      rintro D ys G2 nD ⟨bD, ⟨es, hl', dke, ne'⟩, qs, fq, hq, hz⟩ hD
      have nlD : l ≠ D := fun e => by subst e; rw [nD] at h2; cases h2
      walk_at "go"
      refine k_frzx hD (fun o G3 b3 h3 => ?_)
      walk_at "go"
      refine k_tupx (fun p G4 np s4 hp => ?_) (by simp [sizeLine_eq])
      have ne : qs ≠ [] := fun e => by rw [e] at hq; simp at hq; omega
      have bAll : But l H G4 := b1.trans (b2.trans (fun a o ne h => by
        have h1 := bD a o ne h
        exact s4 _ _ (b3 _ _ (fun e => by subst e; rw [nD] at h; cases h) h1)))
      exact kk p (.told _) es G4 bAll (s4 _ _ (b3 _ _ nlD hl')) dke (by omega) ⟨D, o, ys, qs, SqT.of hp, s4 _ _ h3, (Fqs.but b3 hD fq).same s4, ne, by omega, rfl⟩ (Gm.told_ok ne hz)
    walk_at "go"
    refine ⟨l, d1, rfl, h1, dk1, by omega, fun r q d2 H2 b2 h2 dk2 n2 hr q0 q1 sq => ?_⟩
    obtain ⟨d3, e3, ed3, dk3, e30, e31, n3⟩ := deck_last dk2 (by omega)
    rw [ed3] at h2
    walk_at "go"
    refine k_cut (fun σ H' => ∃ (g : Addr) (x : Rat), σ = [some (.ref l), some (.int (e1 % 5)), some (.ref g), none] ∧ But l H H' ∧ H' l = some (.lst (d3.map V.int)) ∧ SqT K H' g (Fr.fq x) ∧ 0 ≤ x ∧ Fr.Sz 9 x) ?_ ?_
    · walk_at "go"
      refine k_pop h2 (fun H3 b3 h3 => ?_)
      have hr3 := seqT_but b3 h2 hr
      walk_at "go"
      refine k_if (fun _ => ?_) (fun _ => ?_)
      · walk_at "go"
        refine k_tupx (fun p1 H4 np1 s4 hp1 => ?_) (by simp [sizeLine_eq])
        walk_at "go"
        refine sum_fq (y := 1) (m := 7) (n := 1) (seqT_same s4 hr3) (by rw [Cm.fq1]; exact SqT.of hp1) sq (Ru.sz1 (by decide)) (by decide) (fun r5 H5 s5 h5 z5 => ?_)
        walk_at "go"
        exact ⟨r5, q + 1, rfl, b1.trans (b2.trans (b3.trans (But.of (s4.trans s5)))), (s4.trans s5) _ _ h3, h5, by grind, z5⟩
      · walk_at "go"
        exact ⟨r, q, rfl, b1.trans (b2.trans b3), h3, hr3, q0, sq.mono (by decide)⟩
    rintro σ H3 ⟨g, x, rfl, b3, h3, hg, x0, sx⟩
    obtain ⟨d4, e4, ed4, dk4, e40, e41, n4⟩ := deck_last dk3 (by omega)
    obtain ⟨d5, e5, ed5, dk5, e50, e51, n5⟩ := deck_last dk4 (by omega)
    rw [ed4] at h3
    walk_at "go"
    refine k_pop h3 (fun H4 b4 h4 => ?_)
    have hg4 := seqT_but b4 h3 hg
    rw [ed5] at h4
    walk_at "go"
    refine k_lstx (fun u H5 nu s5 hu => ?_) (by simp [sizeLine_eq])
    walk_at "go"
    have h5 := s5 _ _ h4
    have nul : u ≠ l := fun e => by subst e; rw [h4] at nu; cases nu
    refine k_pop h5 (fun H6 b6 h6 => ?_)
    have hu6 := b6 _ _ nul hu
    have hg6 := seqT_but b6 h5 (seqT_same s5 hg4)
    walk_at "go"
    obtain ⟨v, hv, hv'⟩ := one_of2 (a := V.int 3) (b := V.int 100) e5
    obtain ⟨k, rfl, k1, k2⟩ : ∃ k : Int, v = .int k ∧ 1 ≤ k ∧ k ≤ 100 := by
      rcases hv' with rfl | rfl
      · exact ⟨3, rfl, by decide, by decide⟩
      · exact ⟨100, rfl, by decide, by decide⟩
    refine k_ixL (SqL.of hu6) hv ?_
    walk_at "go"
    have f0 := Int.emod_nonneg e4 (show k ≠ 0 by omega)
    have f1 := Int.emod_lt_of_pos e4 (show 0 < k by omega)
    obtain ⟨w, ew⟩ := Int.eq_ofNat_of_zero_le (show 0 ≤ 1 + e4 % k by omega)
    rw [ew]
    refine k_tupx (fun p H7 np s7 hp => ?_) (by simp [sizeLine_eq])
    exact kk p (.learn x w) d5 H7 (b3.trans (b4.trans ((But.of s5).trans (b6.trans (But.of s7))))) (s7 _ _ h6) dk5 (by omega) ⟨g, SqT.of hp, seqT_same s7 hg6⟩ ⟨x0, sx, by omega, by omega⟩
end
end Lw
namespace Lw
open PySem PySem.Spec PyProof.Rows L2 Gx LamX NdefX
section
variable {P : Program} {w : World} {K : PySem.W.Frag} {mg : Str → Option Value} {base : Heap} {f : Addr} {fd : FuncData}
theorem ok__law_rule_of__lam (T : Txt K mg) : CloCl P w K mg base 1 IsF__law_rule_of__lam ["_law_past"] ["_law_parts"] (sp__law_rule_of__lam K) := by
  refine ⟨fun f F ⟨q, cl, c, e⟩ => ?_⟩
  subst e
  refine xok_lam sc__law_rule_of__lam (fun pm ctv us hl => ?_) (fun ws vs H Q E h => ?_) (fun A outer s H vs ws Q E hr hw h => ?_)
  · match us, hl with | [_], _ => rfl
  · obtain ⟨u, l, us, xs, ps, qs, _, rfl, _⟩ := h; rfl
  · refine ⟨_, (pe_ix (ix_K (K := K) rfl) (pv 1) (pe_op op_modN (pe_callB (callK (K := K) (r := rLenU) rfl call_lenU) (by rfl) T.n_len (by decide +kernel) (pa_cons (pv 0) pa_nil)) (pe_callB (callK (K := K) (r := rLenU) rfl call_lenU) (by rfl) T.n_len (by decide +kernel) (pa_cons (pv 1) pa_nil))) (fun _ _ => rfl)), ?_⟩
    obtain ⟨u, l, us, xs, ps, qs, rfl, rfl, hu, fu, hl, fq, ne, kk⟩ := h
    have hxl := fq.len
    have hul := fu.len
    walk_at "go"
    refine k_lenT ?_ hl
    rw [hxl]
    walk_at "go"
    refine k_lenL ?_ hu
    rw [hul]
    have l0 : 0 < ps.length := List.length_pos_iff.mpr ne
    walk_at "go"
    obtain ⟨j, hj, ej, eq⟩ := toldL (qs := qs) ne
    rw [ej]
    obtain ⟨p, q, e1, hq, hp⟩ := fu.get (i := j) (v := us[j]) (by simp)
    refine k_ixL hu (v := .ref p) (by rw [← e1]; exact atI_nat (by simp)) ?_
    refine kk p ?_
    rw [eq] at hq
    cases hq
    exact hp
end
end Lw
namespace Lw
open PySem PySem.Spec PyProof.Rows L2 Gx LamX NdefX
section
variable {P : Program} {w : World} {K : PySem.W.Frag} {mg : Str → Option Value} {base : Heap} {f : Addr} {fd : FuncData}
theorem ok__law_rule_of (F : FnP K "_law_rule_of" "_law_rule_of" s__law_rule_of (He.fAd K p__law_rule_of__lam) fd) (T : Txt K mg) (TB : LamX.TabB base mg (He.cT K p__law_rule_of__lam).1 (He.cT K p__law_rule_of__lam).2) (k_Fixed : KCl P w K mg base 1 "Fixed" ["self", "part"] (sp_Fixed___init__ K)) (k_Asked : KCl P w K mg base 1 "Asked" ["self", "function"] (sp_Asked___init__ K)) (k_Learning : KCl P w K mg base 1 "Learning" ["self", "guess", "weight"] (sp_Learning___init__ K)) : FnOk P w K mg base (L2.CX P w) 3 (He.fAd K p__law_rule_of__lam) fd ["_law_rule_here"] (sp__law_rule_of K) := by
  refine FunD.okG F sc__law_rule_of (fun vs H Q E h => ?_) (fun cdv A outer s H vs Q E hcd hr h => ?_)
  · obtain ⟨p, r, rfl, _⟩ := h; rfl
  · subst hcd
    refine ⟨_, (psg_cons (ps_if (pt_cmpR (op_eqK (K := K) rfl hr) (pe_ix (ix_K (K := K) rfl) (pv 0) pe_int (fun _ _ => rfl)) pe_str (nomark _)) (pss_one (ps_ret (pmakeB rfl T.mb_Rule T.g_Rule))) pss_nil) (psg_cons (ps_if (pt_cmpR (op_eqK (K := K) rfl hr) (pe_ix (ix_K (K := K) rfl) (pv 0) pe_int (fun _ _ => rfl)) pe_str (nomark _)) (pss_one (ps_ret (pmake rfl k_Fixed hr (by first | decide | omega) (pa_cons (pe_ix (ix_K (K := K) rfl) (pv 0) pe_int (fun _ _ => rfl)) pa_nil)))) pss_nil) (psg_if (pt_cmpR (op_eqK (K := K) rfl hr) (pe_ix (ix_K (K := K) rfl) (pv 0) pe_int (fun _ _ => rfl)) pe_str (nomark _)) (psg_cons (ps_set (i := 1) sc__law_rule_of.nd rfl (Or.inr rfl) (pe_frz (pe_callTy (callK (K := K) (r := rLstU) rfl call_lstU) (by rfl) T.n_list (by decide +kernel) (pa_cons (pe_ix (ix_K (K := K) rfl) (pv 0) pe_int (fun _ _ => rfl)) pa_nil)))) (psg_ret (pmake rfl k_Asked hr (by first | decide | omega) (pa_cons (pe_lam (K := K) rfl TB rfl rfl (ndef_free (sc := defScope s__law_rule_of) (nsc := lamScope e__law_rule_of__lam) (fr := ["_law_parts"]) (by decide +kernel))) pa_nil)))) (psg_ret (pmake rfl k_Learning hr (by first | decide | omega) (pa_cons (pe_ix (ix_K (K := K) rfl) (pv 0) pe_int (fun _ _ => rfl)) (pa_cons (pe_ix (ix_K (K := K) rfl) (pv 0) pe_int (fun _ _ => rfl)) pa_nil))))))), ?_⟩
    obtain ⟨p, r, rfl, hp, tab, kk⟩ := h
    obtain ⟨xs, h0, e0⟩ := hp.at0
    obtain ⟨n1, n2, n3, n4, n5, n6⟩ := rt_kinds
    walk_at "go"
    refine k_ixT h0 e0 ?_
    walk_at "go"
    cases r with
    | none =>
      refine k_if (fun _ => ?_) (fun z => absurd rfl z)
      walk_at "go"
      refine k_makeBx (fun y dx A na sA ha => ?_)
      intro σ' H'' g
      exact kk y H'' (ext_same (sA.trans g.same)) (tab.same (sA.trans g.same)) ⟨dx, g.same _ _ ha⟩
    | fixed q =>
      obtain ⟨f, h1, h2⟩ := hp
      refine k_if (fun z => absurd z n1) (fun _ => ?_)
      walk_at "go"
      refine k_ixT h1 (v := .str (Str.ofString "fixed")) rfl ?_
      walk_at "go"
      refine k_if (fun _ => ?_) (fun z => absurd rfl z)
      walk_at "go"
      refine k_ixT h1 (v := .ref f) rfl ?_
      walk_at "go"
      refine k_makex (fun y dx A na nd sA ha oo => ⟨y, dx, _, rfl, ha, fun B bB hB => ⟨rfl, ?_⟩⟩)
      have sB := But.same na sA bB
      intro σ' H'' g
      exact kk y H'' (ext_same (sB.trans g.same)) (tab.same (sB.trans g.same)) ⟨dx, f, g.same _ _ hB, seqT_same (sB.trans g.same) h2⟩
    | told φ =>
      obtain ⟨u, o, us, ps, h1, h2, h3, ne, h5, rfl⟩ := hp
      refine k_if (fun z => absurd z n3) (fun _ => ?_)
      walk_at "go"
      refine k_ixT h1 (v := .str (Str.ofString "asked")) rfl ?_
      walk_at "go"
      refine k_if (fun z => absurd z n5) (fun _ => ?_)
      walk_at "go"
      refine k_ixT h1 (v := .str (Str.ofString "asked")) rfl ?_
      walk_at "go"
      refine k_if (fun _ => ?_) (fun z => absurd rfl z)
      walk_at "go"
      refine k_ixT h1 (v := .ref u) rfl ?_
      walk_at "go"
      refine k_lstL (SqL.frz h2) (fun u2 H1 nu2 s1 hu2 => ?_)
      walk_at "go"
      refine k_frzx hu2 (fun o2 H2 b2 h2' => ?_)
      have s2 : Same H H2 := But.same nu2 s1 b2
      walk_at "go"
      refine ⟨tab.same s2, fun f c' H3 e3 nn t3 f0 hf hc => ?_⟩
      walk_at "go"
      refine k_makex (fun y dx A na nd sA ha oo => ⟨y, dx, _, rfl, ha, fun B bB hB => ⟨rfl, ?_⟩⟩)
      have sB := But.same na sA bB
      intro H'' g
      have sBg := sB.trans g.same
      have C : Clo H'' f _ ["_law_parts"] [.ref u2] := g.made (nsc := lamScope e__law_rule_of__lam) (js := [1]) (by decide +kernel) rfl (sB _ _ hf) (sB _ _ hc) rfl rfl
      have ext : ExtN H H'' := (ext_same s2).trans (e3.trans (ext_same sBg))
      exact kk y H'' ext (t3.same sBg) ⟨dx, f, g.same _ _ hB, _, u2, o2, us, ps, ⟨_, _, _, rfl⟩, C, sBg _ _ (e3 _ _ h2' (by intro ps z; cases z)), h3.imm (imm_ext ext), ne, h5, rfl⟩
    | learn g w =>
      obtain ⟨f, h1, hg⟩ := hp
      refine k_if (fun z => absurd z n2) (fun _ => ?_)
      walk_at "go"
      refine k_ixT h1 (v := .str (Str.ofString "learning")) rfl ?_
      walk_at "go"
      refine k_if (fun z => absurd z n4) (fun _ => ?_)
      walk_at "go"
      refine k_ixT h1 (v := .str (Str.ofString "learning")) rfl ?_
      walk_at "go"
      refine k_if (fun z => absurd z n6) (fun _ => ?_)
      walk_at "go"
      refine k_ixT h1 (v := .ref f) rfl ?_
      walk_at "go"
      refine k_ixT h1 (v := .int (w : Int)) rfl ?_
      walk_at "go"
      refine k_makex (fun y dx A na nd sA ha oo => ⟨y, dx, _, _, rfl, ha, fun B bB hB => ⟨rfl, ?_⟩⟩)
      have sB := But.same na sA bB
      intro H'' g
      exact kk y H'' (ext_same (sB.trans g.same)) (tab.same (sB.trans g.same)) ⟨dx, f, g.same _ _ hB, seqT_same (sB.trans g.same) hg⟩
end
end Lw
namespace Lw
open PySem PySem.Spec PyProof.Rows L2 Gx LamX NdefX
section
variable {P : Program} {w : World} {K : PySem.W.Frag} {mg : Str → Option Value} {base : Heap} {f : Addr} {fd : FuncData}
theorem ok__law_limit (F : FnP K "_law_limit" "_law_limit" s__law_limit f fd) (T : Txt K mg) (c__law_made : Cl P w K mg base 2 "_law_made" ["_law_a", "_law_b"] (sp__law_made K)) : FnOk P w K mg base (L2.CX P w) 3 f fd ["_law_deck_here"] (sp__law_limit K) := by
  refine F.ok sc__law_limit (fun vs H Q E h => ?_) (fun cdv A outer s H vs Q E hr h => ?_)
  · obtain ⟨l, ds, rfl, _⟩ := h; rfl
  · refine ⟨_, (pss_cons (ps_set (i := 1) sc__law_limit.nd rfl (Or.inl rfl) (pe_op (op_addK (K := K) rfl) pe_int (pe_op op_modN (pe_bm0K (K := K) rfl PySem.F.plainAttrs_list PySem.F.slot_list_pop PySem.F.type_list_pop mt_pop (pv 0)) (pe_ix (ix_K (K := K) rfl) (pe_lst (pa_cons pe_int (pa_cons pe_int (pa_cons pe_int (pa_cons pe_int pa_nil))))) (pe_op op_modN (pe_bm0K (K := K) rfl PySem.F.plainAttrs_list PySem.F.slot_list_pop PySem.F.type_list_pop mt_pop (pv 0)) pe_int) (fun _ _ => rfl))))) (pss_one (ps_ret (pcall c__law_made hr (by first | decide | omega) (takes_of rfl rfl rfl rfl) (pa_cons (pe_op (op_addK (K := K) rfl) pe_int (pe_op op_modN (pe_bm0K (K := K) rfl PySem.F.plainAttrs_list PySem.F.slot_list_pop PySem.F.type_list_pop mt_pop (pv 0)) (pv 1))) (pa_cons (pv 1) pa_nil)))))), ?_⟩
    obtain ⟨l, ds, rfl, hl, dk, n3, kk⟩ := h
    obtain ⟨d1, e1, ed1, dk1, e10, e11, n1⟩ := deck_last dk (by omega)
    obtain ⟨d2, e2, ed2, dk2, e20, e21, n2⟩ := deck_last dk1 (by omega)
    obtain ⟨d4, e4, ed4, dk4, e40, e41, n4⟩ := deck_last dk2 (by omega)
    rw [ed1] at hl
    walk_at "go"
    refine k_pop hl (fun H1 b1 h1 => ?_)
    rw [ed2] at h1
    walk_at "go"
    refine k_lstx (fun u H2 nu s2 hu => ?_) (by simp [sizeLine_eq])
    walk_at "go"
    have h2 := s2 _ _ h1
    have nul : u ≠ l := fun e => by subst e; rw [h1] at nu; cases nu
    refine k_pop h2 (fun H3 b3 h3 => ?_)
    have hu3 := b3 _ _ nul hu
    rw [ed4] at h3
    walk_at "go"
    obtain ⟨v, hv, hv'⟩ := one_of4 (a := V.int 3) (b := V.int 10) (c := V.int 30) (d := V.int 1000) e2
    obtain ⟨k, rfl, k1, k2⟩ : ∃ k : Int, v = .int k ∧ 1 ≤ k ∧ k ≤ 1000 := by
      rcases hv' with rfl | rfl | rfl | rfl
      · exact ⟨3, rfl, by decide, by decide⟩
      · exact ⟨10, rfl, by decide, by decide⟩
      · exact ⟨30, rfl, by decide, by decide⟩
      · exact ⟨1000, rfl, by decide, by decide⟩
    refine k_ixL (SqL.of hu3) hv ?_
    walk_at "go"
    have f0 := Int.emod_nonneg e1 (show k ≠ 0 by omega)
    have f1 := Int.emod_lt_of_pos e1 (show 0 < k by omega)
    generalize hb : 1 + e1 % k = b
    refine k_pop h3 (fun H4 b4 h4 => ?_)
    walk_at "go"
    have g0 := Int.emod_nonneg e4 (show b ≠ 0 by omega)
    have g1 := Int.emod_lt_of_pos e4 (show 0 < b by omega)
    have d7 : b.natAbs < 2 ^ 10 := by show _ < 1024; omega
    refine ⟨1 + e4 % b, b, rfl, by omega, okd_den (n := 10) (by omega) d7 (by decide), fun p H5 s5 hp => ?_⟩
    have u' := Ru.unit (a := 1 + e4 % b) (b := b) (by omega) (by omega) (by omega)
    exact kk p _ d4 H5 (b1.trans ((But.of s2).trans (b3.trans (b4.trans (But.of s5))))) (s5 _ _ h4) dk4 (by omega) hp (Ru.pos (by omega) (by omega)) u'.2 (Fr.sz_divInt (by omega) (by show _ < 1024; omega) d7)
end
end Lw
namespace Lw
open PySem PySem.Spec PyProof.Rows L2 Gx LamX NdefX
section
variable {P : Program} {w : World} {K : PySem.W.Frag} {mg : Str → Option Value} {base : Heap} {f : Addr} {fd : FuncData}
theorem ok__law_claim (F : FnP K "_law_claim" "_law_claim" s__law_claim f fd) (T : Txt K mg) (c__law_made : Cl P w K mg base 2 "_law_made" ["_law_a", "_law_b"] (sp__law_made K)) : FnOk P w K mg base (L2.CX P w) 3 f fd ["_law_deck_here"] (sp__law_claim K) := by
  refine F.ok sc__law_claim (fun vs H Q E h => ?_) (fun cdv A outer s H vs Q E hr h => ?_)
  · obtain ⟨l, ds, rfl, _⟩ := h; rfl
  · refine ⟨_, (pss_cons (ps_set (i := 1) sc__law_claim.nd rfl (Or.inl rfl) (pe_op op_modN (pe_bm0K (K := K) rfl PySem.F.plainAttrs_list PySem.F.slot_list_pop PySem.F.type_list_pop mt_pop (pv 0)) pe_int)) (pss_cons (ps_set (i := 2) sc__law_claim.nd rfl (Or.inl rfl) (pe_op (op_addK (K := K) rfl) pe_int (pe_op op_modN (pe_bm0K (K := K) rfl PySem.F.plainAttrs_list PySem.F.slot_list_pop PySem.F.type_list_pop mt_pop (pv 0)) (pe_ix (ix_K (K := K) rfl) (pe_lst (pa_cons pe_int (pa_cons pe_int (pa_cons pe_int pa_nil)))) (pe_op op_modN (pe_bm0K (K := K) rfl PySem.F.plainAttrs_list PySem.F.slot_list_pop PySem.F.type_list_pop mt_pop (pv 0)) pe_int) (fun _ _ => rfl))))) (pss_cons (ps_set (i := 3) sc__law_claim.nd rfl (Or.inl rfl) (pcall c__law_made hr (by first | decide | omega) (takes_of rfl rfl rfl rfl) (pa_cons (pe_op (op_addK (K := K) rfl) pe_int (pe_op op_modN (pe_bm0K (K := K) rfl PySem.F.plainAttrs_list PySem.F.slot_list_pop PySem.F.type_list_pop mt_pop (pv 0)) (pe_op op_sub (pv 2) pe_int))) (pa_cons (pv 2) pa_nil)))) (pss_cons (ps_if (pt_cmpR (op_eqK (K := K) rfl hr) (pv 1) pe_int (nomark _)) (pss_one (ps_ret (pe_tup (pa_cons pe_str (pa_cons (pv 3) (pa_cons (pe_tup (pa_cons pe_int (pa_cons pe_int pa_nil))) pa_nil)))))) pss_nil) (pss_cons (ps_if (pt_cmpR (op_eqK (K := K) rfl hr) (pv 1) pe_int (nomark _)) (pss_one (ps_ret (pe_tup (pa_cons pe_str (pa_cons (pv 3) (pa_cons (pcall c__law_made hr (by first | decide | omega) (takes_of rfl rfl rfl rfl) (pa_cons (pe_ix (ix_K (K := K) rfl) (pv 3) pe_int (fun _ _ => rfl)) (pa_cons (pe_op (op_mulK (K := K) rfl) pe_int (pe_ix (ix_K (K := K) rfl) (pv 3) pe_int (fun _ _ => rfl))) pa_nil))) pa_nil)))))) pss_nil) (pss_one (ps_ret (pe_tup (pa_cons pe_str (pa_cons (pv 3) (pa_cons (pcall c__law_made hr (by first | decide | omega) (takes_of rfl rfl rfl rfl) (pa_cons (pe_ix (ix_K (K := K) rfl) (pv 3) pe_int (fun _ _ => rfl)) (pa_cons (pe_op (op_mulK (K := K) rfl) pe_int (pe_op op_sub (pe_ix (ix_K (K := K) rfl) (pv 3) pe_int (fun _ _ => rfl)) (pe_ix (ix_K (K := K) rfl) (pv 3) pe_int (fun _ _ => rfl)))) pa_nil))) pa_nil))))))))))), ?_⟩
    obtain ⟨l, ds, rfl, hl, dk, n3, kk⟩ := h
    obtain ⟨d1, e1, ed1, dk1, e10, e11, n1⟩ := deck_last dk (by omega)
    obtain ⟨d2, e2, ed2, dk2, e20, e21, n2⟩ := deck_last dk1 (by omega)
    obtain ⟨d3, e3, ed3, dk3, e30, e31, n3'⟩ := deck_last dk2 (by omega)
    obtain ⟨d4, e4, ed4, dk4, e40, e41, n4⟩ := deck_last dk3 (by omega)
    rw [ed1] at hl
    walk_at "go"
    refine k_pop hl (fun H1 b1 h1 => ?_)
    rw [ed2] at h1
    walk_at "go"
    refine k_pop h1 (fun H2 b2 h2 => ?_)
    rw [ed3] at h2
    walk_at "go"
    refine k_lstx (fun u H3 nu s3 hu => ?_) (by simp [sizeLine_eq])
    have h3 := s3 _ _ h2
    have nul : u ≠ l := fun e => by subst e; rw [h2] at nu; cases nu
    walk_at "go"
    refine k_pop h3 (fun H4 b4 h4 => ?_)
    have hu4 := b4 _ _ nul hu
    rw [ed4] at h4
    walk_at "go"
    obtain ⟨v, hv, hv'⟩ := one_of3 (a := V.int 3) (b := V.int 20) (c := V.int 100) e3
    obtain ⟨k, rfl, k1, k2⟩ : ∃ k : Int, v = .int k ∧ 1 ≤ k ∧ k ≤ 100 := by
      rcases hv' with rfl | rfl | rfl
      · exact ⟨3, rfl, by decide, by decide⟩
      · exact ⟨20, rfl, by decide, by decide⟩
      · exact ⟨100, rfl, by decide, by decide⟩
    refine k_ixL (SqL.of hu4) hv ?_
    walk_at "go"
    have f0 := Int.emod_nonneg e2 (show k ≠ 0 by omega)
    have f1 := Int.emod_lt_of_pos e2 (show 0 < k by omega)
    generalize hb : 2 + e2 % k = b
    have b01 : 2 ≤ b ∧ b ≤ 101 := by omega
    refine k_pop h4 (fun H5 b5 h5 => ?_)
    walk_at "go"
    have g0 := Int.emod_nonneg e4 (show b - 1 ≠ 0 by omega)
    have g1 := Int.emod_lt_of_pos e4 (show 0 < b - 1 by omega)
    refine ⟨1 + e4 % (b - 1), b, rfl, by omega, okd_den (n := 7) (by omega) (by show _ < 128; omega) (by decide), fun f H6 s6 hf => ?_⟩
    have sp := Cm.share_pos (a := 1 + e4 % (b - 1)) (b := b) (by omega) (by omega)
    have z7 : Fr.Sz 7 (Rat.divInt (1 + e4 % (b - 1)) b) := Fr.sz_divInt (by omega) (by show _ < 128; omega) (by show _ < 128; omega)
    generalize Rat.divInt (1 + e4 % (b - 1)) b = s at hf sp z7
    have b06 : But l H H6 := b1.trans (b2.trans ((But.of s3).trans (b4.trans (b5.trans (But.of s6)))))
    have hl6 := s6 _ _ h5
    have np := Cm.num_pos sp.1
    have nl := Cm.num_lt sp.2
    have nz : s.num.natAbs < 2 ^ 7 := z7.1
    have dz : s.den < 2 ^ 7 := z7.2
    refine k_gn ?_
    dsimp only
    walk_at "go"
    refine k_if (fun _ => ?_) (fun _ => ?_)
    · walk_at "go"
      refine k_tupx (fun o H7 no s7 ho => ?_) (by simp [sizeLine_eq])
      walk_at "go"
      refine k_tupx (fun r H8 nr s8 hr => ?_) (by simp [sizeLine_eq])
      refine kk r (.beats (Str.ofString "ann") (Str.ofString "bo")) d4 H8 (b06.trans (But.of (s7.trans s8))) (s8 _ _ (s7 _ _ hl6)) dk4 (by omega) ⟨_, f, o, s, SqT.of hr, seqT_same (s7.trans s8) hf, ?_, rfl, rfl, rfl⟩ trivial
      show SqT K H8 o (Fr.fq 1)
      rw [Cm.fq1]
      exact seqT_same s8 (SqT.of ho)
    walk_at "go"
    refine k_if (fun _ => ?_) (fun _ => ?_)
    · walk_at "go"
      refine k_ixT hf (v := .int (s.den : Int)) rfl ?_
      walk_at "go"
      refine k_ixT hf (v := .int s.num) rfl ?_
      refine k_mulB (m := 2) (n := 7) (by decide) (by omega) (by decide) ?_
      walk_at "go"
      refine ⟨(s.den : Int), 2 * s.num, rfl, by omega, okd_den (n := 9) (by omega) (by omega) (by decide), fun g H7 s7 hg => ?_⟩
      rw [Cm.half_over] at hg
      walk_at "go"
      refine k_tupx (fun r H8 nr s8 hr => ?_) (by simp [sizeLine_eq])
      exact kk r (.over (Str.ofString "ann") s) d4 H8 (b06.trans (But.of (s7.trans s8))) (s8 _ _ (s7 _ _ hl6)) dk4 (by omega) ⟨_, f, g, s, SqT.of hr, seqT_same (s7.trans s8) hf, seqT_same s8 hg, rfl, rfl, rfl⟩ ⟨sp.1, sp.2, z7⟩
    walk_at "go"
    refine k_ixT hf (v := .int (s.den : Int)) rfl ?_
    walk_at "go"
    refine k_ixT hf (v := .int (s.den : Int)) rfl ?_
    walk_at "go"
    refine k_ixT hf (v := .int s.num) rfl ?_
    walk_at "go"
    refine k_mulB (m := 2) (n := 7) (by decide) (by omega) (by decide) ?_
    walk_at "go"
    refine ⟨(s.den : Int), 2 * ((s.den : Int) - s.num), rfl, by omega, okd_den (n := 9) (by omega) (by omega) (by decide), fun g H7 s7 hg => ?_⟩
    rw [Cm.half_under] at hg
    walk_at "go"
    refine k_tupx (fun r H8 nr s8 hr => ?_) (by simp [sizeLine_eq])
    exact kk r (.under (Str.ofString "ann") s) d4 H8 (b06.trans (But.of (s7.trans s8))) (s8 _ _ (s7 _ _ hl6)) dk4 (by omega) ⟨_, f, g, s, SqT.of hr, seqT_same (s7.trans s8) hf, seqT_same s8 hg, rfl, rfl, rfl⟩ ⟨sp.1, sp.2, z7⟩
end
end Lw
namespace Lw
open PySem PySem.Spec PyProof.Rows L2 Gx LamX NdefX
section
variable {P : Program} {w : World} {K : PySem.W.Frag} {mg : Str → Option Value} {base : Heap} {f : Addr} {fd : FuncData}
theorem ok__law_claim_of (F : FnP K "_law_claim_of" "_law_claim_of" s__law_claim_of f fd) (T : Txt K mg) (k_Under : KCl P w K mg base 1 "Under" ["self", "name", "share"] (sp_Under___init__ K)) (k_Over : KCl P w K mg base 1 "Over" ["self", "name", "share"] (sp_Over___init__ K)) (k_Beats : KCl P w K mg base 1 "Beats" ["self", "one", "other"] (sp_Beats___init__ K)) : FnOk P w K mg base (L2.CX P w) 3 f fd ["_law_claim_here"] (sp__law_claim_of K) := by
  refine F.ok sc__law_claim_of (fun vs H Q E h => ?_) (fun cdv A outer s H vs Q E hr h => ?_)
  · obtain ⟨p, c, rfl, _⟩ := h; rfl
  · refine ⟨_, (pss_cons (ps_if (pt_cmpR (op_eqK (K := K) rfl hr) (pe_ix (ix_K (K := K) rfl) (pv 0) pe_int (fun _ _ => rfl)) pe_str (nomark _)) (pss_one (ps_ret (pmake rfl k_Beats hr (by first | decide | omega) (pa_cons pe_str (pa_cons pe_str pa_nil))))) pss_nil) (pss_cons (ps_if (pt_cmpR (op_eqK (K := K) rfl hr) (pe_ix (ix_K (K := K) rfl) (pv 0) pe_int (fun _ _ => rfl)) pe_str (nomark _)) (pss_one (ps_ret (pmake rfl k_Over hr (by first | decide | omega) (pa_cons pe_str (pa_cons (pe_ix (ix_K (K := K) rfl) (pv 0) pe_int (fun _ _ => rfl)) pa_nil))))) pss_nil) (pss_one (ps_ret (pmake rfl k_Under hr (by first | decide | omega) (pa_cons pe_str (pa_cons (pe_ix (ix_K (K := K) rfl) (pv 0) pe_int (fun _ _ => rfl)) pa_nil))))))), ?_⟩
    obtain ⟨p, c, rfl, ⟨k, f, g, s, hp, hf, hg, rfl, hc⟩, kk⟩ := h
    walk_at "go"
    refine k_ixT hp (v := .str (Cm.kindOf c)) rfl ?_
    walk_at "go"
    cases c with
    | claim => exact hc.elim
    | beats o t =>
      obtain ⟨rfl, rfl⟩ := hc
      refine k_if (fun _ => ?_) (fun z => absurd rfl z)
      walk_at "go"
      refine k_makex (fun a dx A x xd g' i oo => ⟨a, dx, _, _, rfl, i, fun A2 b2 i2 => ⟨rfl, ?_⟩⟩)
      exact kk a A2 (But.same x g' b2) ⟨dx, i2⟩
    | over n s' =>
      obtain ⟨rfl, rfl⟩ := hc
      refine k_if (fun z => absurd z (of_decide_eq_false Cm.d_ob)) (fun _ => ?_)
      walk_at "go"
      refine k_ixT hp (v := .str (Str.ofString "over")) rfl ?_
      walk_at "go"
      refine k_if (fun _ => ?_) (fun z => absurd rfl z)
      walk_at "go"
      refine k_ixT hp (v := .ref f) rfl ?_
      walk_at "go"
      refine k_makex (fun a dx A x xd g' i oo => ⟨a, dx, _, _, rfl, i, fun A2 b2 i2 => ⟨rfl, ?_⟩⟩)
      have s := But.same x g' b2
      exact kk a A2 s ⟨dx, f, i2, seqT_same s hf⟩
    | under n s' =>
      obtain ⟨rfl, rfl⟩ := hc
      refine k_if (fun z => absurd z (of_decide_eq_false Cm.d_ub)) (fun _ => ?_)
      walk_at "go"
      refine k_ixT hp (v := .str (Str.ofString "under")) rfl ?_
      walk_at "go"
      refine k_if (fun z => absurd z (of_decide_eq_false Cm.d_uo)) (fun _ => ?_)
      walk_at "go"
      refine k_ixT hp (v := .ref f) rfl ?_
      walk_at "go"
      refine k_makex (fun a dx A x xd g' i oo => ⟨a, dx, _, _, rfl, i, fun A2 b2 i2 => ⟨rfl, ?_⟩⟩)
      have s := But.same x g' b2
      exact kk a A2 s ⟨dx, f, i2, seqT_same s hf⟩
end
end Lw
namespace Lw
open PySem PySem.Spec PyProof.Rows L2 Gx LamX NdefX
section
variable {P : Program} {w : World} {K : PySem.W.Frag} {mg : Str → Option Value} {base : Heap} {f : Addr} {fd : FuncData}
theorem ok__law_marks (F : FnP K "_law_marks" "_law_marks" s__law_marks f fd) (T : Txt K mg) : FnOk P w K mg base (L2.CX P w) 1 f fd ["_law_deck_here", "_law_claim_here"] (sp__law_marks K) := by
  refine F.ok sc__law_marks (fun vs H Q E h => ?_) (fun cdv A outer s H vs Q E hr h => ?_)
  · obtain ⟨l, p, c, ds, rfl, _⟩ := h; rfl
  · refine ⟨_, (pss_cons (ps_set (i := 2) sc__law_marks.nd rfl (Or.inl rfl) (pe_op (op_addK (K := K) rfl) pe_int (pe_op op_modN (pe_bm0K (K := K) rfl PySem.F.plainAttrs_list PySem.F.slot_list_pop PySem.F.type_list_pop mt_pop (pv 0)) (pe_ix (ix_K (K := K) rfl) (pe_lst (pa_cons pe_int (pa_cons pe_int (pa_cons pe_int pa_nil)))) (pe_op op_modN (pe_bm0K (K := K) rfl PySem.F.plainAttrs_list PySem.F.slot_list_pop PySem.F.type_list_pop mt_pop (pv 0)) pe_int) (fun _ _ => rfl))))) (pss_cons (ps_set (i := 3) sc__law_marks.nd rfl (Or.inl rfl) (pe_ix (ix_K (K := K) rfl) (pe_lst (pa_cons (pe_lst (pa_cons pe_str pa_nil)) (pa_cons (pe_lst (pa_cons pe_str (pa_cons pe_str (pa_cons pe_str pa_nil)))) (pa_cons (pe_lst (pa_cons pe_str (pa_cons pe_str pa_nil))) pa_nil)))) (pe_bmK (K := K) rfl PySem.F.plainAttrs_list PySem.F.slot_list_index PySem.F.type_list_index mt_index (pe_lst (pa_cons pe_str (pa_cons pe_str (pa_cons pe_str pa_nil)))) (pa_cons (pe_ix (ix_K (K := K) rfl) (pv 1) pe_int (fun _ _ => rfl)) pa_nil)) (fun _ _ => rfl))) (pss_cons (ps_set (i := 4) sc__law_marks.nd rfl (Or.inl rfl) (pe_lst (pa_cons pe_str (pa_cons pe_str (pa_cons pe_str (pa_cons pe_str (pa_cons pe_non pa_nil))))))) (C8.pss_cut (ps_if (pt_cmpR op_gt (pe_op op_modN (pe_bm0K (K := K) rfl PySem.F.plainAttrs_list PySem.F.slot_list_pop PySem.F.type_list_pop mt_pop (pv 0)) pe_int) pe_int (nomark _)) (pss_one (ps_set (i := 4) sc__law_marks.nd rfl (Or.inl rfl) (pe_op (op_addK (K := K) rfl) (pe_op (op_mulK (K := K) rfl) (pv 3) pe_int) (pv 4)))) pss_nil) (pss_cons (ps_set (i := 5) sc__law_marks.nd rfl (Or.inl rfl) (pe_lst pa_nil)) (pss_cons (ps_set (i := 6) sc__law_marks.nd rfl (Or.inl rfl) (pe_bm0K (K := K) rfl PySem.F.plainAttrs_list PySem.F.slot_list_pop PySem.F.type_list_pop mt_pop (pv 0))) (pss_cons (ps_for (passes_of rfl) rfl (pi_range1 rfl T.n_range (pa_cons (pv 2) pa_nil)) (pg_name (i := 7) sc__law_marks.nd rfl (Or.inl rfl)) (pss_one (ps_expr (pe_bmK (K := K) rfl PySem.F.plainAttrs_list PySem.F.slot_list_append PySem.F.type_list_append mt_append (pv 5) (pa_cons (pe_ix (ix_K (K := K) rfl) (pv 4) (pe_op op_modN (pe_op (op_addK (K := K) rfl) (pe_bm0K (K := K) rfl PySem.F.plainAttrs_list PySem.F.slot_list_pop PySem.F.type_list_pop mt_pop (pv 0)) (pe_op (op_mulK (K := K) rfl) (pv 6) (pv 7))) (pe_callB (callK (K := K) (r := rLenU) rfl call_lenU) (by rfl) T.n_len (by decide +kernel) (pa_cons (pv 4) pa_nil))) (fun _ _ => rfl)) pa_nil))))) (pss_one (ps_ret (pv 5)))))))))), ?_⟩
    obtain ⟨l, p, c, ds, rfl, hl, dk, nd, ⟨kd, f, g, s, hp, hf, hg, rfl, hc⟩, kk⟩ := h
    obtain ⟨d1, e1, ed1, dk1, e10, e11, n1⟩ := deck_last dk (by omega)
    obtain ⟨d2, e2, ed2, dk2, e20, e21, n2⟩ := deck_last dk1 (by omega)
    obtain ⟨d3, e3, ed3, dk3, e30, e31, n3⟩ := deck_last dk2 (by omega)
    obtain ⟨d4, e4, ed4, dk4, e40, e41, n4⟩ := deck_last dk3 (by omega)
    rw [ed1] at hl
    walk_at "go"
    refine k_pop hl (fun H1 b1 h1 => ?_)
    rw [ed2] at h1
    walk_at "go"
    refine k_lstx (fun w H2 nw s2 hw => ?_) (by simp [sizeLine_eq])
    walk_at "go"
    have h2 := s2 _ _ h1
    have nwl : w ≠ l := fun e => by subst e; rw [h1] at nw; cases nw
    refine k_pop h2 (fun H3 b3 h3 => ?_)
    have hw3 := b3 _ _ nwl hw
    rw [ed3] at h3
    walk_at "go"
    obtain ⟨v, hv, hv'⟩ := one_of3 (a := V.int 6) (b := V.int 20) (c := V.int 60) e2
    obtain ⟨k, rfl, k1, k2⟩ : ∃ k : Int, v = .int k ∧ 1 ≤ k ∧ k ≤ 60 := by
      rcases hv' with rfl | rfl | rfl
      · exact ⟨6, rfl, by decide, by decide⟩
      · exact ⟨20, rfl, by decide, by decide⟩
      · exact ⟨60, rfl, by decide, by decide⟩
    refine k_ixL (SqL.of hw3) hv ?_
    walk_at "go"
    have f0 := Int.emod_nonneg e1 (show k ≠ 0 by omega)
    have f1 := Int.emod_lt_of_pos e1 (show 0 < k by omega)
    obtain ⟨m, em⟩ := Int.eq_ofNat_of_zero_le (show 0 ≤ 1 + e1 % k by omega)
    rw [em]
    have b03 : But l H H3 := b1.trans ((But.of s2).trans b3)
    refine k_lstx (fun q1 G1 nq1 g1 hq1 => ?_) (by simp [sizeLine_eq])
    walk_at "go"
    refine k_lstx (fun q2 G2 nq2 g2 hq2 => ?_) (by simp [sizeLine_eq])
    walk_at "go"
    refine k_lstx (fun q3 G3 nq3 g3 hq3 => ?_) (by simp [sizeLine_eq])
    walk_at "go"
    refine k_lstx (fun q4 G4 nq4 g4 hq4 => ?_) (by simp [sizeLine_eq])
    walk_at "go"
    refine k_lstx (fun q5 G5 nq5 g5 hq5 => ?_) (by simp [sizeLine_eq])
    walk_at "go"
    have g35 : Same H3 G5 := g1.trans (g2.trans (g3.trans (g4.trans g5)))
    have hl5 := g35 _ _ h3
    have hp5 := seqT_same g35 (seqT_but b3 h2 (seqT_same s2 (seqT_but b1 hl hp)))
    have nl1 : q1 ≠ l := fun e => by subst e; rw [h3] at nq1; cases nq1
    have nl2 : q2 ≠ l := fun e => by subst e; rw [g1 _ _ h3] at nq2; cases nq2
    have nl3 : q3 ≠ l := fun e => by subst e; rw [g2 _ _ (g1 _ _ h3)] at nq3; cases nq3
    obtain ⟨j, qf, fs, nqfl, ej, hqf, fl1, fl3, fq, ek, en⟩ : ∃ (j : Nat) (qf : Addr) (fs : List (Option Str)), qf ≠ l ∧ [V.ref q1, .ref q2, .ref q3][j]? = some (.ref qf) ∧ G5 qf = some (.lst (fs.map Cm.mv)) ∧ 1 ≤ fs.length ∧ fs.length ≤ 3 ∧ (∀ m ∈ fs, m ≠ some (Str.ofString "?")) ∧ [V.str (Str.ofString "beats"), .str (Str.ofString "over"), .str (Str.ofString "under")][j]? = some (.str (Cm.kindOf c)) ∧
        ∀ (m : Nat) (z : V), m < j → [V.str (Str.ofString "beats"), .str (Str.ofString "over"), .str (Str.ofString "under")][m]? = some z → eqV z (.str (Cm.kindOf c)) = false := by
      have up1 := g5 _ _ (g4 _ _ (g3 _ _ (g2 _ _ hq1)))
      have up2 := g5 _ _ (g4 _ _ (g3 _ _ hq2))
      have up3 := g5 _ _ (g4 _ _ hq3)
      cases c with
      | claim => exact hc.elim
      | beats a b => exact ⟨0, q1, [some (Str.ofString "ann")], nl1, rfl, up1, by decide, by decide, by decide +kernel, rfl, fun m z h => absurd h (by omega)⟩
      | over a b =>
        refine ⟨1, q2, [some (Str.ofString "ann"), some (Str.ofString "ann"), some (Str.ofString "bo")], nl2, rfl, up2, by decide, by decide, by decide +kernel, rfl, fun m z h hz => ?_⟩
        obtain rfl : m = 0 := by omega
        cases hz
        show eqV (.str (Str.ofString "beats")) (.str (Str.ofString "over")) = false
        decide +kernel
      | under a b =>
        refine ⟨2, q3, [some (Str.ofString "bo"), some (Str.ofString "cy")], nl3, rfl, up3, by decide, by decide, by decide +kernel, rfl, fun m z h hz => ?_⟩
        obtain rfl | rfl : m = 0 ∨ m = 1 := by omega
        · cases hz
          show eqV (.str (Str.ofString "beats")) (.str (Str.ofString "under")) = false
          decide +kernel
        · cases hz
          show eqV (.str (Str.ofString "over")) (.str (Str.ofString "under")) = false
          decide +kernel
    refine ⟨k_app0 hq5, ?_⟩
    walk_at "go"
    refine k_ixT hp5 (v := .str (Cm.kindOf c)) rfl ?_
    walk_at "go"
    have j3 : j < 3 := (List.getElem?_eq_some_iff.mp ek).1
    refine ⟨q5, _, _, j, _, rfl, rfl, SqL.of hq5, rfl, rfl, ek, by simp [eqV], en, ?_⟩
    walk_at "go"
    refine k_ixL (SqL.of (g5 _ _ hq4)) (i := (j : Int)) (v := .ref qf) (by unfold atI; rw [ixN_nat (by simpa using j3)]; exact ej) ?_
    walk_at "go"
    refine k_lstx (fun so G6 nso g6 hso => ?_) (by simp [sizeLine_eq])
    have hl6 := g6 _ _ hl5
    have hqf6 := g6 _ _ hqf
    have nsol : so ≠ l := fun e => by subst e; rw [hl5] at nso; cases nso
    have p5 : [V.str (Str.ofString "ann"), .str (Str.ofString "bo"), .str (Str.ofString "cy"), .str (Str.ofString ""), .non] = ([some (Str.ofString "ann"), some (Str.ofString "bo"), some (Str.ofString "cy"), some (Str.ofString ""), none] : List (Option Str)).map Cm.mv := rfl
    have q5' : ∀ m ∈ ([some (Str.ofString "ann"), some (Str.ofString "bo"), some (Str.ofString "cy"), some (Str.ofString ""), none] : List (Option Str)), m ≠ some (Str.ofString "?") := by decide +kernel
    rw [p5] at hso
    have pl5 : ([some (Str.ofString "ann"), some (Str.ofString "bo"), some (Str.ofString "cy"), some (Str.ofString ""), none] : List (Option Str)).length = 5 := rfl
    generalize ([some (Str.ofString "ann"), some (Str.ofString "bo"), some (Str.ofString "cy"), some (Str.ofString ""), none] : List (Option Str)) = pool at hso q5' pl5
    refine k_gn ?_
    dsimp only
    conv in (List.set _ 4 (some (V.ref so))) => change [some (.ref l), some (.ref p), some (.int (m : Int)), some (.ref qf), some (.ref so), none, none, none]
    refine k_cut (fun σ H' => ∃ (ss : List (Option Str)) (sa : Addr), σ = [some (.ref l), some (.ref p), some (.int (m : Int)), some (.ref qf), some (.ref sa), none, none, none] ∧ But l G6 H' ∧ H' sa = some (.lst (ss.map Cm.mv)) ∧ sa ≠ l ∧ 1 ≤ ss.length ∧ ss.length ≤ 17 ∧ (∀ m ∈ ss, m ≠ some (Str.ofString "?")) ∧ H' l = some (.lst (d3.map V.int))) ?_ ?_
    · walk_at "go"
      refine k_pop hl6 (fun G7 b7 hl7 => ?_)
      have hso7 := b7 _ _ nsol hso
      have hqf7 := b7 _ _ nqfl hqf6
      walk_at "go"
      refine k_if (fun _ => ?_) (fun _ => ?_)
      · walk_at "go"
        refine k_mulR hqf7 (by rw [List.length_map, sizeLine_eq, show (4 : Int).toNat = 4 from rfl]; omega) (fun a8 G8 na8 s8 ha8 => ?_)
        walk_at "go"
        have e8 : (List.replicate (4 : Int).toNat (fs.map Cm.mv)).flatten = ((List.replicate 4 fs).flatten).map Cm.mv := by
          show (List.replicate 4 (fs.map Cm.mv)).flatten = _
          rw [List.map_flatten, List.map_replicate]
        rw [e8] at ha8
        have fl : ((List.replicate 4 fs).flatten).length = 4 * fs.length := by simp; omega
        refine k_addL ha8 (s8 _ _ hso7) (fun a9 G9 na9 s9 ha9 => ?_) (by rw [List.length_map, List.length_map, sizeLine_eq, fl]; omega)
        rw [← List.map_append] at ha9
        have n9 : a9 ≠ l := fun e => by subst e; rw [s8 _ _ hl7] at na9; cases na9
        refine ⟨_, a9, rfl, b7.trans (But.of (s8.trans s9)), ha9, n9, by rw [List.length_append, fl]; omega, by rw [List.length_append, fl]; omega, fun m hm => ?_, s9 _ _ (s8 _ _ hl7)⟩
        rcases List.mem_append.mp hm with h | h
        · obtain ⟨zs, hz, hm'⟩ := List.mem_flatten.mp h
          rw [List.eq_of_mem_replicate hz] at hm'
          exact fq m hm'
        · exact q5' m h
      · exact ⟨pool, so, rfl, b7, hso7, nsol, by omega, by omega, q5', hl7⟩
    rintro σ G7 ⟨ss, sa, rfl, b7, hsa, nsal, sl1, sl17, sq, hl7⟩
    walk_at "go"
    refine k_lstx (fun u G8 nu g8 hu => ?_) (by simp)
    have hl8 := g8 _ _ hl7
    have nul : u ≠ l := fun e => by subst e; rw [hl7] at nu; cases nu
    have nus : sa ≠ u := fun e => by subst e; rw [hsa] at nu; cases nu
    rw [ed4] at hl8
    walk_at "go"
    refine k_pop hl8 (fun G9 b9 hl9 => ?_)
    have hsa9 := b9 _ _ nsal (g8 _ _ hsa)
    have hu9 := b9 _ _ nul hu
    have se4 : e4.natAbs < 2 ^ 203 := Nat.lt_trans (show e4.natAbs < 10000000000000000000000000000000000000000000000000000000000000 by omega) (by decide +kernel)
    walk_at "go"
    refine k_rng1 (by omega) ?_
    rw [show ((m : Int)).toNat = m by omega]
    refine k_loopR (n := m) (fun i σ H' => ∃ (t7 : Option V) (es : List Int) (ms : List (Option Str)), σ = [some (.ref l), some (.ref p), some (.int (m : Int)), some (.ref qf), some (.ref sa), some (.ref u), some (.int e4), t7] ∧ But2 l u G9 H' ∧ Imm G9 H' ∧ H' l = some (.lst (es.map V.int)) ∧ Deck es ∧ d4.length = es.length + i ∧ H' u = some (.lst (ms.map Cm.mv)) ∧ ms.length = i ∧ (∀ m ∈ ms, m ≠ some (Str.ofString "?")))
      ⟨_, d4, [], rfl, But2.of (Same.refl _), imm_same (Same.refl _), hl9, dk4, by omega, hu9, rfl, fun m h => (nomatch h)⟩ ?_ ?_
    · rintro i σ K1 hi ⟨t7, es, ms, rfl, bb, im, hl', dke, ne, hu', ml, mq⟩
      obtain ⟨f5, e6, ef, dkf, e60, e61, nf⟩ := deck_last dke (by omega)
      rw [ef] at hl'
      have hsa' := bb _ _ nsal nus hsa9
      walk_at "go"
      refine ⟨k_app0 hu', ?_⟩
      walk_at "go"
      refine k_pop hl' (fun K2 b2' hl2 => ?_)
      walk_at "go"
      refine k_mulB se4 (n := 6) (by show _ < 64; omega) (by decide) ?_
      walk_at "go"
      have hsa2 := b2' _ _ nsal hsa'
      refine k_lenL ?_ (SqL.of hsa2)
      rw [List.length_map]
      walk_at "go"
      have q0 := Int.emod_nonneg (e6 + e4 * (i : Int)) (show ((ss.length : Nat) : Int) ≠ 0 by omega)
      have q1 := Int.emod_lt_of_pos (e6 + e4 * (i : Int)) (show (0 : Int) < ((ss.length : Nat) : Int) by omega)
      obtain ⟨mk, hmk, hat⟩ := Cm.at_map (f := Cm.mv) (xs := ss) q0 q1
      refine k_ixL (SqL.of hsa2) hat ?_
      walk_at "go"
      have hu2 := b2' _ _ nul hu'
      refine k_app1 hu2 (by rw [List.length_map, sizeLine_eq]; omega) (fun K3 b3' hu3 => ?_)
      refine ⟨_, f5, ms ++ [mk], rfl, bb.trans ((But2.left b2').trans (But2.right b3')), im.trans ((imm_but b2' hl').trans (imm_but b3' hu2)), b3' _ _ (Ne.symm nul) hl2, dkf, by omega, by rw [hu3, List.map_append]; rfl, by simp [ml], fun m' h => ?_⟩
      rcases List.mem_append.mp h with h | h
      · exact mq m' h
      · rw [List.mem_singleton.mp h]; exact sq mk hmk
    rintro σ K1 ⟨t7, es, ms, rfl, bb, im, hl', dke, ne, hu', ml, mq⟩
    walk_at "go"
    have nu0 : ∀ (c' : Addr) (o : HO), c' ≠ l → H c' = some o → G7 c' = some o := fun c' o n h => b7 _ _ n (g6 _ _ (g35 _ _ (b03 _ _ n h)))
    refine kk u ms K1 (fun c' o n h => ?_) ?_ hu' (by omega) (by omega) mq
    · have h7 := nu0 c' o n h
      have ncu : c' ≠ u := fun e => by subst e; rw [h7] at nu; cases nu
      exact bb _ _ n ncu (b9 _ _ n (g8 _ _ h7))
    · exact (imm_but b1 hl).trans ((imm_same s2).trans ((imm_but b3 h2).trans ((imm_same g35).trans ((imm_same g6).trans ((imm_but b7 hl6).trans ((imm_same g8).trans ((imm_but b9 hl8).trans im)))))))
end
end Lw
namespace Lw
open PySem PySem.Spec PyProof.Rows L2 Gx LamX NdefX
section
variable {P : Program} {w : World} {K : PySem.W.Frag} {mg : Str → Option Value} {base : Heap} {f : Addr} {fd : FuncData}
theorem ok__law_value (F : FnP K "_law_value" "_law_value" s__law_value f fd) (T : Txt K mg) : FnOk P w K mg base (L2.CX P w) 1 f fd ["_law_claim_here", "_law_mark"] (sp__law_value K) := by
  refine F.ok sc__law_value (fun vs H Q E h => ?_) (fun cdv A outer s H vs Q E hr h => ?_)
  · obtain ⟨p, c, m, rfl, _⟩ := h; rfl
  · refine ⟨_, (pss_cons (ps_if (pt_cmpR (op_eqK (K := K) rfl hr) (pv 1) pe_str (nomark _)) (pss_one (ps_ret (pe_ix (ix_K (K := K) rfl) (pe_lst (pa_cons (pe_ix (ix_K (K := K) rfl) (pv 0) pe_int (fun _ _ => rfl)) (pa_cons (pe_tup (pa_cons pe_int (pa_cons pe_int pa_nil))) pa_nil))) (pe_callTy call_intU (by rfl) T.n_int (by decide +kernel) (pa_cons (pe_cmpR (op_eqK (K := K) rfl hr) (pe_ix (ix_K (K := K) rfl) (pv 0) pe_int (fun _ _ => rfl)) pe_str (nomark _)) pa_nil)) (fun _ _ => rfl)))) pss_nil) (pss_cons (ps_if (PW.pt (pw_or (pt_cmpR op_isNU (pv 1) pe_non (nomark _)) (pw_or1 (pt_cmpR (op_eqK (K := K) rfl hr) (pv 1) pe_str (nomark _))))) (pss_one (ps_ret (pe_tup (pa_cons pe_int (pa_cons pe_int pa_nil))))) pss_nil) (pss_cons (ps_if (pt_cmpR (op_eqK (K := K) rfl hr) (pe_ix (ix_K (K := K) rfl) (pv 0) pe_int (fun _ _ => rfl)) pe_str (nomark _)) (pss_one (ps_ret (pe_ix (ix_K (K := K) rfl) (pe_lst (pa_cons (pe_tup (pa_cons pe_int (pa_cons pe_int pa_nil))) (pa_cons (pe_tup (pa_cons pe_int (pa_cons pe_int pa_nil))) pa_nil))) (pe_callTy call_intU (by rfl) T.n_int (by decide +kernel) (pa_cons (pe_cmpR (op_eqK (K := K) rfl hr) (pv 1) pe_str (nomark _)) pa_nil)) (fun _ _ => rfl)))) pss_nil) (pss_one (ps_ret (pe_ix (ix_K (K := K) rfl) (pe_lst (pa_cons (pe_tup (pa_cons pe_int (pa_cons pe_int pa_nil))) (pa_cons (pe_ix (ix_K (K := K) rfl) (pv 0) pe_int (fun _ _ => rfl)) pa_nil))) (pe_callTy call_intU (by rfl) T.n_int (by decide +kernel) (pa_cons (pe_cmpR (op_eqK (K := K) rfl hr) (pe_ix (ix_K (K := K) rfl) (pv 0) pe_int (fun _ _ => rfl)) pe_str (nomark _)) pa_nil)) (fun _ _ => rfl))))))), ?_⟩
    obtain ⟨p, c, m, rfl, ⟨k, f, g, s, hp, hf, hg, rfl, hc⟩, mq, kk⟩ := h
    have ev : Cm.value c m = Cm.valueOf c m := if_neg mq
    rw [ev] at kk
    walk_at "go"
    refine Cm.k_eqM ?_
    have d1 : Str.ofString "ann" ≠ Str.ofString "" := by decide +kernel
    have d2 : Str.ofString "bo" ≠ Str.ofString "" := by decide +kernel
    have d3 : Str.ofString "bo" ≠ Str.ofString "ann" := by decide +kernel
    have kb : Str.ofString "beats" ≠ Str.ofString "under" := by decide +kernel
    have ko : Str.ofString "over" ≠ Str.ofString "under" := by decide +kernel
    have kob : Str.ofString "over" ≠ Str.ofString "beats" := by decide +kernel
    have kub : Str.ofString "under" ≠ Str.ofString "beats" := by decide +kernel
    walk_at "go"
    refine k_if (fun c1 => ?_) (fun c1 => ?_)
    · subst c1
      walk_at "go"
      refine k_ixT hp (v := .ref g) rfl ?_
      walk_at "go"
      refine k_tupx (fun o H1 no s1 ho => ?_) (by simp [sizeLine_eq])
      walk_at "go"
      refine k_lstx (fun l H2 nl s2 hl => ?_) (by simp [sizeLine_eq])
      walk_at "go"
      have s02 := s1.trans s2
      refine k_ixT (seqT_same s02 hp) (v := .str (Cm.kindOf c)) rfl ?_
      walk_at "go"
      have zero : SqT K H2 o (Fr.fq 0) := by rw [Cm.fq0]; exact seqT_same s2 (SqT.of ho)
      have d1' : ¬ (some (Str.ofString "ann") = none ∨ some (Str.ofString "ann") = some (Str.ofString "")) := fun z => by
        rcases z with z | z
        · cases z
        · exact d1 (Option.some.inj z)
      cases c with
      | claim => exact hc.elim
      | beats a b =>
        obtain ⟨rfl, rfl⟩ := hc
        rw [show decide (Cm.kindOf (.beats (Str.ofString "ann") (Str.ofString "bo")) = Str.ofString "under") = false from decide_eq_false kb]
        refine k_ixL (SqL.of hl) (v := .ref g) rfl ?_
        refine kk g H2 s02 ?_
        rw [val_beats, if_pos rfl]
        exact seqT_same s02 hg
      | over a b =>
        obtain ⟨rfl, rfl⟩ := hc
        rw [show decide (Cm.kindOf (.over (Str.ofString "ann") b) = Str.ofString "under") = false from decide_eq_false ko]
        refine k_ixL (SqL.of hl) (v := .ref g) rfl ?_
        refine kk g H2 s02 ?_
        rw [val_over, if_neg d1', if_pos rfl]
        exact seqT_same s02 hg
      | under a b =>
        obtain ⟨rfl, rfl⟩ := hc
        rw [show decide (Cm.kindOf (.under (Str.ofString "ann") b) = Str.ofString "under") = true from decide_eq_true rfl]
        refine k_ixL (SqL.of hl) (v := .ref o) rfl ?_
        refine kk o H2 s02 ?_
        rw [val_under, if_neg d1', if_pos rfl]
        exact zero
    have half : (m = none ∨ m = some (Str.ofString "")) → Cm.valueOf c m = 1/2 := fun h => by
      cases c with
      | claim => exact hc.elim
      | beats a b =>
        obtain ⟨rfl, rfl⟩ := hc
        rw [val_beats, if_neg c1, if_neg (fun z => by
          rcases h with h | h
          · rw [h] at z; cases z
          · rw [h] at z; exact d2 (Option.some.inj z).symm)]
      | over a b => rw [val_over, if_pos h]
      | under a b => rw [val_under, if_pos h]
    have ret : (m = none ∨ m = some (Str.ofString "")) → ∀ o H', Same H H' → H' o = some (.tup [.int 1, .int 2]) → Q (.ref o) H' := fun h o H' s' ho => by
      refine kk o H' s' ?_
      rw [half h, Cm.fqh]
      exact SqT.of ho
    walk_at "go"
    rw [Cm.dec_non]
    by_cases h0 : m = none
    · rw [decide_eq_true h0]
      walk_at "go"
      refine k_tupx (fun o H1 no s1 ho => ?_) (by simp [sizeLine_eq])
      exact ret (.inl h0) o H1 s1 ho
    rw [decide_eq_false h0]
    walk_at "go"
    refine Cm.k_eqM ?_
    walk_at "go"
    refine k_if (fun h1 => ?_) (fun h1 => ?_)
    · walk_at "go"
      refine k_tupx (fun o H1 no s1 ho => ?_) (by simp [sizeLine_eq])
      exact ret (.inr h1) o H1 s1 ho
    have nh : ¬ (m = none ∨ m = some (Str.ofString "")) := fun z => z.elim h0 h1
    walk_at "go"
    refine k_ixT hp (v := .str (Cm.kindOf c)) rfl ?_
    walk_at "go"
    have rest : Cm.kindOf c ≠ Str.ofString "beats" → (∀ (o : Addr) H', Same H H' → H' o = some (.tup [.int 0, .int 1]) → Cm.kindOf c = Str.ofString "over" → Q (.ref o) H') := fun _ o H' s' ho hk => by
      refine kk o H' s' ?_
      cases c with
      | claim => exact hc.elim
      | beats a b => exact absurd hk (show Str.ofString "beats" ≠ Str.ofString "over" by decide +kernel)
      | under a b => exact absurd hk (show Str.ofString "under" ≠ Str.ofString "over" by decide +kernel)
      | over a b =>
        obtain ⟨rfl, rfl⟩ := hc
        rw [val_over, if_neg nh, if_neg c1, Cm.fq0]
        exact SqT.of ho
    refine k_if (fun hk => ?_) (fun hk => ?_)
    · walk_at "go"
      refine k_tupx (fun o1 H1 no1 s1 ho1 => ?_) (by simp [sizeLine_eq])
      walk_at "go"
      refine k_tupx (fun o2 H2 no2 s2 ho2 => ?_) (by simp [sizeLine_eq])
      walk_at "go"
      refine k_lstx (fun l H3 nl s3 hl => ?_) (by simp [sizeLine_eq])
      walk_at "go"
      refine Cm.k_eqM ?_
      walk_at "go"
      cases c with
      | claim => exact hc.elim
      | over a b => exact absurd hk kob
      | under a b => exact absurd hk kub
      | beats a b =>
        obtain ⟨rfl, rfl⟩ := hc
        by_cases hb : m = some (Str.ofString "bo")
        · rw [decide_eq_true hb]
          refine k_ixL (SqL.of hl) (v := .ref o2) rfl ?_
          refine kk o2 H3 (s1.trans (s2.trans s3)) ?_
          rw [val_beats, if_neg c1, if_pos hb, Cm.fq0]
          exact seqT_same s3 (SqT.of ho2)
        · rw [decide_eq_false hb]
          refine k_ixL (SqL.of hl) (v := .ref o1) rfl ?_
          refine kk o1 H3 (s1.trans (s2.trans s3)) ?_
          rw [val_beats, if_neg c1, if_neg hb, Cm.fqh]
          exact seqT_same (s2.trans s3) (SqT.of ho1)
    walk_at "go"
    refine k_tupx (fun o1 H1 no1 s1 ho1 => ?_) (by simp [sizeLine_eq])
    walk_at "go"
    refine k_ixT (seqT_same s1 hp) (v := .ref g) rfl ?_
    walk_at "go"
    refine k_lstx (fun l H2 nl s2 hl => ?_) (by simp [sizeLine_eq])
    walk_at "go"
    have s02 := s1.trans s2
    refine k_ixT (seqT_same s02 hp) (v := .str (Cm.kindOf c)) rfl ?_
    walk_at "go"
    cases c with
    | claim => exact hc.elim
    | beats a b => exact absurd rfl hk
    | over a b =>
      rw [show decide (Cm.kindOf (.over a b) = Str.ofString "under") = false from decide_eq_false ko]
      refine k_ixL (SqL.of hl) (v := .ref o1) rfl ?_
      exact rest kob o1 H2 s02 (s2 _ _ ho1) rfl
    | under a b =>
      obtain ⟨rfl, rfl⟩ := hc
      rw [show decide (Cm.kindOf (.under (Str.ofString "ann") b) = Str.ofString "under") = true from decide_eq_true rfl]
      refine k_ixL (SqL.of hl) (v := .ref g) rfl ?_
      refine kk g H2 s02 ?_
      rw [val_under, if_neg nh, if_neg c1]
      exact seqT_same s02 hg
end
end Lw
namespace Lw
open PySem PySem.Spec PyProof.Rows L2 Gx LamX NdefX
section
variable {P : Program} {w : World} {K : PySem.W.Frag} {mg : Str → Option Value} {base : Heap} {f : Addr} {fd : FuncData}
theorem ok__law_told (F : FnP K "_law_told" "_law_told" s__law_told f fd) (T : Txt K mg) (c_draws_alike : Cl P w K mg base 10 "draws_alike" ["claim", "marks", "rule", "limit", "again"] (sp_draws_alike K)) : FnOk P w K mg base (L2.CX P w) 11 f fd ["_law_claim_here", "_law_marks_here", "_law_rule_here", "_law_limit_here", "_law_again"] (sp__law_told K) := by
  refine F.ok sc__law_told (fun vs H Q E h => ?_) (fun cdv A outer s H vs Q E hr h => ?_)
  · obtain ⟨w, p, ra, lp, c, ms, x, R, b, rfl, _⟩ := h; rfl
  · refine ⟨_, (pss_cons (ps_set (i := 5) sc__law_told.nd rfl (Or.inl rfl) pe_non) (pss_cons (ps_try_as (i := 6) rfl rfl sc__law_told.nd rfl rfl ⟨rfl, by decide, Or.inl T.g_SureError⟩ (takes_of rfl rfl rfl rfl) (fun W pn xe tk po => (pss_one (ps_set (i := 5) sc__law_told.nd rfl (Or.inl rfl) (pcall c_draws_alike hr (by first | decide | omega) tk (pa_cons (pv 0) (pa_cons (pv 1) (pa_cons (pv 2) (pa_cons (pv 3) (pa_cons (pv 4) pa_nil))))))))) (fun a oe cls d pn hz hf => (pss_cons (ps_set (i := 7) sc__law_told.nd rfl (Or.inl rfl) (pe_lst (pa_cons (pe_callB (call_isEU hz hf) (by rfl) T.n_isinstance (by decide +kernel) (pa_cons (pv 6) (pa_cons (C8.pe_gc (v := .ref (He.ga K "Ended")) (by rfl) T.c_Ended) pa_nil))) (pa_cons (pe_callB (call_isEU hz hf) (by rfl) T.n_isinstance (by decide +kernel) (pa_cons (pv 6) (pa_cons (C8.pe_gc (v := .ref (He.ga K "NoNumber")) (by rfl) T.c_NoNumber) pa_nil))) (pa_cons (pe_callB (call_isEU hz hf) (by rfl) T.n_isinstance (by decide +kernel) (pa_cons (pv 6) (pa_cons (C8.pe_gc (v := .ref (He.ga K "NoOutcome")) (by rfl) T.c_NoOutcome) pa_nil))) pa_nil))))) (pss_cons (ps_set (i := 5) sc__law_told.nd rfl (Or.inl rfl) pe_str) (pss_one (ps_if (PW.pt (pw_and (pt_val (pe_callB (call_isEU hz hf) (by rfl) T.n_isinstance (by decide +kernel) (pa_cons (pv 6) (pa_cons (C8.pe_gc (v := .ref (He.ga K "NoMargin")) (by rfl) T.c_NoMargin) pa_nil)))) (pw_and (pt_val (pe_callB (call_isEU hz hf) (by rfl) T.n_isinstance (by decide +kernel) (pa_cons (pv 6) (pa_cons (pe_bltn (v := .ty "ValueError") (by rfl) T.n_ValueError (by decide +kernel) rfl) pa_nil)))) (pw_and1 (pt_cmpR (op_niK (K := K) rfl) pe_bl (pv 7) (by with_unfolding_all rfl)))))) (pss_one (ps_set (i := 5) sc__law_told.nd rfl (Or.inl rfl) pe_str)) pss_nil)))))) (pss_one (ps_ret (pv 5))))), ?_⟩
    obtain ⟨w, p, ra, lp, c, ms, x, R, b, rfl, hw, ok, hp, l1, l2, hra, okR, hlp, sx, x0, kk⟩ := h
    walk_at "go"
    refine ⟨w, p, ra, lp, c, ms, x, R, b, rfl, hw, ok, hp, l1, l2, hra, okR, hlp, sx, x0, fun nh H3 s3 => ?_, fun yh H3 s3 => ?_⟩
    · refine ⟨true, T.m_NoMargin_SureError, fun _ b' nb => ?_, fun z => (nomatch z)⟩
      walk_at "go"
      refine k_isE T.e_NoMargin T.i_NoMargin_Ended (fun _ h => h) ?_
      walk_at "go"
      refine k_isE T.e_NoMargin T.i_NoMargin_NoNumber (fun _ h => h) ?_
      walk_at "go"
      refine k_isE T.e_NoMargin T.i_NoMargin_NoOutcome (fun _ h => h) ?_
      walk_at "go"
      refine k_lstx (fun l1' G1 nl1 g1 hl1 => ?_) (by simp [sizeLine_eq])
      walk_at "go"
      refine k_isE T.e_NoMargin T.i_NoMargin_NoMargin (fun _ h => h) ?_
      walk_at "go"
      refine k_isE T.e_NoMargin T.i_NoMargin_ValueError (fun _ h => h) ?_
      walk_at "go"
      refine k_ni0 (b := false) (.inl (SqL.of hl1)) rfl rfl rfl ?_
      walk_at "go"
      have := kk G1 (s3.trans g1)
      unfold dueV at this
      rw [decide_eq_false nh, if_neg (by decide)] at this
      exact this
    · walk_at "go"
      have := kk H3 s3
      unfold dueV at this
      rw [decide_eq_true yh, if_pos rfl] at this
      exact this
end
end Lw
namespace Lw
open PySem PySem.Spec PyProof.Rows L2 Gx LamX NdefX
section
variable {P : Program} {w : World} {K : PySem.W.Frag} {mg : Str → Option Value} {base : Heap} {f : Addr} {fd : FuncData}
theorem ok__law_due (F : FnP K "_law_due" "_law_due" s__law_due f fd) (T : Txt K mg) (c__law_turn : Cl P w K mg base 5 "_law_turn" ["_law_values", "_law_many", "_law_top", "_law_rule_here", "_law_limit_here", "_law_again"] (sp__law_turn K)) (c__law_product : Cl P w K mg base 3 "_law_product" ["_law_x", "_law_y"] (sp__law_product K)) (c__law_made : Cl P w K mg base 2 "_law_made" ["_law_a", "_law_b"] (sp__law_made K)) (c__law_sum : Cl P w K mg base 3 "_law_sum" ["_law_x", "_law_y"] (sp__law_sum K)) (c__law_value : Cl P w K mg base 1 "_law_value" ["_law_claim_here", "_law_mark"] (sp__law_value K)) : FnOk P w K mg base (L2.CX P w) 6 f fd ["_law_claim_here", "_law_marks_here", "_law_rule_here", "_law_limit_here", "_law_again"] (sp__law_due K) := by
  refine F.ok sc__law_due (fun vs H Q E h => ?_) (fun cdv A outer s H vs Q E hr h => ?_)
  · obtain ⟨p, u, rp, lp, c, ms, x, R, b, rfl, _⟩ := h; rfl
  · refine ⟨_, (pss_cons (ps_set (i := 5) sc__law_due.nd rfl (Or.inl rfl) (pe_callB (callK (K := K) (r := rLenU) rfl call_lenU) (by rfl) T.n_len (by decide +kernel) (pa_cons (pv 1) pa_nil))) (pss_cons (ps_set (i := 6) sc__law_due.nd rfl (Or.inl rfl) (pe_tup (pa_cons pe_int (pa_cons pe_int pa_nil)))) (pss_cons (ps_for (passes_of rfl) rfl (pi_seqU (pv 1)) (pg_name (i := 7) sc__law_due.nd rfl (Or.inl rfl)) (pss_one (ps_set (i := 6) sc__law_due.nd rfl (Or.inl rfl) (pcall c__law_sum hr (by first | decide | omega) (takes_of rfl rfl rfl rfl) (pa_cons (pv 6) (pa_cons (pcall c__law_value hr (by first | decide | omega) (takes_of rfl rfl rfl rfl) (pa_cons (pv 0) (pa_cons (pv 7) pa_nil))) pa_nil)))))) (pss_cons (ps_if (pt_cmpR op_le (pe_op (op_mulK (K := K) rfl) pe_int (pe_ix (ix_K (K := K) rfl) (pv 6) pe_int (fun _ _ => rfl))) (pe_op (op_mulK (K := K) rfl) (pv 5) (pe_ix (ix_K (K := K) rfl) (pv 6) pe_int (fun _ _ => rfl))) (nomark _)) (pss_one (ps_ret pe_str)) pss_nil) (pss_cons (ps_set (i := 8) sc__law_due.nd rfl (Or.inl rfl) (pcall c__law_made hr (by first | decide | omega) (takes_of rfl rfl rfl rfl) (pa_cons (pe_op op_sub (pe_op (op_mulK (K := K) rfl) pe_int (pe_ix (ix_K (K := K) rfl) (pv 6) pe_int (fun _ _ => rfl))) (pe_op (op_mulK (K := K) rfl) (pv 5) (pe_ix (ix_K (K := K) rfl) (pv 6) pe_int (fun _ _ => rfl)))) (pa_cons (pe_op (op_mulK (K := K) rfl) (pv 5) (pe_ix (ix_K (K := K) rfl) (pv 6) pe_int (fun _ _ => rfl))) pa_nil)))) (pss_cons (ps_set (i := 9) sc__law_due.nd rfl (Or.inl rfl) (pcall c__law_made hr (by first | decide | omega) (takes_of rfl rfl rfl rfl) (pa_cons (pe_op (op_mulK (K := K) rfl) (pe_ix (ix_K (K := K) rfl) (pv 8) pe_int (fun _ _ => rfl)) (pe_ix (ix_K (K := K) rfl) (pe_ix (ix_K (K := K) rfl) (pv 0) pe_int (fun _ _ => rfl)) pe_int (fun _ _ => rfl))) (pa_cons (pe_op (op_mulK (K := K) rfl) (pe_ix (ix_K (K := K) rfl) (pv 8) pe_int (fun _ _ => rfl)) (pe_ix (ix_K (K := K) rfl) (pe_ix (ix_K (K := K) rfl) (pv 0) pe_int (fun _ _ => rfl)) pe_int (fun _ _ => rfl))) pa_nil)))) (pss_cons (ps_set (i := 10) sc__law_due.nd rfl (Or.inl rfl) (pcall c__law_made hr (by first | decide | omega) (takes_of rfl rfl rfl rfl) (pa_cons (pe_op op_sub (pe_op (op_mulK (K := K) rfl) pe_int (pe_ix (ix_K (K := K) rfl) (pv 9) pe_int (fun _ _ => rfl))) (pe_ix (ix_K (K := K) rfl) (pv 9) pe_int (fun _ _ => rfl))) (pa_cons (pe_ix (ix_K (K := K) rfl) (pv 9) pe_int (fun _ _ => rfl)) pa_nil)))) (pss_cons (ps_set (i := 11) sc__law_due.nd rfl (Or.inl rfl) pe_int) (C8.pss_cut (ps_if (pt_not (pt_val (pv 4))) (pss_one (ps_set (i := 11) sc__law_due.nd rfl (Or.inl rfl) (pv 5))) pss_nil) (pss_cons (ps_set (i := 12) sc__law_due.nd rfl (Or.inl rfl) (pe_tup (pa_cons (pe_ix (ix_K (K := K) rfl) (pv 10) pe_int (fun _ _ => rfl)) (pa_cons (pe_ix (ix_K (K := K) rfl) (pv 10) pe_int (fun _ _ => rfl)) pa_nil)))) (pss_one (ps_ret (pcall c__law_turn hr (by first | decide | omega) (takes_of rfl rfl rfl rfl) (pa_cons (pe_op (op_mulK (K := K) rfl) (pe_lst (pa_cons (pcall c__law_made hr (by first | decide | omega) (takes_of rfl rfl rfl rfl) (pa_cons (pe_ix (ix_K (K := K) rfl) (pv 12) pe_int (fun _ _ => rfl)) (pa_cons (pe_ix (ix_K (K := K) rfl) (pv 12) pe_int (fun _ _ => rfl)) pa_nil))) pa_nil)) (pv 11)) (pa_cons (pv 5) (pa_cons (pcall c__law_product hr (by first | decide | omega) (takes_of rfl rfl rfl rfl) (pa_cons (pe_tup (pa_cons pe_int (pa_cons pe_int pa_nil))) (pa_cons (pv 12) pa_nil))) (pa_cons (pv 2) (pa_cons (pv 3) (pa_cons (pv 4) pa_nil))))))))))))))))))), ?_⟩
    obtain ⟨p, u, rp, lp, c, ms, x, R, b, rfl, hcg, ok, hu, l1, l2, nq, hrp, okR, hlp, sx, kk⟩ := h
    walk_at "go"
    refine k_lenL ?_ (SqL.of hu)
    rw [List.length_map]
    walk_at "go"
    refine k_tupx (fun v0 H1 nv0 s1 hv0 => ?_) (by simp [sizeLine_eq])
    walk_at "go"
    have hu1 := s1 _ _ hu
    refine k_itUL (SqL.of hu1) ?_
    refine k_loopL (fun i σ H' => ∃ (va : Addr) (t7 : Option V), σ = [some (.ref p), some (.ref u), some (.ref rp), some (.ref lp), some (.bl b), some (.int (ms.length : Nat)), some (.ref va), t7, none, none, none, none, none] ∧ Same H1 H' ∧ SqT K H' va (Fr.fq (sum ((ms.take i).map (Cm.value c)))))
      ⟨v0, _, rfl, Same.refl _, by show SqT K H1 v0 (Fr.fq 0); rw [Cm.fq0]; exact SqT.of hv0⟩ (fun i σ H' _ ⟨_, _, _, s, _⟩ => SqL.of (s _ _ hu1)) ?_ ?_
    · rintro i y σ H2 hy ⟨va, t7, rfl, s2, hva⟩
      obtain ⟨m, hm, rfl⟩ := Cm.get_map hy
      have z1 := sum30 ok (ms := ms.take i) (by rw [List.length_take]; omega)
      walk_at "go"
      refine ⟨p, c, m, rfl, hcg.imm (imm_same (s1.trans s2)), nq m (List.mem_of_getElem? hm), fun r H3 s3 hr => ?_⟩
      walk_at "go"
      refine sum_fq (seqT_same s3 hva) hr z1 (Cm.sz_value c ok m) (by decide) (fun r2 H4 s4 hr2 _ => ?_)
      rw [← Wy.sum_snoc hm] at hr2
      exact ⟨r2, _, rfl, s2.trans (s3.trans s4), hr2⟩
    rintro σ H2 ⟨va, t7, rfl, s2, hva⟩
    rw [List.length_map, List.take_length] at hva
    have zs := sum30 ok l2
    have nb : ((ms.length : Nat) : Int).natAbs < 2 ^ 6 := by show _ < 64; omega
    have s02 := s1.trans s2
    walk_at "go"
    refine k_ixT hva (v := .int _) rfl ?_
    walk_at "go"
    refine k_mulB (m := 2) (by decide) zs.1 (by decide) ?_
    walk_at "go"
    refine k_ixT hva (v := .int _) rfl ?_
    walk_at "go"
    refine k_mulB nb zs.den (by decide) ?_
    walk_at "go"
    have hh : Cm.holds c ms ↔ ((ms.length : Nat) : Int) * ((sum (ms.map (Cm.value c))).den : Int) < 2 * (sum (ms.map (Cm.value c))).num := Wy.half_lt
    refine k_if (fun ci => ?_) (fun ci => ?_)
    · walk_at "go"
      have := kk H2 s02
      unfold dueV at this
      rw [decide_eq_false (fun z => by have := hh.mp z; omega), if_neg (by decide)] at this
      exact this
    have yes : Cm.holds c ms := hh.mpr (by omega)
    unfold dueV at kk
    rw [decide_eq_true yes, if_pos rfl] at kk
    have zm := marg_sz ok l1 l2
    have gz := Cm.sz_greatest ok
    have gpos := Wy.g_pos ok
    have gn := Cm.num_pos gpos
    have spos := Wy.scale_pos ok l1
    have sn := Cm.num_pos spos
    have zsc := scale_sz ok l1 l2
    obtain ⟨kd, f, g, s', hp, hf, hg, _, _⟩ := hcg
    walk_at "go"
    refine k_ixT hva (v := .int _) rfl ?_
    walk_at "go"
    refine k_mulB (m := 2) (by decide) zs.1 (by decide) ?_
    walk_at "go"
    refine k_ixT hva (v := .int _) rfl ?_
    walk_at "go"
    refine k_mulB nb zs.den (by decide) ?_
    walk_at "go"
    refine k_ixT hva (v := .int _) rfl ?_
    walk_at "go"
    refine k_mulB nb zs.den (by decide) ?_
    walk_at "go"
    have d1 : 0 < ((ms.length : Nat) : Int) * ((sum (ms.map (Cm.value c))).den : Int) := Int.mul_pos (by omega) (Fr.den_pos _)
    refine ⟨_, _, rfl, by omega, okd_den (by omega) (Fr.mul_lt nb zs.den) (by decide), fun mp H3 s3 hmp => ?_⟩
    rw [Wy.margin_eq c l1] at hmp
    have hmp : SqT K H3 mp (Fr.fq (marg c ms)) := hmp
    have s03 := s02.trans s3
    walk_at "go"
    refine k_ixT hmp (v := .int _) rfl ?_
    walk_at "go"
    refine k_ixT (seqT_same s03 hp) (v := .ref g) rfl ?_
    walk_at "go"
    refine k_ixT (seqT_same s03 hg) (v := .int _) rfl ?_
    refine k_mulB zm.1 gz.den (by decide) ?_
    walk_at "go"
    refine k_ixT hmp (v := .int _) rfl ?_
    walk_at "go"
    refine k_ixT (seqT_same s03 hp) (v := .ref g) rfl ?_
    walk_at "go"
    refine k_ixT (seqT_same s03 hg) (v := .int _) rfl ?_
    refine k_mulB zm.den gz.1 (by decide) ?_
    walk_at "go"
    have d2 : 0 < ((marg c ms).den : Int) * (Cm.greatest c).num := Int.mul_pos (Fr.den_pos _) gn
    refine ⟨_, _, rfl, by omega, okd_den (by omega) (Fr.mul_lt zm.den gz.1) (by decide), fun sp H4 s4 hsp => ?_⟩
    rw [Fr.div_eq] at hsp
    have zsh := zm.div gz
    have s04 := s03.trans s4
    walk_at "go"
    refine k_ixT hsp (v := .int _) rfl ?_
    refine k_mulB (m := 2) (by decide) zsh.den (by decide) ?_
    walk_at "go"
    refine k_ixT hsp (v := .int _) rfl ?_
    walk_at "go"
    refine k_ixT hsp (v := .int _) rfl ?_
    walk_at "go"
    refine ⟨_, _, rfl, by have := Fr.den_pos (marg c ms / Cm.greatest c); omega, okd_den (by have := Fr.den_pos (marg c ms / Cm.greatest c); omega) zsh.den (by decide), fun lf H5 s5 hlf => ?_⟩
    rw [two_sub_form] at hlf
    have hlf : SqT K H5 lf (Fr.fq (Wy.scale c ms)) := hlf
    have s05 := s04.trans s5
    refine k_gn ?_
    dsimp only
    walk_at "go"
    refine k_cut (fun σ H' => H' = H5 ∧ σ = [some (.ref p), some (.ref u), some (.ref rp), some (.ref lp), some (.bl b), some (.int (ms.length : Nat)), some (.ref va), t7, some (.ref mp), some (.ref sp), some (.ref lf), some (.int (alN ms b : Nat)), none]) ?_ ?_
    · cases eb : b with
      | true =>
        walk_at "go"
        exact ⟨rfl, rfl⟩
      | false =>
        walk_at "go"
        refine ⟨rfl, ?_⟩
        rw [show alN ms false = ms.length from Nat.min_eq_right l2]
        rfl
    rintro σ H6 ⟨rfl, rfl⟩
    have n60 := alN_le (ms := ms) (b := b)
    walk_at "go"
    refine k_ixT hlf (v := .int _) rfl ?_
    walk_at "go"
    refine k_ixT hlf (v := .int _) rfl ?_
    walk_at "go"
    refine k_tupx (fun wh H7 nwh s7 hwh => ?_) (by simp [sizeLine_eq])
    walk_at "go"
    refine k_ixT (SqT.of hwh) (v := .int _) rfl ?_
    walk_at "go"
    refine k_ixT (SqT.of hwh) (v := .int _) rfl ?_
    walk_at "go"
    refine ⟨_, _, rfl, by omega, okd_den (by omega) zsc.1 (by decide), fun av H8 s8 hav => ?_⟩
    rw [inv_form] at hav
    have hav : SqT K H8 av (Fr.fq (alv c ms)) := hav
    walk_at "go"
    refine k_lstx (fun q1 H9 nq1 s9 hq1 => ?_) (by simp [sizeLine_eq])
    walk_at "go"
    refine k_mulR hq1 (by rw [sizeLine_eq, List.length_singleton]; omega) (fun q2 G1 nq2 g1 hq2 => ?_)
    rw [show ((alN ms b : Nat) : Int).toNat = alN ms b by omega, Wy.rep1] at hq2
    walk_at "go"
    refine k_tupx (fun tw G2 ntw g2 htw => ?_) (by simp [sizeLine_eq])
    walk_at "go"
    have s72 := s8.trans (s9.trans (g1.trans g2))
    refine ⟨tw, wh, 2, 1, _, _, 2, 57, rfl, SqT.of htw, seqT_same s72 (SqT.of hwh), by decide, by decide, zsc.den, zsc.1, by decide, okd_den (n := 57) (by omega) (by rw [Int.one_mul]; exact zsc.1) (by decide), by decide, by omega, fun tp G3 g3 htp _ => ?_⟩
    rw [inv_form] at htp
    have htp : SqT K G3 tp (Fr.fq (Rat.divInt 2 1 * alv c ms)) := htp
    rw [alt_form] at htp
    have g23 := g2.trans g3
    have s53 := s7.trans (s72.trans g3)
    walk_at "go"
    refine ⟨q2, tp, rp, lp, _, _, ms.length, (alv c ms).den, b, alt c ms, x, R, PA, rfl, SqL.of (g23 _ _ hq2), fqs_rep (seqT_same (s9.trans (g1.trans g23)) hav) _, htp, hrp.same (s02.trans (s3.trans ((s4.trans s5).trans s53))), seqT_same (s02.trans (s3.trans ((s4.trans s5).trans s53))) hlp, sx, al_std ok l1 l2 okR, fun q hq => by rw [List.eq_of_mem_replicate hq]; exact al_vok ok l1 l2, fun e => by rw [List.length_replicate]; exact alN_few e, by rw [List.length_replicate]; exact n60, fun G4 g4 => ?_⟩
    walk_at "go"
    exact kk G4 ((s02.trans (s3.trans ((s4.trans s5).trans s53))).trans g4)
end
end Lw
namespace Lw
open PySem PySem.Spec PyProof.Rows L2 Gx LamX NdefX
section
variable {P : Program} {w : World} {K : PySem.W.Frag} {mg : Str → Option Value} {base : Heap} {f : Addr} {fd : FuncData}
theorem ok_law (F : FnP K "law" "law" s_law f fd) (T : Txt K mg) (c__law_told : Cl P w K mg base 11 "_law_told" ["_law_claim_here", "_law_marks_here", "_law_rule_here", "_law_limit_here", "_law_again"] (sp__law_told K)) (c__law_rule_of : Cl P w K mg base 3 "_law_rule_of" ["_law_rule_here"] (sp__law_rule_of K)) (c__law_claim_of : Cl P w K mg base 3 "_law_claim_of" ["_law_claim_here"] (sp__law_claim_of K)) (c__law_due : Cl P w K mg base 6 "_law_due" ["_law_claim_here", "_law_marks_here", "_law_rule_here", "_law_limit_here", "_law_again"] (sp__law_due K)) (c__law_marks : Cl P w K mg base 1 "_law_marks" ["_law_deck_here", "_law_claim_here"] (sp__law_marks K)) (c__law_limit : Cl P w K mg base 3 "_law_limit" ["_law_deck_here"] (sp__law_limit K)) (c__law_rule : Cl P w K mg base 4 "_law_rule" ["_law_deck_here"] (sp__law_rule K)) (c__law_claim : Cl P w K mg base 3 "_law_claim" ["_law_deck_here"] (sp__law_claim K)) (c__law_deck : Cl P w K mg base 2 "_law_deck" ["_law_script", "_law_most"] (sp__law_deck K)) : FnOk P w K mg base CX0 12 f fd ["_law_script"] (sp_law K) := by
  refine F.ok sc_law (fun vs H Q E h => ?_) (fun cdv A outer s H vs Q E hr h => ?_)
  · obtain ⟨a, ns, rfl, _⟩ := h; rfl
  · refine ⟨_, PSs.nox (pss_cons (ps_set (i := 1) sc_law.nd rfl (Or.inl rfl) (pcallN c__law_deck hr (by first | decide | omega) (pa_cons (pv 0) (pa_cons pe_int pa_nil)))) (pss_cons (ps_set (i := 2) sc_law.nd rfl (Or.inl rfl) (pcallN c__law_claim hr (by first | decide | omega) (pa_cons (pv 1) pa_nil))) (pss_cons (ps_set (i := 3) sc_law.nd rfl (Or.inl rfl) (pcallN c__law_rule hr (by first | decide | omega) (pa_cons (pv 1) pa_nil))) (pss_cons (ps_set (i := 4) sc_law.nd rfl (Or.inl rfl) (pcallN c__law_limit hr (by first | decide | omega) (pa_cons (pv 1) pa_nil))) (pss_cons (ps_set (i := 5) sc_law.nd rfl (Or.inl rfl) (pe_cmpR (op_eqK (K := K) rfl hr) (pe_op op_modN (pe_bm0K (K := K) rfl PySem.F.plainAttrs_list PySem.F.slot_list_pop PySem.F.type_list_pop mt_pop (pv 1)) pe_int) pe_int (nomark _))) (pss_cons (ps_set (i := 6) sc_law.nd rfl (Or.inl rfl) (pcallN c__law_marks hr (by first | decide | omega) (pa_cons (pv 1) (pa_cons (pv 2) pa_nil)))) (pss_cons (ps_set (i := 7) sc_law.nd rfl (Or.inl rfl) (pcallN c__law_due hr (by first | decide | omega) (pa_cons (pv 2) (pa_cons (pv 6) (pa_cons (pv 3) (pa_cons (pv 4) (pa_cons (pv 5) pa_nil))))))) (pss_cons (ps_set (i := 8) sc_law.nd rfl (Or.inl rfl) (pcallN c__law_told hr (by first | decide | omega) (pa_cons (pcallN c__law_claim_of hr (by first | decide | omega) (pa_cons (pv 2) pa_nil)) (pa_cons (pe_callTy (callK (K := K) (r := rTupV) rfl call_tupV) (by rfl) T.n_tuple (by decide +kernel) (pa_cons (pv 6) pa_nil)) (pa_cons (pcallN c__law_rule_of hr (by first | decide | omega) (pa_cons (pv 3) pa_nil)) (pa_cons (pv 4) (pa_cons (pv 5) pa_nil))))))) (pss_one (ps_ret (pe_and (pe_cmpR (op_eqK (K := K) rfl hr) (pv 8) (pv 7) (nomark _)) (pe_one (pe_not (pe_callB (callK (K := K) (r := rIsi) rfl call_isi) (by rfl) T.n_isinstance (by decide +kernel) (pa_cons (pv 8) (pa_cons (pe_bltn (v := .ty "bool") (by rfl) T.n_bool (by decide +kernel) rfl) pa_nil)))))))))))))))), ?_⟩
    obtain ⟨a, ns, rfl, hS, hl, tab, kk⟩ := h
    walk_at "go"
    refine ⟨a, ns, 110, rfl, hS, hl, by decide, fun l ds H1 s1 nl hl1 hn hd => ?_⟩
    walk_at "go"
    refine ⟨l, ds, rfl, hl1, hd, by omega, fun p c d1 H2 b2 hl2 dk2 n2 hcg ok => ?_⟩
    walk_at "go"
    refine ⟨l, d1, rfl, hl2, dk2, by omega, fun rp R d2 H3 b3 hl3 dk3 n3 hrp okR => ?_⟩
    walk_at "go"
    refine ⟨l, d2, rfl, hl3, dk3, by omega, fun lp x d3 H4 b4 hl4 dk4 n4 hlp x0 x1 sx => ?_⟩
    obtain ⟨d4, e4, ed4, dk5, e40, e41, n5⟩ := deck_last dk4 (by omega)
    rw [ed4] at hl4
    walk_at "go"
    refine k_pop hl4 (fun H5 b5 hl5 => ?_)
    have im25 := imm_but (b3.trans (b4.trans b5)) hl2
    have im35 := imm_but (b4.trans b5) hl3
    have im45 := imm_but b5 hl4
    walk_at "go"
    generalize hbb : decide (e4 % 2 = 1) = b
    refine ⟨l, p, c, d4, rfl, hl5, dk5, by omega, hcg.imm im25, fun u ms H6 kp im6 hu l1 l2 mq => ?_⟩
    have s16 : Same H H6 := fun q o h => by
      have n : q ≠ l := fun z => by subst z; rw [nl] at h; cases h
      exact kp _ _ n (b5 _ _ n (b4 _ _ n (b3 _ _ n (b2 _ _ n (s1 _ _ h)))))
    have hcg6 := (hcg.imm im25).imm im6
    have hrp6 := (hrp.imm im35).imm im6
    have hlp6 := seqT_imm im6 (seqT_imm im45 hlp)
    walk_at "go"
    refine ⟨p, u, rp, lp, c, ms, x, R, b, rfl, hcg6, ok, hu, l1, l2, mq, hrp6, okR, hlp6, sx.mono (by decide), fun H7 s7 => ?_⟩
    walk_at "go"
    refine ⟨p, c, rfl, hcg6.imm (imm_same s7), fun w H8 s8 hw => ?_⟩
    have s68 := s7.trans s8
    walk_at "go"
    refine k_tupL (SqL.of (s68 _ _ hu)) (fun t H9 nt s9 ht => ?_)
    have s69 := s68.trans s9
    walk_at "go"
    refine ⟨rp, R, rfl, hrp6.same s69, tab.same (s16.trans s69), fun ra G1 e1 t1 hra => ?_⟩
    have hw1 : Cm.At K G1 w c := at_ext e1 (hw.same s9)
    walk_at "go"
    refine ⟨w, t, ra, lp, c, ms, x, R, b, rfl, hw1, ok, seqT_imm (imm_ext e1) (SqT.of ht), l1, l2, hra, okR, seqT_imm ((imm_same s69).trans (imm_ext e1)) hlp6, sx.mono (by decide), x0, fun G2 g2 => ?_⟩
    walk_at "go"
    obtain ⟨d, hd', sh⟩ := dp_due (K := K) (H := G2) _ (due_kinds c ms x R b)
    refine k_eqD hd' hd' ?_ (sh.ok) (sh.ok)
    rw [Dt.refl sh]
    have kinds := due_kinds c ms x R b
    generalize dueV c ms x R b = v at kinds ⊢
    walk_at "go"
    rcases kinds with rfl | ⟨k, rfl⟩ | rfl
    · refine k_isi (.ty "bool") (.base .non) (kit_ty (r := false) (by decide +kernel)) ?_
      walk_at "go"
      exact kk G2
    · refine k_isi (.ty "bool") (.base (.int _)) (kit_ty (r := false) (by decide +kernel)) ?_
      walk_at "go"
      exact kk G2
    · refine k_isi (.ty "bool") (.base (.str _)) (kit_ty (r := false) (by decide +kernel)) ?_
      walk_at "go"
      exact kk G2
end
end Lw
namespace Lw
open PySem PySem.Spec PyProof.Rows L2 Gx
theorem facts {P : Program} {w : World} {K : PySem.W.Frag} {h : Heap} {mg : Str → Option Value} {f : Addr} (X : K.In h) (G : h.Ns mainGlobals mg) (hfa : mg ("law" : Str) = some (.ref f)) (c : He.SaysD fa fn K) (tb : TabsOk tf K h) (cx : (exl.all fun f => f K) = true) :
    ∃ fd : FuncData, (∀ (s : Shared) (v : Value), BindsTo s fd ⟨[v], []⟩ [("_law_script", v)]) ∧ ∀ base : Heap, K.In base → base.Ns mainGlobals mg → (∀ p ∈ tf, LamX.TabB base mg (He.cT K p).1 (He.cT K p).2) → FnOk P w K mg base CX0 12 f fd ["_law_script"] (sp_law K) := by
  obtain ⟨fd0, F0⟩ := c.def_ 0 (d := d_NoStake___init__) rfl
  obtain ⟨fd1, F1⟩ := c.def_ 1 (d := d_is_whole) rfl
  obtain ⟨fd2, F2⟩ := c.def_ 2 (d := d_in_common) rfl
  obtain ⟨fd3, F3⟩ := c.def_ 3 (d := d_lowest) rfl
  obtain ⟨fd4, F4⟩ := c.def_ 4 (d := d_plus) rfl
  obtain ⟨fd5, F5⟩ := c.def_ 5 (d := d_minus) rfl
  obtain ⟨fd6, F6⟩ := c.def_ 6 (d := d_times) rfl
  obtain ⟨fd7, F7⟩ := c.def_ 7 (d := d_over) rfl
  obtain ⟨fd8, F8⟩ := c.def_ 8 (d := d_total) rfl
  obtain ⟨fd9, F9⟩ := c.def_ 9 (d := d_below) rfl
  obtain ⟨fd10, F10⟩ := c.def_ 10 (d := d_is_fraction) rfl
  obtain ⟨fd11, F11⟩ := c.def_ 11 (d := d_Game___init__) rfl
  obtain ⟨fd12, F12⟩ := c.def_ 12 (d := d_Game_ended) rfl
  obtain ⟨fd13, F13⟩ := c.def_ 13 (d := d_Game_price) rfl
  obtain ⟨fd14, F14⟩ := c.def_ 14 (d := d_Game_worth_behind) rfl
  obtain ⟨fd15, F15⟩ := c.def_ 15 (d := d_Game_play) rfl
  obtain ⟨fd16, F16⟩ := c.def_ 16 (d := d_Game_reached) rfl
  obtain ⟨fd17, F17⟩ := c.def_ 17 (d := d_Way___init__) rfl
  obtain ⟨fd18, F18⟩ := c.def_ 18 (d := d_Comparing___init__) rfl
  obtain ⟨fd19, F19⟩ := c.def_ 19 (d := d_Comparing_value) rfl
  obtain ⟨fd20, F20⟩ := c.def_ 20 (d := d_Comparing_top) rfl
  obtain ⟨fd21, F21⟩ := c.def_ 21 (d := d_draws_alike) rfl
  obtain ⟨fd22, F22⟩ := c.def_ 22 (d := d_Claim_value) rfl
  obtain ⟨fd23, F23⟩ := c.def_ 23 (d := d_Claim_value_of) rfl
  obtain ⟨fd24, F24⟩ := c.def_ 24 (d := d_Claim_greatest) rfl
  obtain ⟨fd25, F25⟩ := c.def_ 25 (d := d_Claim_holds) rfl
  obtain ⟨fd26, F26⟩ := c.def_ 26 (d := d_Beats___init__) rfl
  obtain ⟨fd27, F27⟩ := c.def_ 27 (d := d_Beats_value_of) rfl
  obtain ⟨fd28, F28⟩ := c.def_ 28 (d := d_Beats_greatest) rfl
  obtain ⟨fd29, F29⟩ := c.def_ 29 (d := d_Over___init__) rfl
  obtain ⟨fd30, F30⟩ := c.def_ 30 (d := d_Over_value_of) rfl
  obtain ⟨fd31, F31⟩ := c.def_ 31 (d := d_Over_greatest) rfl
  obtain ⟨fd32, F32⟩ := c.def_ 32 (d := d_Under___init__) rfl
  obtain ⟨fd33, F33⟩ := c.def_ 33 (d := d_Under_value_of) rfl
  obtain ⟨fd34, F34⟩ := c.def_ 34 (d := d_Under_greatest) rfl
  obtain ⟨fd35, F35⟩ := c.def_ 35 (d := d_within) rfl
  obtain ⟨fd36, F36⟩ := c.def_ 36 (d := d_Rule_stake) rfl
  obtain ⟨fd37, F37⟩ := c.def_ 37 (d := d_Fixed___init__) rfl
  obtain ⟨fd38, F38⟩ := c.def_ 38 (d := d_Fixed_stake) rfl
  obtain ⟨fd39, F39⟩ := c.def_ 39 (d := d_Learning___init__) rfl
  obtain ⟨fd40, F40⟩ := c.def_ 40 (d := d_Learning_stake) rfl
  obtain ⟨fd41, F41⟩ := c.def_ 41 (d := d_Asked___init__) rfl
  obtain ⟨fd42, F42⟩ := c.def_ 42 (d := d_Asked_stake) rfl
  obtain ⟨fd43, F43⟩ := c.def_ 43 (d := d__law_digits) rfl
  obtain ⟨fd44, F44⟩ := c.def_ 44 (d := d__law_deck) rfl
  obtain ⟨fd45, F45⟩ := c.def_ 45 (d := d__law_common) rfl
  obtain ⟨fd46, F46⟩ := c.def_ 46 (d := d__law_made) rfl
  obtain ⟨fd47, F47⟩ := c.def_ 47 (d := d__law_less) rfl
  obtain ⟨fd48, F48⟩ := c.def_ 48 (d := d__law_sum) rfl
  obtain ⟨fd49, F49⟩ := c.def_ 49 (d := d__law_product) rfl
  obtain ⟨fd50, F50⟩ := c.def_ 50 (d := d__law_stake) rfl
  obtain ⟨fd51, F51⟩ := c.def_ 51 (d := d__law_turn) rfl
  obtain ⟨fd52, F52⟩ := c.def_ 52 (d := d__law_part) rfl
  obtain ⟨fd53, F53⟩ := c.def_ 53 (d := d__law_rule) rfl
  obtain ⟨fd54, F54⟩ := c.def_ 54 (d := d__law_rule_of) rfl
  obtain ⟨fd55, F55⟩ := c.def_ 55 (d := d__law_limit) rfl
  obtain ⟨fd56, F56⟩ := c.def_ 56 (d := d__law_claim) rfl
  obtain ⟨fd57, F57⟩ := c.def_ 57 (d := d__law_claim_of) rfl
  obtain ⟨fd58, F58⟩ := c.def_ 58 (d := d__law_marks) rfl
  obtain ⟨fd59, F59⟩ := c.def_ 59 (d := d__law_value) rfl
  obtain ⟨fd60, F60⟩ := c.def_ 60 (d := d__law_told) rfl
  obtain ⟨fd61, F61⟩ := c.def_ 61 (d := d__law_due) rfl
  obtain ⟨fd62, F62⟩ := c.def_ 62 (d := d_law) rfl
  have T : Txt K mg := { n_ValueError := He.free_ok X G (c.fact 0 rfl), n_abs := He.free_ok X G (c.fact 1 rfl), n_bool := He.free_ok X G (c.fact 2 rfl), n_int := He.free_ok X G (c.fact 3 rfl), n_isinstance := He.free_ok X G (c.fact 4 rfl), n_len := He.free_ok X G (c.fact 5 rfl), n_list := He.free_ok X G (c.fact 6 rfl), n_max := He.free_ok X G (c.fact 7 rfl), n_min := He.free_ok X G (c.fact 8 rfl), n_range := He.free_ok X G (c.fact 9 rfl), n_tuple := He.free_ok X G (c.fact 10 rfl), c_Ended := ⟨_, He.glo_ok X G (c.fact 11 rfl), rfl⟩, c_HALF := ⟨_, He.glo_ok X G (c.fact 12 rfl), rfl⟩, c_MOST_DRAWS := (let ⟨_, h⟩ := He.int_ok X G (c.fact 13 rfl); ⟨_, h, _, rfl⟩), c_NOUGHT_claims := ⟨_, He.glo_ok X G (c.fact 14 rfl), rfl⟩, c_NOUGHT_games := ⟨_, He.glo_ok X G (c.fact 15 rfl), rfl⟩, c_NOUGHT_rules := ⟨_, He.glo_ok X G (c.fact 16 rfl), rfl⟩, c_NOUGHT_ways := ⟨_, He.glo_ok X G (c.fact 17 rfl), rfl⟩, c_NoFraction := ⟨_, He.glo_ok X G (c.fact 18 rfl), rfl⟩, c_NoMargin := ⟨_, He.glo_ok X G (c.fact 19 rfl), rfl⟩, c_NoNumber := ⟨_, He.glo_ok X G (c.fact 20 rfl), rfl⟩, c_NoOutcome := ⟨_, He.glo_ok X G (c.fact 21 rfl), rfl⟩, c_ONE_claims := ⟨_, He.glo_ok X G (c.fact 22 rfl), rfl⟩, c_ONE_games := ⟨_, He.glo_ok X G (c.fact 23 rfl), rfl⟩, c_ONE_rules := ⟨_, He.glo_ok X G (c.fact 24 rfl), rfl⟩, c_ONE_ways := ⟨_, He.glo_ok X G (c.fact 25 rfl), rfl⟩, c_TWO := ⟨_, He.glo_ok X G (c.fact 26 rfl), rfl⟩, cl_Game := He.cls_ok (c.fact 27 rfl), f_Game_many := He.noat_ok (c.fact 28 rfl), f_Game_again := He.noat_ok (c.fact 29 rfl), f_Game_highest := He.noat_ok (c.fact 30 rfl), f_Game_rule := He.noat_ok (c.fact 31 rfl), f_Game_drawn_values := He.noat_ok (c.fact 32 rfl), f_Game_sum_so_far := He.noat_ok (c.fact 33 rfl), f_Game_now := He.noat_ok (c.fact 34 rfl), f_Game_most := He.noat_ok (c.fact 35 rfl), f_Game_certain := He.noat_ok (c.fact 36 rfl), cl_Asked := He.cls_ok (c.fact 37 rfl), f_Asked_function := He.noat_ok (c.fact 38 rfl), cl_Learning := He.cls_ok (c.fact 39 rfl), f_Learning_guess := He.noat_ok (c.fact 40 rfl), f_Learning_weight := He.noat_ok (c.fact 41 rfl), cl_Fixed := He.cls_ok (c.fact 42 rfl), f_Fixed_part := He.noat_ok (c.fact 43 rfl), cl_Rule := He.cls_ok (c.fact 44 rfl), cl_Under := He.cls_ok (c.fact 45 rfl), f_Under_name := He.noat_ok (c.fact 46 rfl), f_Under_share := He.noat_ok (c.fact 47 rfl), cl_Over := He.cls_ok (c.fact 48 rfl), f_Over_name := He.noat_ok (c.fact 49 rfl), f_Over_share := He.noat_ok (c.fact 50 rfl), cl_Beats := He.cls_ok (c.fact 51 rfl), f_Beats_one := He.noat_ok (c.fact 52 rfl), f_Beats_other := He.noat_ok (c.fact 53 rfl), cl_Claim := He.cls_ok (c.fact 54 rfl), cl_Way := He.cls_ok (c.fact 55 rfl), f_Way_claim := He.noat_ok (c.fact 56 rfl), cl_Comparing := He.cls_ok (c.fact 57 rfl), f_Comparing_told := He.noat_ok (c.fact 58 rfl), f_Comparing_scale := He.noat_ok (c.fact 59 rfl), f_Comparing_claim := He.noat_ok (c.fact 60 rfl), me_Game_ended := He.meth_ok (c.fact 61 rfl), me_Asked_stake := He.meth_ok (c.fact 62 rfl), me_Learning_stake := He.meth_ok (c.fact 63 rfl), me_Fixed_stake := He.meth_ok (c.fact 64 rfl), me_Rule_stake := He.meth_ok (c.fact 65 rfl), me_Game_price := He.meth_ok (c.fact 66 rfl), me_Game_worth_behind := He.meth_ok (c.fact 67 rfl), me_Under_greatest := He.meth_ok (c.fact 68 rfl), me_Over_greatest := He.meth_ok (c.fact 69 rfl), me_Beats_greatest := He.meth_ok (c.fact 70 rfl), me_Claim_greatest := He.meth_ok (c.fact 71 rfl), me_Under_value := (show He.ma K (He.ga K "Under") "value" = He.ma K (He.ga K "Claim") "value" from of_decide_eq_true (xat cx 3 rfl)) ▸ He.meth_ok (c.fact 72 rfl), me_Over_value := (show He.ma K (He.ga K "Over") "value" = He.ma K (He.ga K "Claim") "value" from of_decide_eq_true (xat cx 4 rfl)) ▸ He.meth_ok (c.fact 73 rfl), me_Beats_value := (show He.ma K (He.ga K "Beats") "value" = He.ma K (He.ga K "Claim") "value" from of_decide_eq_true (xat cx 5 rfl)) ▸ He.meth_ok (c.fact 74 rfl), me_Claim_value := He.meth_ok (c.fact 75 rfl), me_Under_holds := (show He.ma K (He.ga K "Under") "holds" = He.ma K (He.ga K "Claim") "holds" from of_decide_eq_true (xat cx 6 rfl)) ▸ He.meth_ok (c.fact 76 rfl), me_Over_holds := (show He.ma K (He.ga K "Over") "holds" = He.ma K (He.ga K "Claim") "holds" from of_decide_eq_true (xat cx 7 rfl)) ▸ He.meth_ok (c.fact 77 rfl), me_Beats_holds := (show He.ma K (He.ga K "Beats") "holds" = He.ma K (He.ga K "Claim") "holds" from of_decide_eq_true (xat cx 8 rfl)) ▸ He.meth_ok (c.fact 78 rfl), me_Claim_holds := He.meth_ok (c.fact 79 rfl), gs_Way___init__ := He.glo_ok X G (c.fact 80 rfl), me_Game_reached := He.meth_ok (c.fact 81 rfl), me_Game_play := He.meth_ok (c.fact 82 rfl), me_Comparing_value := He.meth_ok (c.fact 83 rfl), mk_Game := He.mkr_ok (c.fact 84 rfl), gk_Game := He.glo_ok X G (c.fact 85 rfl), me_Comparing_top := He.meth_ok (c.fact 86 rfl), mk_Comparing := He.mkr_ok (c.fact 87 rfl), gk_Comparing := He.glo_ok X G (c.fact 88 rfl), me_Under_value_of := He.meth_ok (c.fact 89 rfl), me_Over_value_of := He.meth_ok (c.fact 90 rfl), me_Beats_value_of := He.meth_ok (c.fact 91 rfl), me_Claim_value_of := He.meth_ok (c.fact 92 rfl), mk_Fixed := He.mkr_ok (c.fact 93 rfl), gk_Fixed := He.glo_ok X G (c.fact 94 rfl), mk_Asked := He.mkr_ok (c.fact 95 rfl), gk_Asked := He.glo_ok X G (c.fact 96 rfl), mk_Learning := He.mkr_ok (c.fact 97 rfl), gk_Learning := He.glo_ok X G (c.fact 98 rfl), mk_Under := He.mkr_ok (c.fact 99 rfl), gk_Under := He.glo_ok X G (c.fact 100 rfl), mk_Over := He.mkr_ok (c.fact 101 rfl), gk_Over := He.glo_ok X G (c.fact 102 rfl), mk_Beats := He.mkr_ok (c.fact 103 rfl), gk_Beats := He.glo_ok X G (c.fact 104 rfl), g_Ended := He.glo_ok X G (c.fact 105 rfl), g_NoFraction := He.glo_ok X G (c.fact 106 rfl), g_NoMargin := He.glo_ok X G (c.fact 107 rfl), g_NoStake := He.glo_ok X G (c.fact 108 rfl), g_Rule := He.glo_ok X G (c.fact 109 rfl), g_SureError := He.glo_ok X G (c.fact 110 rfl), m_NoMargin_SureError := He.exm_ok (c.fact 111 rfl), f_NoStake_turn := He.noat_ok (c.fact 112 rfl), x_Ended := He.exc_ok (c.fact 113 rfl), x_NoFraction := He.exc_ok (c.fact 114 rfl), x_NoMargin := He.exc_ok (c.fact 115 rfl), o_NoStake := oexB_ok (xat cx 0 rfl), oi_NoStake := oinB_ok (xat cx 1 rfl), su_Way___init__ := supmB_ok (xat cx 2 rfl), mb_Rule := mbB_ok (xat cx 9 rfl), t_HALF := fun H => He.tupB_ok (xat cx 10 rfl) H, t_NOUGHT_claims := fun H => He.tupB_ok (xat cx 11 rfl) H, t_NOUGHT_games := fun H => He.tupB_ok (xat cx 12 rfl) H, t_NOUGHT_rules := fun H => He.tupB_ok (xat cx 13 rfl) H, t_NOUGHT_ways := fun H => He.tupB_ok (xat cx 14 rfl) H, t_ONE_claims := fun H => He.tupB_ok (xat cx 15 rfl) H, t_ONE_games := fun H => He.tupB_ok (xat cx 16 rfl) H, t_ONE_rules := fun H => He.tupB_ok (xat cx 17 rfl) H, t_ONE_ways := fun H => He.tupB_ok (xat cx 18 rfl) H, t_TWO := fun H => He.tupB_ok (xat cx 19 rfl) H, s_SureError := supB_ok (xat cx 20 rfl), e_NoMargin := excB_ok (xat cx 21 rfl), i_NoMargin_Ended := of_decide_eq_true (xat cx 22 rfl), i_NoMargin_NoMargin := of_decide_eq_true (xat cx 23 rfl), i_NoMargin_NoNumber := of_decide_eq_true (xat cx 24 rfl), i_NoMargin_NoOutcome := of_decide_eq_true (xat cx 25 rfl), i_NoMargin_ValueError := of_decide_eq_true (xat cx 26 rfl) }
  have g_is_whole := He.glo_ok X G (c.fact 116 (f := .glo "is_whole") rfl)
  have g_in_common := He.glo_ok X G (c.fact 117 (f := .glo "in_common") rfl)
  have g_lowest := He.glo_ok X G (c.fact 118 (f := .glo "lowest") rfl)
  have g_plus := He.glo_ok X G (c.fact 119 (f := .glo "plus") rfl)
  have g_minus := He.glo_ok X G (c.fact 120 (f := .glo "minus") rfl)
  have g_times := He.glo_ok X G (c.fact 121 (f := .glo "times") rfl)
  have g_over := He.glo_ok X G (c.fact 122 (f := .glo "over") rfl)
  have g_total := He.glo_ok X G (c.fact 123 (f := .glo "total") rfl)
  have g_below := He.glo_ok X G (c.fact 124 (f := .glo "below") rfl)
  have g_is_fraction := He.glo_ok X G (c.fact 125 (f := .glo "is_fraction") rfl)
  have g_draws_alike := He.glo_ok X G (c.fact 126 (f := .glo "draws_alike") rfl)
  have g_within := He.glo_ok X G (c.fact 127 (f := .glo "within") rfl)
  have g__law_digits := He.glo_ok X G (c.fact 128 (f := .glo "_law_digits") rfl)
  have g__law_deck := He.glo_ok X G (c.fact 129 (f := .glo "_law_deck") rfl)
  have g__law_common := He.glo_ok X G (c.fact 130 (f := .glo "_law_common") rfl)
  have g__law_made := He.glo_ok X G (c.fact 131 (f := .glo "_law_made") rfl)
  have g__law_less := He.glo_ok X G (c.fact 132 (f := .glo "_law_less") rfl)
  have g__law_sum := He.glo_ok X G (c.fact 133 (f := .glo "_law_sum") rfl)
  have g__law_product := He.glo_ok X G (c.fact 134 (f := .glo "_law_product") rfl)
  have g__law_stake := He.glo_ok X G (c.fact 135 (f := .glo "_law_stake") rfl)
  have g__law_turn := He.glo_ok X G (c.fact 136 (f := .glo "_law_turn") rfl)
  have g__law_part := He.glo_ok X G (c.fact 137 (f := .glo "_law_part") rfl)
  have g__law_rule := He.glo_ok X G (c.fact 138 (f := .glo "_law_rule") rfl)
  have g__law_rule_of := He.glo_ok X G (c.fact 139 (f := .glo "_law_rule_of") rfl)
  have g__law_limit := He.glo_ok X G (c.fact 140 (f := .glo "_law_limit") rfl)
  have g__law_claim := He.glo_ok X G (c.fact 141 (f := .glo "_law_claim") rfl)
  have g__law_claim_of := He.glo_ok X G (c.fact 142 (f := .glo "_law_claim_of") rfl)
  have g__law_marks := He.glo_ok X G (c.fact 143 (f := .glo "_law_marks") rfl)
  have g__law_value := He.glo_ok X G (c.fact 144 (f := .glo "_law_value") rfl)
  have g__law_told := He.glo_ok X G (c.fact 145 (f := .glo "_law_told") rfl)
  have g__law_due := He.glo_ok X G (c.fact 146 (f := .glo "_law_due") rfl)
  have g_law := He.glo_ok X G (c.fact 147 (f := .glo "law") rfl)
  have e := hfa.symm.trans g_law
  cases e
  have b := FunD.bindsA (ps := ["_law_script"]) F62 fun _ _ _ _ _ _ us hl => match us, hl with | [_], _ => rfl
  refine ⟨fd62, fun s v => b s [v] rfl, fun base _ _ hTB => ?_⟩
  have c_NoStake___init__ : XCl P w K mg base 1 "NoStake" ["self", "turn"] (sp_NoStake___init__ K) := ⟨fd0, T.o_NoStake, T.oi_NoStake.1, T.oi_NoStake.2, ok_NoStake___init__ F0 T, T.g_NoStake, F0.bindsN fun _ _ _ _ _ _ us hl => match us, hl with | [_, _], _ => rfl⟩
  have c_is_whole : Cl P w K mg base 1 "is_whole" ["thing"] (sp_is_whole K) := ⟨_, fd1, ok_is_whole F1 T , g_is_whole, F1.kp, F1.bindsN fun _ _ _ _ _ _ us hl => match us, hl with | [_], _ => rfl⟩
  have c_in_common : Cl P w K mg base 1 "in_common" ["a", "b"] (sp_in_common K) := ⟨_, fd2, ok_in_common F2 T , g_in_common, F2.kp, F2.bindsN fun _ _ _ _ _ _ us hl => match us, hl with | [_, _], _ => rfl⟩
  have c_below : Cl P w K mg base 1 "below" ["x", "y"] (sp_below K) := ⟨_, fd9, ok_below F9 T , g_below, F9.kp, F9.bindsN fun _ _ _ _ _ _ us hl => match us, hl with | [_, _], _ => rfl⟩
  have O_Game___init__ := ok_Game___init__ (P := P) (w := w) (mg := mg) (base := base) F11 T 
  have k_Game : KCl P w K mg base 1 "Game" ["self", "many", "again", "top", "rule"] (sp_Game___init__ K) := ⟨_, fd11, T.mk_Game, O_Game___init__, T.gk_Game, F11.bindsN fun _ _ _ _ _ _ us hl => match us, hl with | [_, _, _, _, _], _ => rfl⟩
  have O_Game_ended := ok_Game_ended (P := P) (w := w) (mg := mg) (base := base) F12 T 
  have m_Game_ended : MCl P w K mg base 1 "Game" "ended" ["self"] (sp_Game_ended K) := ⟨_, fd12, T.cl_Game, T.me_Game_ended, O_Game_ended, F12.bindsN fun _ _ _ _ _ _ us hl => match us, hl with | [_], _ => rfl⟩
  have O_Way___init__ := ok_Way___init__ (P := P) (w := w) (mg := mg) (base := base) F17 T 
  have s_Way___init__ : SCl P w K mg base 1 "Way" "__init__" ["self", "claim"] (sp_Way___init__ K) := ⟨_, fd17, T.su_Way___init__.1, T.su_Way___init__.2.1, T.su_Way___init__.2.2, O_Way___init__, T.gs_Way___init__, F17.bindsN fun _ _ _ _ _ _ us hl => match us, hl with | [_, _], _ => rfl⟩
  have O_Claim_value_of := ok_Claim_value_of (P := P) (w := w) (mg := mg) (base := base) F23 T 
  have m_Claim_value_of : MCl P w K mg base 1 "Claim" "value_of" ["self", "mark"] (sp_Claim_value_of K) := ⟨_, fd23, T.cl_Claim, T.me_Claim_value_of, O_Claim_value_of, F23.bindsN fun _ _ _ _ _ _ us hl => match us, hl with | [_, _], _ => rfl⟩
  have O_Claim_greatest := ok_Claim_greatest (P := P) (w := w) (mg := mg) (base := base) F24 T 
  have m_Claim_greatest : MCl P w K mg base 1 "Claim" "greatest" ["self"] (sp_Claim_greatest K) := ⟨_, fd24, T.cl_Claim, T.me_Claim_greatest, O_Claim_greatest, F24.bindsN fun _ _ _ _ _ _ us hl => match us, hl with | [_], _ => rfl⟩
  have O_Beats___init__ := ok_Beats___init__ (P := P) (w := w) (mg := mg) (base := base) F26 T 
  have k_Beats : KCl P w K mg base 1 "Beats" ["self", "one", "other"] (sp_Beats___init__ K) := ⟨_, fd26, T.mk_Beats, O_Beats___init__, T.gk_Beats, F26.bindsN fun _ _ _ _ _ _ us hl => match us, hl with | [_, _, _], _ => rfl⟩
  have O_Beats_value_of := ok_Beats_value_of (P := P) (w := w) (mg := mg) (base := base) F27 T 
  have m_Beats_value_of : MCl P w K mg base 1 "Beats" "value_of" ["self", "mark"] (sp_Beats_value_of K) := ⟨_, fd27, T.cl_Beats, T.me_Beats_value_of, O_Beats_value_of, F27.bindsN fun _ _ _ _ _ _ us hl => match us, hl with | [_, _], _ => rfl⟩
  have O_Beats_greatest := ok_Beats_greatest (P := P) (w := w) (mg := mg) (base := base) F28 T 
  have m_Beats_greatest : MCl P w K mg base 1 "Beats" "greatest" ["self"] (sp_Beats_greatest K) := ⟨_, fd28, T.cl_Beats, T.me_Beats_greatest, O_Beats_greatest, F28.bindsN fun _ _ _ _ _ _ us hl => match us, hl with | [_], _ => rfl⟩
  have O_Over___init__ := ok_Over___init__ (P := P) (w := w) (mg := mg) (base := base) F29 T 
  have k_Over : KCl P w K mg base 1 "Over" ["self", "name", "share"] (sp_Over___init__ K) := ⟨_, fd29, T.mk_Over, O_Over___init__, T.gk_Over, F29.bindsN fun _ _ _ _ _ _ us hl => match us, hl with | [_, _, _], _ => rfl⟩
  have O_Under___init__ := ok_Under___init__ (P := P) (w := w) (mg := mg) (base := base) F32 T 
  have k_Under : KCl P w K mg base 1 "Under" ["self", "name", "share"] (sp_Under___init__ K) := ⟨_, fd32, T.mk_Under, O_Under___init__, T.gk_Under, F32.bindsN fun _ _ _ _ _ _ us hl => match us, hl with | [_, _, _], _ => rfl⟩
  have O_Rule_stake := ok_Rule_stake (P := P) (w := w) (mg := mg) (base := base) F36 T 
  have m_Rule_stake : MCl P w K mg base 1 "Rule" "stake" ["self", "past", "price", "top"] (sp_Rule_stake K) := ⟨_, fd36, T.cl_Rule, T.me_Rule_stake, O_Rule_stake, F36.bindsN fun _ _ _ _ _ _ us hl => match us, hl with | [_, _, _, _], _ => rfl⟩
  have O_Fixed___init__ := ok_Fixed___init__ (P := P) (w := w) (mg := mg) (base := base) F37 T 
  have k_Fixed : KCl P w K mg base 1 "Fixed" ["self", "part"] (sp_Fixed___init__ K) := ⟨_, fd37, T.mk_Fixed, O_Fixed___init__, T.gk_Fixed, F37.bindsN fun _ _ _ _ _ _ us hl => match us, hl with | [_, _], _ => rfl⟩
  have O_Fixed_stake := ok_Fixed_stake (P := P) (w := w) (mg := mg) (base := base) F38 T 
  have m_Fixed_stake : MCl P w K mg base 1 "Fixed" "stake" ["self", "past", "price", "top"] (sp_Fixed_stake K) := ⟨_, fd38, T.cl_Fixed, T.me_Fixed_stake, O_Fixed_stake, F38.bindsN fun _ _ _ _ _ _ us hl => match us, hl with | [_, _, _, _], _ => rfl⟩
  have O_Learning___init__ := ok_Learning___init__ (P := P) (w := w) (mg := mg) (base := base) F39 T 
  have k_Learning : KCl P w K mg base 1 "Learning" ["self", "guess", "weight"] (sp_Learning___init__ K) := ⟨_, fd39, T.mk_Learning, O_Learning___init__, T.gk_Learning, F39.bindsN fun _ _ _ _ _ _ us hl => match us, hl with | [_, _, _], _ => rfl⟩
  have O_Asked___init__ := ok_Asked___init__ (P := P) (w := w) (mg := mg) (base := base) F41 T 
  have k_Asked : KCl P w K mg base 1 "Asked" ["self", "function"] (sp_Asked___init__ K) := ⟨_, fd41, T.mk_Asked, O_Asked___init__, T.gk_Asked, F41.bindsN fun _ _ _ _ _ _ us hl => match us, hl with | [_, _], _ => rfl⟩
  have c__law_digits : Cl P w K mg base 1 "_law_digits" ["_law_script", "_law_k"] (sp__law_digits K) := ⟨_, fd43, ok__law_digits F43 T , g__law_digits, F43.kp, F43.bindsN fun _ _ _ _ _ _ us hl => match us, hl with | [_, _], _ => rfl⟩
  have c__law_common : Cl P w K mg base 1 "_law_common" ["_law_a", "_law_b"] (sp__law_common K) := ⟨_, fd45, ok__law_common F45 T , g__law_common, F45.kp, F45.bindsN fun _ _ _ _ _ _ us hl => match us, hl with | [_, _], _ => rfl⟩
  have c__law_less : Cl P w K mg base 1 "_law_less" ["_law_x", "_law_y"] (sp__law_less K) := ⟨_, fd47, ok__law_less F47 T , g__law_less, F47.kp, F47.bindsN fun _ _ _ _ _ _ us hl => match us, hl with | [_, _], _ => rfl⟩
  have c__law_rule_of__lam : CloCl P w K mg base 1 IsF__law_rule_of__lam ["_law_past"] ["_law_parts"] (sp__law_rule_of__lam K) := ok__law_rule_of__lam T 
  have c__law_marks : Cl P w K mg base 1 "_law_marks" ["_law_deck_here", "_law_claim_here"] (sp__law_marks K) := ⟨_, fd58, ok__law_marks F58 T , g__law_marks, F58.kp, F58.bindsN fun _ _ _ _ _ _ us hl => match us, hl with | [_, _], _ => rfl⟩
  have c__law_value : Cl P w K mg base 1 "_law_value" ["_law_claim_here", "_law_mark"] (sp__law_value K) := ⟨_, fd59, ok__law_value F59 T , g__law_value, F59.kp, F59.bindsN fun _ _ _ _ _ _ us hl => match us, hl with | [_, _], _ => rfl⟩
  have c_lowest : Cl P w K mg base 2 "lowest" ["a", "b"] (sp_lowest K) := ⟨_, fd3, ok_lowest F3 T c_in_common, g_lowest, F3.kp, F3.bindsN fun _ _ _ _ _ _ us hl => match us, hl with | [_, _], _ => rfl⟩
  have c_is_fraction : Cl P w K mg base 2 "is_fraction" ["thing"] (sp_is_fraction K) := ⟨_, fd10, ok_is_fraction F10 T c_in_common c_is_whole, g_is_fraction, F10.kp, F10.bindsN fun _ _ _ _ _ _ us hl => match us, hl with | [_], _ => rfl⟩
  have c_within : Cl P w K mg base 2 "within" ["x"] (sp_within K) := ⟨_, fd35, ok_within F35 T c_below, g_within, F35.kp, F35.bindsN fun _ _ _ _ _ _ us hl => match us, hl with | [_], _ => rfl⟩
  have c__law_deck : Cl P w K mg base 2 "_law_deck" ["_law_script", "_law_most"] (sp__law_deck K) := ⟨_, fd44, ok__law_deck F44 T c__law_digits, g__law_deck, F44.kp, F44.bindsN fun _ _ _ _ _ _ us hl => match us, hl with | [_, _], _ => rfl⟩
  have c__law_made : Cl P w K mg base 2 "_law_made" ["_law_a", "_law_b"] (sp__law_made K) := ⟨_, fd46, ok__law_made F46 T c__law_common, g__law_made, F46.kp, F46.bindsN fun _ _ _ _ _ _ us hl => match us, hl with | [_, _], _ => rfl⟩
  have c_plus : Cl P w K mg base 3 "plus" ["x", "y"] (sp_plus K) := ⟨_, fd4, ok_plus F4 T c_lowest, g_plus, F4.kp, F4.bindsN fun _ _ _ _ _ _ us hl => match us, hl with | [_, _], _ => rfl⟩
  have c_minus : Cl P w K mg base 3 "minus" ["x", "y"] (sp_minus K) := ⟨_, fd5, ok_minus F5 T c_lowest, g_minus, F5.kp, F5.bindsN fun _ _ _ _ _ _ us hl => match us, hl with | [_, _], _ => rfl⟩
  have c_times : Cl P w K mg base 3 "times" ["x", "y"] (sp_times K) := ⟨_, fd6, ok_times F6 T c_lowest, g_times, F6.kp, F6.bindsN fun _ _ _ _ _ _ us hl => match us, hl with | [_, _], _ => rfl⟩
  have c_over : Cl P w K mg base 3 "over" ["x", "y"] (sp_over K) := ⟨_, fd7, ok_over F7 T c_lowest, g_over, F7.kp, F7.bindsN fun _ _ _ _ _ _ us hl => match us, hl with | [_, _], _ => rfl⟩
  have O_Asked_stake := ok_Asked_stake (P := P) (w := w) (mg := mg) (base := base) F42 T c_within c_is_fraction c_NoStake___init__ c__law_rule_of__lam
  have m_Asked_stake : MCl P w K mg base 3 "Asked" "stake" ["self", "past", "price", "top"] (sp_Asked_stake K) := ⟨_, fd42, T.cl_Asked, T.me_Asked_stake, O_Asked_stake, F42.bindsN fun _ _ _ _ _ _ us hl => match us, hl with | [_, _, _, _], _ => rfl⟩
  have c__law_sum : Cl P w K mg base 3 "_law_sum" ["_law_x", "_law_y"] (sp__law_sum K) := ⟨_, fd48, ok__law_sum F48 T c__law_made, g__law_sum, F48.kp, F48.bindsN fun _ _ _ _ _ _ us hl => match us, hl with | [_, _], _ => rfl⟩
  have c__law_product : Cl P w K mg base 3 "_law_product" ["_law_x", "_law_y"] (sp__law_product K) := ⟨_, fd49, ok__law_product F49 T c__law_made, g__law_product, F49.kp, F49.bindsN fun _ _ _ _ _ _ us hl => match us, hl with | [_, _], _ => rfl⟩
  have c__law_part : Cl P w K mg base 3 "_law_part" ["_law_deck_here"] (sp__law_part K) := ⟨_, fd52, ok__law_part F52 T c__law_made, g__law_part, F52.kp, F52.bindsN fun _ _ _ _ _ _ us hl => match us, hl with | [_], _ => rfl⟩
  have c__law_rule_of : Cl P w K mg base 3 "_law_rule_of" ["_law_rule_here"] (sp__law_rule_of K) := ⟨_, fd54, ok__law_rule_of F54 T (hTB p__law_rule_of__lam (by decide)) k_Fixed k_Asked k_Learning, g__law_rule_of, F54.kp, F54.bindsN fun _ _ _ _ _ _ us hl => match us, hl with | [_], _ => rfl⟩
  have c__law_limit : Cl P w K mg base 3 "_law_limit" ["_law_deck_here"] (sp__law_limit K) := ⟨_, fd55, ok__law_limit F55 T c__law_made, g__law_limit, F55.kp, F55.bindsN fun _ _ _ _ _ _ us hl => match us, hl with | [_], _ => rfl⟩
  have c__law_claim : Cl P w K mg base 3 "_law_claim" ["_law_deck_here"] (sp__law_claim K) := ⟨_, fd56, ok__law_claim F56 T c__law_made, g__law_claim, F56.kp, F56.bindsN fun _ _ _ _ _ _ us hl => match us, hl with | [_], _ => rfl⟩
  have c__law_claim_of : Cl P w K mg base 3 "_law_claim_of" ["_law_claim_here"] (sp__law_claim_of K) := ⟨_, fd57, ok__law_claim_of F57 T k_Under k_Over k_Beats, g__law_claim_of, F57.kp, F57.bindsN fun _ _ _ _ _ _ us hl => match us, hl with | [_], _ => rfl⟩
  have c_total : Cl P w K mg base 4 "total" ["some"] (sp_total K) := ⟨_, fd8, ok_total F8 T c_plus, g_total, F8.kp, F8.bindsN fun _ _ _ _ _ _ us hl => match us, hl with | [_], _ => rfl⟩
  have O_Game_price := ok_Game_price (P := P) (w := w) (mg := mg) (base := base) F13 T c_over c_minus c_lowest m_Game_ended
  have m_Game_price : MCl P w K mg base 4 "Game" "price" ["self"] (sp_Game_price K) := ⟨_, fd13, T.cl_Game, T.me_Game_price, O_Game_price, F13.bindsN fun _ _ _ _ _ _ us hl => match us, hl with | [_], _ => rfl⟩
  have O_Game_reached := ok_Game_reached (P := P) (w := w) (mg := mg) (base := base) F16 T c_below c_times
  have m_Game_reached : MCl P w K mg base 4 "Game" "reached" ["self", "limit"] (sp_Game_reached K) := ⟨_, fd16, T.cl_Game, T.me_Game_reached, O_Game_reached, F16.bindsN fun _ _ _ _ _ _ us hl => match us, hl with | [_, _], _ => rfl⟩
  have O_Comparing_top := ok_Comparing_top (P := P) (w := w) (mg := mg) (base := base) F20 T c_over
  have m_Comparing_top : MCl P w K mg base 4 "Comparing" "top" ["self"] (sp_Comparing_top K) := ⟨_, fd20, T.cl_Comparing, T.me_Comparing_top, O_Comparing_top, F20.bindsN fun _ _ _ _ _ _ us hl => match us, hl with | [_], _ => rfl⟩
  have O_Over_greatest := ok_Over_greatest (P := P) (w := w) (mg := mg) (base := base) F31 T c_over
  have m_Over_greatest : MCl P w K mg base 4 "Over" "greatest" ["self"] (sp_Over_greatest K) := ⟨_, fd31, T.cl_Over, T.me_Over_greatest, O_Over_greatest, F31.bindsN fun _ _ _ _ _ _ us hl => match us, hl with | [_], _ => rfl⟩
  have O_Under_greatest := ok_Under_greatest (P := P) (w := w) (mg := mg) (base := base) F34 T c_over c_minus
  have m_Under_greatest : MCl P w K mg base 4 "Under" "greatest" ["self"] (sp_Under_greatest K) := ⟨_, fd34, T.cl_Under, T.me_Under_greatest, O_Under_greatest, F34.bindsN fun _ _ _ _ _ _ us hl => match us, hl with | [_], _ => rfl⟩
  have c__law_stake : Cl P w K mg base 4 "_law_stake" ["_law_rule_here", "_law_past", "_law_price", "_law_top"] (sp__law_stake K) := ⟨_, fd50, ok__law_stake F50 T c__law_made c__law_sum c__law_product c__law_less, g__law_stake, F50.kp, F50.bindsN fun _ _ _ _ _ _ us hl => match us, hl with | [_, _, _, _], _ => rfl⟩
  have c__law_rule : Cl P w K mg base 4 "_law_rule" ["_law_deck_here"] (sp__law_rule K) := ⟨_, fd53, ok__law_rule F53 T c__law_sum c__law_part, g__law_rule, F53.kp, F53.bindsN fun _ _ _ _ _ _ us hl => match us, hl with | [_], _ => rfl⟩
  have O_Over_value_of := ok_Over_value_of (P := P) (w := w) (mg := mg) (base := base) F30 T m_Over_greatest
  have m_Over_value_of : MCl P w K mg base 5 "Over" "value_of" ["self", "mark"] (sp_Over_value_of K) := ⟨_, fd30, T.cl_Over, T.me_Over_value_of, O_Over_value_of, F30.bindsN fun _ _ _ _ _ _ us hl => match us, hl with | [_, _], _ => rfl⟩
  have O_Under_value_of := ok_Under_value_of (P := P) (w := w) (mg := mg) (base := base) F33 T m_Under_greatest
  have m_Under_value_of : MCl P w K mg base 5 "Under" "value_of" ["self", "mark"] (sp_Under_value_of K) := ⟨_, fd33, T.cl_Under, T.me_Under_value_of, O_Under_value_of, F33.bindsN fun _ _ _ _ _ _ us hl => match us, hl with | [_, _], _ => rfl⟩
  have O_Learning_stake := ok_Learning_stake (P := P) (w := w) (mg := mg) (base := base) F40 T c_within c_over c_minus c_plus c_total c_times c_below
  have m_Learning_stake : MCl P w K mg base 5 "Learning" "stake" ["self", "past", "price", "top"] (sp_Learning_stake K) := ⟨_, fd40, T.cl_Learning, T.me_Learning_stake, O_Learning_stake, F40.bindsN fun _ _ _ _ _ _ us hl => match us, hl with | [_, _, _, _], _ => rfl⟩
  have c__law_turn : Cl P w K mg base 5 "_law_turn" ["_law_values", "_law_many", "_law_top", "_law_rule_here", "_law_limit_here", "_law_again"] (sp__law_turn K) := ⟨_, fd51, ok__law_turn F51 T c__law_sum c__law_product c__law_made c__law_stake, g__law_turn, F51.kp, F51.bindsN fun _ _ _ _ _ _ us hl => match us, hl with | [_, _, _, _, _, _], _ => rfl⟩
  have O_Game_worth_behind := ok_Game_worth_behind (P := P) (w := w) (mg := mg) (base := base) F14 T c_times c_plus c_minus c_over m_Asked_stake m_Learning_stake m_Fixed_stake m_Rule_stake m_Game_price
  have m_Game_worth_behind : MCl P w K mg base 6 "Game" "worth_behind" ["self", "value"] (sp_Game_worth_behind K) := ⟨_, fd14, T.cl_Game, T.me_Game_worth_behind, O_Game_worth_behind, F14.bindsN fun _ _ _ _ _ _ us hl => match us, hl with | [_, _], _ => rfl⟩
  have O_Claim_value := ok_Claim_value (P := P) (w := w) (mg := mg) (base := base) F22 T m_Under_value_of m_Over_value_of m_Beats_value_of m_Claim_value_of
  have m_Under_value : MCl P w K mg base 6 "Under" "value" ["self", "mark"] (sp_Claim_value K) := ⟨_, fd22, T.cl_Under, T.me_Under_value, O_Claim_value, F22.bindsN fun _ _ _ _ _ _ us hl => match us, hl with | [_, _], _ => rfl⟩
  have m_Over_value : MCl P w K mg base 6 "Over" "value" ["self", "mark"] (sp_Claim_value K) := ⟨_, fd22, T.cl_Over, T.me_Over_value, O_Claim_value, F22.bindsN fun _ _ _ _ _ _ us hl => match us, hl with | [_, _], _ => rfl⟩
  have m_Beats_value : MCl P w K mg base 6 "Beats" "value" ["self", "mark"] (sp_Claim_value K) := ⟨_, fd22, T.cl_Beats, T.me_Beats_value, O_Claim_value, F22.bindsN fun _ _ _ _ _ _ us hl => match us, hl with | [_, _], _ => rfl⟩
  have m_Claim_value : MCl P w K mg base 6 "Claim" "value" ["self", "mark"] (sp_Claim_value K) := ⟨_, fd22, T.cl_Claim, T.me_Claim_value, O_Claim_value, F22.bindsN fun _ _ _ _ _ _ us hl => match us, hl with | [_, _], _ => rfl⟩
  have c__law_due : Cl P w K mg base 6 "_law_due" ["_law_claim_here", "_law_marks_here", "_law_rule_here", "_law_limit_here", "_law_again"] (sp__law_due K) := ⟨_, fd61, ok__law_due F61 T c__law_turn c__law_product c__law_made c__law_sum c__law_value, g__law_due, F61.kp, F61.bindsN fun _ _ _ _ _ _ us hl => match us, hl with | [_, _, _, _, _], _ => rfl⟩
  have O_Game_play := ok_Game_play (P := P) (w := w) (mg := mg) (base := base) F15 T c_below c_lowest c_plus m_Game_worth_behind m_Game_ended
  have m_Game_play : MCl P w K mg base 7 "Game" "play" ["self", "value"] (sp_Game_play K) := ⟨_, fd15, T.cl_Game, T.me_Game_play, O_Game_play, F15.bindsN fun _ _ _ _ _ _ us hl => match us, hl with | [_, _], _ => rfl⟩
  have O_Comparing_value := ok_Comparing_value (P := P) (w := w) (mg := mg) (base := base) F19 T c_over c_minus m_Under_greatest m_Over_greatest m_Beats_greatest m_Claim_greatest m_Under_value m_Over_value m_Beats_value m_Claim_value
  have m_Comparing_value : MCl P w K mg base 7 "Comparing" "value" ["self", "number", "mark"] (sp_Comparing_value K) := ⟨_, fd19, T.cl_Comparing, T.me_Comparing_value, O_Comparing_value, F19.bindsN fun _ _ _ _ _ _ us hl => match us, hl with | [_, _, _], _ => rfl⟩
  have O_Claim_holds := ok_Claim_holds (P := P) (w := w) (mg := mg) (base := base) F25 T c_below c_total m_Under_value m_Over_value m_Beats_value m_Claim_value c_lowest
  have m_Under_holds : MCl P w K mg base 7 "Under" "holds" ["self", "marks"] (sp_Claim_holds K) := ⟨_, fd25, T.cl_Under, T.me_Under_holds, O_Claim_holds, F25.bindsN fun _ _ _ _ _ _ us hl => match us, hl with | [_, _], _ => rfl⟩
  have m_Over_holds : MCl P w K mg base 7 "Over" "holds" ["self", "marks"] (sp_Claim_holds K) := ⟨_, fd25, T.cl_Over, T.me_Over_holds, O_Claim_holds, F25.bindsN fun _ _ _ _ _ _ us hl => match us, hl with | [_, _], _ => rfl⟩
  have m_Beats_holds : MCl P w K mg base 7 "Beats" "holds" ["self", "marks"] (sp_Claim_holds K) := ⟨_, fd25, T.cl_Beats, T.me_Beats_holds, O_Claim_holds, F25.bindsN fun _ _ _ _ _ _ us hl => match us, hl with | [_, _], _ => rfl⟩
  have m_Claim_holds : MCl P w K mg base 7 "Claim" "holds" ["self", "marks"] (sp_Claim_holds K) := ⟨_, fd25, T.cl_Claim, T.me_Claim_holds, O_Claim_holds, F25.bindsN fun _ _ _ _ _ _ us hl => match us, hl with | [_, _], _ => rfl⟩
  have O_Comparing___init__ := ok_Comparing___init__ (P := P) (w := w) (mg := mg) (base := base) F18 T c_minus c_over m_Under_greatest m_Over_greatest m_Beats_greatest m_Claim_greatest c_times c_total m_Under_value m_Over_value m_Beats_value m_Claim_value m_Under_holds m_Over_holds m_Beats_holds m_Claim_holds s_Way___init__
  have k_Comparing : KCl P w K mg base 8 "Comparing" ["self", "claim", "marks"] (sp_Comparing___init__ K) := ⟨_, fd18, T.mk_Comparing, O_Comparing___init__, T.gk_Comparing, F18.bindsN fun _ _ _ _ _ _ us hl => match us, hl with | [_, _, _], _ => rfl⟩
  have c_draws_alike : Cl P w K mg base 10 "draws_alike" ["claim", "marks", "rule", "limit", "again"] (sp_draws_alike K) := ⟨_, fd21, ok_draws_alike F21 T m_Game_reached m_Game_play m_Comparing_value k_Game m_Comparing_top k_Comparing, g_draws_alike, F21.kp, F21.bindsN fun _ _ _ _ _ _ us hl => match us, hl with | [_, _, _, _, _], _ => rfl⟩
  have c__law_told : Cl P w K mg base 11 "_law_told" ["_law_claim_here", "_law_marks_here", "_law_rule_here", "_law_limit_here", "_law_again"] (sp__law_told K) := ⟨_, fd60, ok__law_told F60 T c_draws_alike, g__law_told, F60.kp, F60.bindsN fun _ _ _ _ _ _ us hl => match us, hl with | [_, _, _, _, _], _ => rfl⟩
  exact ok_law F62 T c__law_told c__law_rule_of c__law_claim_of c__law_due c__law_marks c__law_limit c__law_rule c__law_claim c__law_deck
end Lw
open PySem PySem.W PySem.Calls PyProof.Rows
theorem PySem.Challenge.cw_surecount_k64_draws_alike_holds : PySem.Challenge.rw_surecount_k64_draws_alike.Holds := by
  w_on; o_law
  refine HandSHeadRun.head_any (r := OpenLaw.row PySem.Challenge.rw_surecount_k64_draws_alike) (q := view (OpenLaw.row PySem.Challenge.rw_surecount_k64_draws_alike).prog [70]) (H := Lw.hk) (ob := Lw.ob) (M := 12000) (loose := Lw.loose) (d := HandSHeadRun.topDef (OpenLaw.row PySem.Challenge.rw_surecount_k64_draws_alike).prog 70) (kwd := []) Lw.ob_eq
    (by kernel_rfl) (fun s => by kernel_rfl) Lw.run (by kernel_rfl) (by kernel_rfl) (by kernel_rfl) (by rfl) (by first | assumption | decide +kernel) (by decide +kernel) ⟨rfl, rfl, rfl, rfl, rfl, by decide +kernel⟩ ?hw ?hc
  case hw => w_witness2
  case hc =>
    refine LamX.walk_ofTsE (l := PySem.Challenge.rw_surecount_k64_draws_alike) (n := 63) (k := 12) (x := "_law_script") (CX := fun _ => L2.CX0) rfl (by decide) (by kernel_rfl) ⟨rfl, by decide, by decide⟩ ?F (fun _ _ _ _ _ z => z)
    case F =>
      intro w mg fa h Y G hmg0
      obtain ⟨K, KX, c⟩ := Y
      have hmg : mg ("law" : PySem.Str) = some (.ref fa) := by
        have e : (HandSHeadRun.topDef (OpenLaw.row PySem.Challenge.rw_surecount_k64_draws_alike).prog 70).name = ("law" : PySem.Str) := by kernel_rfl
        rw [← e]
        exact hmg0
      obtain ⟨fd, hb, hF⟩ := Lw.facts (P := (PySem.Challenge.rw_surecount_k64_draws_alike).prog) (w := w) KX G hmg c.1 c.2.2 c.2.1
      have tb := c.2.2
      refine ⟨K, KX, fd, Lw.tf.map (He.cT K), Lw.sp_law K, fun p hp => ?_, fun p hp => ?_, fun p hp => ?_, hb, fun H a ns hl _ hT hS => ⟨a, ns, rfl, hS, hl, Gx.TabK.nil (hT _ (List.mem_map.mpr ⟨Lw.p__law_rule_of__lam, by decide, rfl⟩)), fun _ => rfl⟩, fun base h1 h2 h3 => hF base h1 h2 fun p hp => h3 _ (List.mem_map.mpr ⟨p, hp, rfl⟩)⟩
      · obtain ⟨d, hd, rfl⟩ := List.mem_map.mp hp
        exact tb.empty d hd
      · obtain ⟨d, hd, rfl⟩ := List.mem_map.mp hp
        exact tb.out d hd
      · obtain ⟨d, hd, rfl⟩ := List.mem_map.mp hp
        exact PySem.W.codeHd_of_K KX (tb.hd d hd)
