import PyProof.Rows.All
import Wide.All
import OpenK.AllK
import Wide.FinOn
import Lean
import HandS.ForMost
import HandS.ForExc
import HandS.Wide
import HandS.WideBits
import HandS.TupAny
import HandS.TupLe
import HandS.TryOnly
import HandS.TupMul
import HandS.Deep
import HandS.IsInst
import HandS.ExcIs
import KE.KExcIs
import KE.DataFind
import KE.GoesEnum
import KE.GoesMore
import KE.KxIndex
import KE.KeyNested
import HandS.ExcInit
import HandS.ExcField
import HandS.ClsMeth
import HandS.Style
import HandS.Codes
import HandS.Conv
import HandS.SetFor
import HandS.Zip
import HandS.More
import HandS.Replace
import HandS.RevRange
import HandS.Text
import HandS.Defaults
import HandS.Small
import HandS.HeadEnd
import HandS.HeadHook1
import HandS.HeadHook2
import HandS.HeadHook3
import HandS.HeadHook4
import HandS.Head0
import HandS.Head1
import HandS.Head2
import HandS.Lambda
import HandS.Nested
import HandS.EndTab
import HandS.HeadWalk
import PySem.Challenge.RW_surecount_k35_plays_refused
set_option Elab.async false
set_option linter.all false
set_option maxRecDepth 100000
set_option maxHeartbeats 16000000
/-! ### own short words over the hand layer -/
namespace Gx
open PySem PySem.Spec PyProof.Rows L2
/-- all but l stays -/
def But (l : Addr) (H H' : Hp) : Prop := ∀ a o, a ≠ l → H a = some o → H' a = some o
theorem But.of {H H' : Hp} {l : Addr} (e : Same H H') : But l H H' := fun a o _ h => e a o h
theorem But.trans {H H1 H2 : Hp} {l : Addr} (a : But l H H1) (b : But l H1 H2) : But l H H2 := fun c o n h => b c o n (a c o n h)
theorem But.upd {H : Hp} {l : Addr} {o : HO} : But l H (upd H l o) := fun a u n h => by
  rw [upd_ne n]
  exact h
theorem same_new {H : Hp} {p : Addr} {o : HO} (h : H p = none) : Same H (upd H p o) := fun b u q => by
  rw [upd_ne (ne_of_none q h)]
  exact q
theorem But.same {H H1 H2 : Hp} {l : Addr} (n : H l = none) (a : Same H H1) (b : But l H1 H2) : Same H H2 := fun c o h => b c o (ne_of_none h n) (a c o h)
/-! ### reading facts through heaps -/
theorem up_same {H H' : Hp} (e : Same H H') {a : Addr} {o : HO} (h : H a = some o) : H' a = some o := e a o h
theorem up_but {H H' : Hp} {l : Addr} (e : But l H H') {a : Addr} {o : HO} (n : a ≠ l) (h : H a = some o) : H' a = some o := e a o n h
theorem seqL_same {K : PySem.W.Frag} {H H' : Hp} (e : Same H H') {a : Addr} {xs : List V} (h : SqL K H a xs) : SqL K H' a xs := e.seq h
theorem seqT_same {K : PySem.W.Frag} {H H' : Hp} (e : Same H H') {a : Addr} {xs : List V} (h : SqT K H a xs) : SqT K H' a xs := by
  rcases h with (h | ⟨o, h⟩) | h
  · exact .inl (.inl (e _ _ h))
  · exact .inl (.inr ⟨o, e _ _ h⟩)
  · exact .inr h
/-- tuples stay while a list changes -/
theorem seqT_but {K : PySem.W.Frag} {H H' : Hp} {l : Addr} {ys : List V} (e : But l H H') (hl : H l = some (.lst ys)) {a : Addr} {xs : List V} (h : SqT K H a xs) : SqT K H' a xs := by
  rcases h with (h | ⟨o, h⟩) | h
  · exact .inl (.inl (e _ _ (ne_of h hl (by intro z; cases z)) h))
  · exact .inl (.inr ⟨o, e _ _ (ne_of h hl (by intro z; cases z)) h⟩)
  · exact .inr h
theorem seqL_mono {K : PySem.W.Frag} {H H' : Hp} {a : Addr} {xs : List V} (h : SqL K H a xs) (e : ∀ o, H a = some o → (∀ ps, o ≠ .tbl ps) → H' a = some o) : SqL K H' a xs := by
  rcases h with (h | ⟨o, h⟩) | h
  · exact .inl (.inl (e _ h (by intro ps z; cases z)))
  · exact .inl (.inr ⟨o, e _ h (by intro ps z; cases z)⟩)
  · exact .inr h
theorem seqL_but {K : PySem.W.Frag} {H H' : Hp} {l : Addr} (e : But l H H') {a : Addr} (n : a ≠ l) {xs : List V} (h : SqL K H a xs) : SqL K H' a xs := by
  rcases h with (h | ⟨o, h⟩) | h
  · exact .inl (.inl (e _ _ n h))
  · exact .inl (.inr ⟨o, e _ _ n h⟩)
  · exact .inr h
/-! ### data through heaps -/
mutual
theorem dp_same {K : PySem.W.Frag} {H H' : Hp} (e : Same H H') : ∀ {d : PyData} {v : V}, Dp K H v d → Dp K H' v d
  | _, _, .non => .non
  | _, _, .bl b => .bl b
  | _, _, .int i => .int i
  | _, _, .str x => .str x
  | _, _, .lst h a => .lst (seqL_same e h) (dpAll_same e a)
  | _, _, .tup h a => .tup (seqT_same e h) (dpAll_same e a)
theorem dpAll_same {K : PySem.W.Frag} {H H' : Hp} (e : Same H H') : ∀ {ds : List PyData} {vs : List V}, DpAll K H vs ds → DpAll K H' vs ds
  | _, _, .nil => .nil
  | _, _, .cons a r => .cons (dp_same e a) (dpAll_same e r)
end
/-! data without lists -/
mutual
def noL : PyData → Bool
  | .list _ => false
  | .tuple ds => noLs ds
  | _ => true
def noLs : List PyData → Bool
  | [] => true
  | d :: ds => noL d && noLs ds
end
mutual
theorem dp_but {K : PySem.W.Frag} {H H' : Hp} {l : Addr} {ys : List V} (e : But l H H') (hl : H l = some (.lst ys)) : ∀ {d : PyData} {v : V}, noL d = true → Dp K H v d → Dp K H' v d
  | _, _, _, .non => .non
  | _, _, _, .bl b => .bl b
  | _, _, _, .int i => .int i
  | _, _, _, .str x => .str x
  | _, _, n, .lst h a => by simp [noL] at n
  | _, _, n, .tup h a => .tup (seqT_but e hl h) (dpAll_but e hl (by simpa [noL] using n) a)
theorem dpAll_but {K : PySem.W.Frag} {H H' : Hp} {l : Addr} {ys : List V} (e : But l H H') (hl : H l = some (.lst ys)) : ∀ {ds : List PyData} {vs : List V}, noLs ds = true → DpAll K H vs ds → DpAll K H' vs ds
  | _, _, _, .nil => .nil
  | _, _, n, .cons a r => by
    simp [noLs] at n
    exact .cons (dp_but e hl n.1 a) (dpAll_but e hl n.2 r)
end
theorem tyof_same {K : PySem.W.Frag} {H H' : Hp} (e : Same H H') {x : V} {t : Value} (h : TyOf K H x t) : TyOf K H' x t := by
  cases h with
  | non => exact .non
  | bl x => exact .bl x
  | int i => exact .int i
  | str x => exact .str x
  | flt x => exact .flt x
  | lst h => exact .lst (e _ _ h)
  | frz h => exact .frz (e _ _ h)
  | tup h => exact .tup (e _ _ h)
  | dK h => exact .dK (e _ _ h)
  | dT h => exact .dT (e _ _ h)
  | ins h cl ha hn htk hm => exact .ins (e _ _ h) cl ha hn htk hm
theorem tyx_same {K : PySem.W.Frag} {H H' : Hp} (e : Same H H') {x : V} {t : Value} (h : TyX K H x t) : TyX K H' x t := by
  cases h with
  | base h => exact .base (tyof_same e h)
  | byt b => exact .byt b
  | set h => exact .set (e _ _ h)
  | kList h c => exact .kList h c
  | kTuple h c => exact .kTuple h c
  | kDict h c => exact .kDict h c
  | fTuple h => exact .fTuple (e _ _ h)
  | fDict h => exact .fDict (e _ _ h)
/-! ### a def that may be called -/
structure Cl (P : Program) (w : World) (K : PySem.W.Frag) (mg : Str → Option Value) (base : Heap) (k : Nat) (x : Str) (ps : List Str) (sp : Sp) : Prop where
  ex : ∃ f fd, FnOk P w K mg base (L2.CX P w) k f fd ps sp ∧ mg x = some (.ref f) ∧ PySem.W.keepIn K (.ref f) = true ∧ Binds K fd ps []
section
variable {X : Cx} {W : WX} {e : Expr} {es : List Expr} {p pos : Pos} {t : TA} {x : Str} {ps : List Str} {sp : Sp} {j k : Nat}
theorem pcall (c : Cl X.prog X.w X.K X.mg X.base k x ps sp) (hr : Room j X.A) (hk : k ≤ j) (tk : Takes X W) (ha : PA X (e :: es) t) (hg : Gl X x := by rfl)
    (he : starEach (e :: es) X.env = (false, eval e X.env) :: starEach es X.env := by rfl) (hpl : (backTo pos (starEach es X.env)).any (·.1) = false := by rfl) (hdb : (x == ("__debug__" : Str)) = false := by decide) :
    PE X (.Call (.Name x p) (e :: es) [] pos) (tCallS sp (WE W) t) := by
  obtain ⟨f, fd, F, m, kp, b⟩ := c.ex
  exact pe_callS F (hr.mono hk) hg m kp b (fun σ => passAt tk σ) ha hdb he hpl
theorem pcall0 (c : Cl X.prog X.w X.K X.mg X.base k x ps sp) (hr : Room j X.A) (hk : k ≤ j) (hg : Gl X x := by rfl) (hdb : (x == ("__debug__" : Str)) = false := by decide) :
    PE X (.Call (.Name x p) [] [] pos) (tCall sp [] E0 tNil) := by
  obtain ⟨f, fd, F, m, kp, b⟩ := c.ex
  exact pe_call0 F (hr.mono hk) hg m kp b .nil passL hdb
/-- where nothing may be raised -/
theorem pcallN (c : Cl X.prog X.w X.K X.mg X.base k x ps sp) (hr : Room j X.A) (hk : k ≤ j) (ha : PA X (e :: es) t) (hg : Gl X x := by rfl)
    (he : starEach (e :: es) X.env = (false, eval e X.env) :: starEach es X.env := by rfl) (hpl : (backTo pos (starEach es X.env)).any (·.1) = false := by rfl) (hdb : (x == ("__debug__" : Str)) = false := by decide) :
    PE X (.Call (.Name x p) (e :: es) [] pos) (tCall sp [] E0 t) := by
  obtain ⟨f, fd, F, m, kp, b⟩ := c.ex
  exact pe_call F (hr.mono hk) hg m kp b .nil passL ha hdb he hpl
end
/-- a recursion: nothing is promised at 0 -/
theorem fn_void {P : Program} {w : World} {K : PySem.W.Frag} {mg : Str → Option Value} {base : Heap} {CX : CXT} {k : Nat} {f : Addr} {fd : FuncData} {ps : List Str} {sp : Sp} (h : ∀ vs H Q E, ¬ sp vs H Q E) : FnOk P w K mg base CX k f fd ps sp :=
  ⟨fun vs H Q E z => (h vs H Q E z).elim, fun _ _ _ H _ _ vs Q E _ _ _ _ z => (h vs H Q E z).elim⟩
/-! ### exceptions with fields, their own __init__ walked -/
section
def oexB (K : PySem.W.Frag) (x : Str) : Bool := (match K.lookup (He.ga K x) with
  | some ⟨.type "type", _, .cls cd, sl⟩ => (match cd.mro, sl.toList with
    | .ref C' :: bm, [_, _, _, _, some (.builtin n), _] => C' == He.ga K x && n == "ValueError.__new__" && !cd.hasDel && cd.hasDict && PySem.HandSPX.refsVE bm
    | _, _ => false)
  | _ => false) && (He.eqO (PySem.W.findIn K (.ref (He.ga K x)) "__setattr__") (some (some (.builtin "object.__setattr__"))) && (decide (PySem.W.subIn K (.ref (He.ga K x)) (.type "BaseException") = some true) && (decide (PySem.W.typeIn K (.ref (He.ga K x)) = some (.type "type")) && PySem.W.keepIn K (.ref (He.ga K x)))))
theorem oexB_ok {K : PySem.W.Frag} {x : Str} (h : oexB K x = true) : OexC K (He.ga K x) := by
  unfold oexB at h
  obtain ⟨q, h⟩ := He.ba h
  obtain ⟨h1, h⟩ := He.ba h
  obtain ⟨h2, h⟩ := He.ba h
  obtain ⟨h3, h4⟩ := He.ba h
  refine ⟨?_, He.eqO_ok h1, of_decide_eq_true h2, of_decide_eq_true h3, h4⟩
  split at q
  · rename_i dd cd sl ho
    split at q
    · rename_i C' bm k0 k1 k2 k3 n k5 hm hs
      simp only [Bool.and_eq_true, beq_iff_eq, Bool.not_eq_true'] at q
      obtain ⟨⟨⟨⟨hC, hn⟩, hdel⟩, hdc⟩, hr⟩ := q
      obtain ⟨nm, bs, mro, ns, qn, hd, sn, sub, ab, col, del⟩ := cd
      dsimp only at hm hdel hdc
      subst hm hdel hdc hC hn
      have hsl : sl = #[k0, k1, k2, k3, some (.builtin "ValueError.__new__"), k5] := by
        obtain ⟨l⟩ := sl
        simp only at hs
        rw [hs]
      subst hsl
      exact ⟨_, _, _, _, _, _, _, _, _, _, _, _, _, _, _, ho, hr⟩
    · cases q
  · cases q
/-- the own __init__ of an exception -/
def oinB (K : PySem.W.Frag) (x : Str) : Bool := He.eqO (PySem.W.findIn K (.ref (He.ga K x)) "__init__") (some (some (.ref (He.ma K (He.ga K x) "__init__")))) && decide (PySem.W.typeIn K (.ref (He.ma K (He.ga K x) "__init__")) = some (.type "function"))
theorem oinB_ok {K : PySem.W.Frag} {x : Str} (h : oinB K x = true) : PySem.W.findIn K (.ref (He.ga K x)) "__init__" = some (some (.ref (He.ma K (He.ga K x) "__init__"))) ∧ PySem.W.typeIn K (.ref (He.ma K (He.ga K x) "__init__")) = some (.type "function") := by
  obtain ⟨h1, h2⟩ := He.ba h
  exact ⟨He.eqO_ok h1, of_decide_eq_true h2⟩
/-- Base.__init__(self, ..) of an exception class that has ValueError's -/
structure SupC (K : PySem.W.Frag) (C : Addr) : Prop where
  r : ClX.CRead K C (.type "type")
  at_ : PySem.W.findCls K (.ref C) (.type "type") "__init__" = some (.val (.builtin "ValueError.__init__"))
def supB (K : PySem.W.Frag) (x : Str) : Bool := PySem.W.readsIn K (He.ga K x) (.type "type") && (He.eqO (PySem.W.specialIn K (.ref (He.ga K x)) "__getattribute__") (some (some (.builtin "type.__getattribute__"))) && (match PySem.W.findCls K (.ref (He.ga K x)) (.type "type") "__init__" with
  | some (.val (.builtin n)) => n == "ValueError.__init__"
  | _ => false))
theorem supB_ok {K : PySem.W.Frag} {x : Str} (h : supB K x = true) : SupC K (He.ga K x) := by
  obtain ⟨h1, h⟩ := He.ba h
  obtain ⟨h2, h3⟩ := He.ba h
  refine ⟨⟨h1, He.eqO_ok h2⟩, ?_⟩
  split at h3
  · rename_i n e
    rw [e, beq_iff_eq.mp h3]
  · cases h3
theorem pe_svinit {X : Cx} {n : Str} {C : Addr} {e : Expr} {es : List Expr} {ta : TA} {p1 p2 pos : Pos} {pl : Sem Bool} (S : SupC X.K C) (hg : Gl X n) (hm : X.mg n = some (.ref C)) (ha : PA X (e :: es) ta)
    (hc : eval (.Call (.Attribute (.Name n p1) "__init__" p2) (e :: es) [] pos) X.env = (do
      let ov ← eval (.Name n p1) X.env
      standAt p2.atName
      let (f, first) ← holding [ov] (getMethod ov "__init__" pl)
      callWith pos f first (backTo pos (starEach (e :: es) X.env)) (backToKw pos (keywordEach [] X.env))) := by rfl)
    (he : starEach (e :: es) X.env = (false, eval e X.env) :: starEach es X.env := by rfl) (hpl : (backTo pos (starEach es X.env)).any (·.1) = false := by rfl) (hdb : (n == ("__debug__" : Str)) = false := by decide) :
    PE X (.Call (.Attribute (.Name n p1) "__init__" p2) (e :: es) [] pos) (tVeI X.K ta) := by
  refine ⟨fun pins s σ H Q I h => ?_⟩
  refine PySem.W.methodCall_KW (ld_glob I hg hm ?_ hdb) hc
  refine PySem.W.method_cls I.kIn S.r.ga (PySem.W.cls_value I.kIn S.r.rd S.at_ rfl ?_)
  show wpAny _ _ (callWith pos (Value.builtin "ValueError.__init__") [] (backTo pos (starEach (e :: es) X.env)) []) _ _ _
  refine PyProof.Rows.callWith_method1 (thn (ha.run pos pins _ σ H _ (I.tok _) h) fun us s1 ⟨vs, H1, I1, r1, a, C', ws, ev, hl, T, ea, q⟩ => ?_) he hpl
  subst ev
  cases r1 with
  | @cons _ u0 _ ur ra rw' =>
    obtain rfl : u0 = Value.ref a := ra
    have hlen : ur.length ≤ sizeLine := by
      rw [← Paired.length rw', sizeLine_eq]
      omega
    exact oinit_ok T I1 ea hlen fun s' J => ⟨.non, H1, J, rfl, q⟩
/-- what the __init__ of an exception with one field keeps -/
def spXI (C : Addr) (f : Str) : Sp := fun vs H Q _ => ∃ (a : Addr) (v : V), vs = [.ref a, v] ∧ H a = some (exo a C none) ∧ ∀ d, H d = none → d ≠ a → Q .non (upd (upd H d (exd d [(f, v)])) a (exo a C (some d)))
structure XCl (P : Program) (w : World) (K : PySem.W.Frag) (mg : Str → Option Value) (base : Heap) (k : Nat) (x : Str) (ps : List Str) (sp : Sp) : Prop where
  ex : ∃ fd, OexC K (He.ga K x) ∧ PySem.W.findIn K (.ref (He.ga K x)) "__init__" = some (some (.ref (He.ma K (He.ga K x) "__init__"))) ∧ PySem.W.typeIn K (.ref (He.ma K (He.ga K x) "__init__")) = some (.type "function") ∧
    FnOk P w K mg base (L2.CX P w) k (He.ma K (He.ga K x) "__init__") fd ps sp ∧ mg x = some (.ref (He.ga K x)) ∧ Binds K fd ps []
theorem pmkO {X : Cx} {e : Expr} {es : List Expr} {ta : TA} {p pos : Pos} {x : Str} {ps : List Str} {sp : Sp} {j k : Nat} (c : XCl X.prog X.w X.K X.mg X.base k x ps sp) (hr : Room j X.A) (hk : k + 1 ≤ j) (ha : PA X (e :: es) ta) (hg : Gl X x := by rfl)
    (hdb : (x == ("__debug__" : Str)) = false := by decide) (he : starEach (e :: es) X.env = (false, eval e X.env) :: starEach es X.env := by rfl) (hpl : (backTo pos (starEach es X.env)).any (·.1) = false := by rfl) :
    PMk X (.Call (.Name x p) (e :: es) [] pos) (tMkO (He.ga X.K x) sp [] ta) := by
  obtain ⟨fd, T, iC, tI, F, m, b⟩ := c.ex
  exact pmk_oex T iC tI F (hr.mono hk) b .nil passL hg m ha hdb he hpl
def rMkO (C : Addr) (sp : Sp) (vs : List V) (H1 : Hp) (E : XK) : Prop := vs.length ≤ 1000 ∧ ∀ a, H1 a = none → sp (.ref a :: (vs ++ [])) (upd H1 a (exo a C none))
  (fun v H2 => v = .non ∧ ∃ (d : Addr) (fs : List (Str × V)), H2 a = some (exo a C (some d)) ∧ H2 d = some (exd d fs) ∧ H1 d = none ∧ E (.ref C) (some d) (upd (del H2 a) d (.xd fs))) (fun _ _ _ => False)
theorem k_mk0 {C : Addr} {sp : Sp} {ta : TA} {σ : L2.St} {H : Hp} {E : XK} (q : ta σ H fun vs H1 => rMkO C sp vs H1 E) : tMkO C sp [] ta σ H E := q
theorem k_mkx {C : Addr} {f : Str} {v : V} {H1 : Hp} {E : XK} (k : ∀ d H2, H1 d = none → Same H1 H2 → H2 d = some (.xd [(f, v)]) → E (.ref C) (some d) H2) : rMkO C (spXI C f) [v] H1 E :=
  ⟨by simp, fun a ha => ⟨a, v, rfl, upd_same, fun d hd hda => ⟨rfl, d, [(f, v)], upd_same, by rw [upd_ne hda, upd_same], by rw [upd_ne hda] at hd; exact hd, by
      have hd1 : H1 d = none := by rw [upd_ne hda] at hd; exact hd
      have e : upd (del (upd (upd (upd H1 a (exo a C none)) d (exd d [(f, v)])) a (exo a C (some d))) a) d (.xd [(f, v)]) = upd H1 d (.xd [(f, v)]) := by
        funext b
        by_cases h1 : b = d
        · rw [h1, upd_same, upd_same]
        · rw [upd_ne h1, upd_ne h1]
          by_cases h2 : b = a
          · rw [h2, del_same, ha]
          · rw [del_ne h2, upd_ne h2, upd_ne h1, upd_ne h2]
      rw [e]
      exact k d _ hd1 (same_new hd1) upd_same⟩⟩⟩
def rVeI (K : PySem.W.Frag) (vs : List V) (H1 : Hp) (Q : VK) : Prop := ∃ (a C : Addr) (ws : List V), vs = .ref a :: ws ∧ ws.length ≤ 1000 ∧ OexC K C ∧ H1 a = some (exo a C none) ∧ Q .non H1
theorem k_veI {K : PySem.W.Frag} {ta : TA} {σ : L2.St} {H : Hp} {Q : VK} (q : ta σ H fun vs H1 => rVeI K vs H1 Q) : tVeI K ta σ H Q := q
theorem k_veIx {K : PySem.W.Frag} {a C : Addr} {ws : List V} {H : Hp} {Q : VK} (T : OexC K C) (h : H a = some (exo a C none)) (q : Q .non H) (hl : ws.length ≤ 1000) : rVeI K (.ref a :: ws) H Q := ⟨a, C, ws, rfl, hl, T, h, q⟩
def rOst (K : PySem.W.Frag) (f : Str) (x y : V) (H2 : Hp) (Q : Hp → Prop) : Prop := ∃ a C : Addr, x = .ref a ∧ OexC K C ∧ PySem.W.findIn K (.ref C) f = some none ∧
  ((H2 a = some (exo a C none) ∧ ∀ dx, H2 dx = none → dx ≠ a → Q (upd (upd H2 dx (exd dx [(f, y)])) a (exo a C (some dx)))) ∨
    ∃ (dx : Addr) (fs : List (Str × V)), H2 a = some (exo a C (some dx)) ∧ H2 dx = some (exd dx fs) ∧ fs.length ≤ 900 ∧ Q (upd H2 dx (exd dx ((f, y) :: fs))))
theorem k_ost {K : PySem.W.Frag} {f : Str} {to te : TE} {D : Ends} {σ : L2.St} {H : Hp} (q : te σ H fun y H1 => to σ H1 fun x H2 => rOst K f x y H2 fun H3 => D.nx σ H3) : tOst K f to te D σ H := q
theorem k_ostx {K : PySem.W.Frag} {f : Str} {a C : Addr} {y : V} {H : Hp} {Q : Hp → Prop} (T : OexC K C) (hn : PySem.W.findIn K (.ref C) f = some none) (h : H a = some (exo a C none)) (q : ∀ d, H d = none → d ≠ a → Q (upd (upd H d (exd d [(f, y)])) a (exo a C (some d)))) : rOst K f (.ref a) y H Q := ⟨a, C, rfl, T, hn, .inl ⟨h, q⟩⟩
/-- a field of the error that a suite holds -/
def rXf (a : Addr) (cls : Value) (d : Option Addr) (C : Addr) (f : Str) (x : V) (H1 : Hp) (Q : VK) : Prop := x = .ref a ∧ cls = .ref C ∧ ∃ (dd : Addr) (fs : List (Str × V)) (v : V), d = some dd ∧ H1 dd = some (.xd fs) ∧ fs.lookup f = some v ∧ Q v H1
theorem k_xf {a C : Addr} {cls : Value} {d : Option Addr} {f : Str} {te : TE} {σ : L2.St} {H : Hp} {Q : VK} (q : te σ H fun x H1 => rXf a cls d C f x H1 Q) : tXf a cls d C f te σ H Q := q
theorem k_xfx {a C dd : Addr} {f : Str} {v : V} {H : Hp} {Q : VK} (h : H dd = some (.xd [(f, v)])) (q : Q v H) : rXf a (.ref C) (some dd) C f (.ref a) H Q := ⟨rfl, rfl, dd, _, v, rfl, h, by simp [List.lookup], q⟩
end
/-! ### classes -/
structure MCl (P : Program) (w : World) (K : PySem.W.Frag) (mg : Str → Option Value) (base : Heap) (k : Nat) (C m : Str) (ps : List Str) (sp : Sp) : Prop where
  ex : ∃ f fd, Cls K (He.ga K C) ∧ Meth K (He.ga K C) m f ∧ FnOk P w K mg base (L2.CX P w) k f fd ps sp ∧ Binds K fd ps []
structure KCl (P : Program) (w : World) (K : PySem.W.Frag) (mg : Str → Option Value) (base : Heap) (k : Nat) (C : Str) (ps : List Str) (sp : Sp) : Prop where
  ex : ∃ f fd, Mk K (He.ga K C) f ∧ FnOk P w K mg base (L2.CX P w) k f fd ps sp ∧ mg C = some (.ref (He.ga K C)) ∧ Binds K fd ps []
/-- a class's def, called through the class: C.m(self, ..) -/
structure SCl (P : Program) (w : World) (K : PySem.W.Frag) (mg : Str → Option Value) (base : Heap) (k : Nat) (C m : Str) (ps : List Str) (sp : Sp) : Prop where
  ex : ∃ f fd, ClX.CRead K (He.ga K C) (.type "type") ∧ PySem.W.findCls K (.ref (He.ga K C)) (.type "type") m = some (.val (.ref f)) ∧ PySem.W.keepIn K (.ref f) = true ∧ FnOk P w K mg base (L2.CX P w) k f fd ps sp ∧ mg C = some (.ref (He.ga K C)) ∧ Binds K fd ps []
def tMethS (C : Addr) (m : Str) (sp : Sp) (E : L2.St → XK) (ta : TE) (t : TA) : TE := fun σ H Q => ta σ H fun x H1 => ∃ a dx fs, x = .ref a ∧ H1 a = some (.ins C dx fs) ∧ fs.lookup m = none ∧ t σ H1 fun vs H2 => sp (x :: vs) H2 Q (E σ)
def tOr2 (t u : TE) : TE := fun σ H Q => t σ H Q ∨ u σ H Q
section
variable {X : Cx} {W : WX} {e o : Expr} {es : List Expr} {p pos apos : Pos} {ta : TE} {t : TA} {C m x : Str} {ps : List Str} {sp : Sp} {j k : Nat}
theorem pe_or2 {e : Expr} {t u : TE} (a : PE X e t) (b : PE X e u) : PE X e (tOr2 t u) := ⟨fun pins s σ H Q I h => h.elim (a.run pins s σ H Q I) (b.run pins s σ H Q I)⟩
theorem pmeth {pl : Sem Bool} {K : PySem.W.Frag} (hK : X.K = K) (c : MCl X.prog X.w K X.mg X.base k C m ps sp) (hr : Room j X.A) (hk : k ≤ j) (tk : Takes X W) (he : PE X o ta) (ha : PA X (e :: es) t)
    (hst : starEach (e :: es) X.env = (false, eval e X.env) :: starEach es X.env := by rfl) (hpl : (backTo pos (starEach es X.env)).any (·.1) = false := by rfl)
    (ht : eval (.Call (.Attribute o m apos) (e :: es) [] pos) X.env = (do
      let ov ← eval o X.env
      standAt apos.atName
      let (f, first) ← holding [ov] (getMethod ov m pl)
      callWith pos f first (backTo pos (starEach (e :: es) X.env)) (backToKw pos (keywordEach [] X.env))) := by rfl) :
    PE X (.Call (.Attribute o m apos) (e :: es) [] pos) (tMethS (He.ga K C) m sp (WE W) ta t) := by
  subst hK
  obtain ⟨f, fd, hc, hm, F, b⟩ := c.ex
  refine ⟨fun pins s σ H Q I h => ?_⟩
  refine PySem.W.methodCall_KW (pl := pl) (thn (he.run pins s σ H _ I h) fun u s1 ⟨x, H1, I1, rx, a, dx, fs, ex, ea, l, q⟩ => ?_) ht
  subst ex
  obtain rfl : u = Value.ref a := rx
  refine getmeth_ok I1 ea hc hm l ?_
  refine PySem.W.callWith_K (first := [.ref a]) (h₀ := X.base) I.ok.mod.kin hm.kp (thn (ha.run pos pins s1 σ H1 _ I1 q) fun us s2 ⟨vs, H2, I2, r, q2⟩ => ⟨I2.kIn, ?_⟩) hst hpl
  exact run_fnS (us := .ref a :: us) (vs := .ref a :: vs) (E := WE W) F (hr.mono hk) b (passAt tk σ) I2 (.cons rfl r) q2
theorem pmeth0 {pl : Sem Bool} {K : PySem.W.Frag} (hK : X.K = K) (c : MCl X.prog X.w K X.mg X.base k C m ps sp) (hr : Room j X.A) (hk : k ≤ j) (tk : Takes X W) (he : PE X o ta)
    (ht : eval (.Call (.Attribute o m apos) [] [] pos) X.env = (do
      let ov ← eval o X.env
      standAt apos.atName
      let (f, first) ← holding [ov] (getMethod ov m pl)
      callWith pos f first (backTo pos (starEach [] X.env)) (backToKw pos (keywordEach [] X.env))) := by rfl) :
    PE X (.Call (.Attribute o m apos) [] [] pos) (tMethS (He.ga K C) m sp (WE W) ta tNil) := by
  subst hK
  obtain ⟨f, fd, hc, hm, F, b⟩ := c.ex
  refine ⟨fun pins s σ H Q I h => ?_⟩
  refine PySem.W.methodCall_KW (pl := pl) (thn (he.run pins s σ H _ I h) fun u s1 ⟨x, H1, I1, rx, a, dx, fs, ex, ea, l, q⟩ => ?_) ht
  subst ex
  obtain rfl : u = Value.ref a := rx
  refine getmeth_ok I1 ea hc hm l ?_
  exact PySem.W.callWith_K0 (first := [.ref a]) I1.kIn hm.kp (run_fnS (us := [.ref a]) (vs := [.ref a]) (E := WE W) F (hr.mono hk) b (passAt tk σ) I1 (.cons rfl .nil) q)
/-- where nothing may be raised -/
theorem pmethN {pl : Sem Bool} {K : PySem.W.Frag} (hK : X.K = K) (c : MCl X.prog X.w K X.mg X.base k C m ps sp) (hr : Room j X.A) (hk : k ≤ j) (he : PE X o ta) (ha : PA X (e :: es) t)
    (hst : starEach (e :: es) X.env = (false, eval e X.env) :: starEach es X.env := by rfl) (hpl : (backTo pos (starEach es X.env)).any (·.1) = false := by rfl)
    (ht : eval (.Call (.Attribute o m apos) (e :: es) [] pos) X.env = (do
      let ov ← eval o X.env
      standAt apos.atName
      let (f, first) ← holding [ov] (getMethod ov m pl)
      callWith pos f first (backTo pos (starEach (e :: es) X.env)) (backToKw pos (keywordEach [] X.env))) := by rfl) :
    PE X (.Call (.Attribute o m apos) (e :: es) [] pos) (tMethS (He.ga K C) m sp (fun _ => E0) ta t) := by
  subst hK
  obtain ⟨f, fd, hc, hm, F, b⟩ := c.ex
  refine ⟨fun pins s σ H Q I h => (pe_meth (pl := pl) he hc hm F (hr.mono hk) b .nil passL ha hst hpl ht).run pins s σ H Q I ?_⟩
  simp only [tMeth, List.append_nil]
  exact h
theorem pmethN0 {pl : Sem Bool} {K : PySem.W.Frag} (hK : X.K = K) (c : MCl X.prog X.w K X.mg X.base k C m ps sp) (hr : Room j X.A) (hk : k ≤ j) (he : PE X o ta)
    (ht : eval (.Call (.Attribute o m apos) [] [] pos) X.env = (do
      let ov ← eval o X.env
      standAt apos.atName
      let (f, first) ← holding [ov] (getMethod ov m pl)
      callWith pos f first (backTo pos (starEach [] X.env)) (backToKw pos (keywordEach [] X.env))) := by rfl) :
    PE X (.Call (.Attribute o m apos) [] [] pos) (tMethS (He.ga K C) m sp (fun _ => E0) ta tNil) := by
  subst hK
  obtain ⟨f, fd, hc, hm, F, b⟩ := c.ex
  refine ⟨fun pins s σ H Q I h => (pe_meth0 (pl := pl) he hc hm F (hr.mono hk) b .nil passL ht).run pins s σ H Q I ?_⟩
  simp only [tMeth, List.append_nil]
  exact h
theorem pmake {K : PySem.W.Frag} (hK : X.K = K) (c : KCl X.prog X.w K X.mg X.base k C ps sp) (hr : Room j X.A) (hk : k + 1 ≤ j) (ha : PA X (e :: es) t) (hg : Gl X C := by rfl)
    (hdb : (C == ("__debug__" : Str)) = false := by decide) (he : starEach (e :: es) X.env = (false, eval e X.env) :: starEach es X.env := by rfl) (hpl : (backTo pos (starEach es X.env)).any (·.1) = false := by rfl) :
    PE X (.Call (.Name C p) (e :: es) [] pos) (tMake (He.ga K C) sp [] E0 t) := by
  subst hK
  obtain ⟨f, fd, M, F, hm, b⟩ := c.ex
  exact pe_make M F (hr.mono hk) hg hm b .nil passL ha hdb he hpl
theorem pmake0 {K : PySem.W.Frag} (hK : X.K = K) (c : KCl X.prog X.w K X.mg X.base k C ps sp) (hr : Room j X.A) (hk : k + 1 ≤ j) (hg : Gl X C := by rfl)
    (hdb : (C == ("__debug__" : Str)) = false := by decide) : PE X (.Call (.Name C p) [] [] pos) (tMake (He.ga K C) sp [] E0 tNil) := by
  subst hK
  obtain ⟨f, fd, M, F, hm, b⟩ := c.ex
  exact pe_make0 M F (hr.mono hk) hg hm b .nil passL hdb
/-- C.m(self, ..) -/
theorem psup {pl : Sem Bool} (c : SCl X.prog X.w X.K X.mg X.base k C m ps sp) (hr : Room j X.A) (hk : k ≤ j) (ha : PA X (e :: es) t) (hg : Gl X C := by rfl)
    (hc : eval (.Call (.Attribute (.Name C p) m apos) (e :: es) [] pos) X.env = (do
      let ov ← eval (.Name C p) X.env
      standAt apos.atName
      let (f, first) ← holding [ov] (getMethod ov m pl)
      callWith pos f first (backTo pos (starEach (e :: es) X.env)) (backToKw pos (keywordEach [] X.env))) := by rfl)
    (he : starEach (e :: es) X.env = (false, eval e X.env) :: starEach es X.env := by rfl) (hpl : (backTo pos (starEach es X.env)).any (·.1) = false := by rfl) (hdb : (C == ("__debug__" : Str)) = false := by decide) :
    PE X (.Call (.Attribute (.Name C p) m apos) (e :: es) [] pos) (tCall sp [] E0 t) := by
  obtain ⟨f, fd, cr, ca, kp, F, hm, b⟩ := c.ex
  refine ⟨fun pins s σ H Q I h => ?_⟩
  refine PySem.W.methodCall_KW (ld_glob I hg hm ?_ hdb) hc
  refine PySem.W.method_cls I.kIn cr.ga (PySem.W.cls_value I.kIn cr.rd ca rfl ?_)
  refine PySem.W.callWith_K (first := []) (h₀ := X.base) I.ok.mod.kin kp (thn (ha.run pos pins _ σ H _ (I.tok _) h) fun us s2 ⟨vs, H2, I2, r, q2⟩ => ⟨I2.kIn, ?_⟩) he hpl
  exact run_fn F (hr.mono hk) b .nil passL I2 r q2
/-- C(), C without an __init__ -/
structure MbC (K : PySem.W.Frag) (mg : Str → Option Value) (C : Str) : Prop where
  mks : PySem.W.makesIn K (He.ga K C) = true
  ini : PySem.W.findIn K (.ref (He.ga K C)) "__init__" = some (some (.builtin "object.__init__"))
  kp : PySem.W.keepIn K (.ref (He.ga K C)) = true
  ob : PySem.W.mroIn K (He.ga K C) (.type "object") = some true
def mbB (K : PySem.W.Frag) (C : Str) : Bool := PySem.W.makesIn K (He.ga K C) && (He.eqO (PySem.W.findIn K (.ref (He.ga K C)) "__init__") (some (some (.builtin "object.__init__"))) && (PySem.W.keepIn K (.ref (He.ga K C)) && decide (PySem.W.mroIn K (He.ga K C) (.type "object") = some true)))
theorem mbB_ok {K : PySem.W.Frag} {mg : Str → Option Value} {C : Str} (h : mbB K C = true) : MbC K mg C := by
  obtain ⟨h1, h⟩ := He.ba h
  obtain ⟨h2, h⟩ := He.ba h
  obtain ⟨h3, h4⟩ := He.ba h
  exact ⟨h1, He.eqO_ok h2, h3, of_decide_eq_true h4⟩
def tMakeB (C : Addr) : TE := fun _ H Q => ∀ x dx, H x = none → H dx = none → dx ≠ x → Q (.ref x) (upd (upd H dx (.own x)) x (.ins C dx []))
theorem pmakeB {K : PySem.W.Frag} (hK : X.K = K) (c : MbC K X.mg C) (hm : X.mg C = some (.ref (He.ga K C))) (hg : Gl X C := by rfl) (hdb : (C == ("__debug__" : Str)) = false := by decide) : PE X (.Call (.Name C p) [] [] pos) (tMakeB (He.ga K C)) := by
  subst hK
  refine ⟨fun pins s σ H Q I h => ?_⟩
  refine wpAny_Call_Name_kw (ld_glob I hg hm ?_ hdb)
  refine PySem.W.callWith_K0 I.kIn c.kp ?_
  have q := h (s.heap.objs.size + 1) s.heap.objs.size (I.hok.fresh (Nat.le_succ _)) (I.hok.fresh (Nat.le_refl _)) (Nat.ne_of_lt (Nat.lt_succ_self _))
  have I2 := Inv.made (C := He.ga X.K C) I
  refine wpAny_call (make_map0 I.kIn c.mks c.ini (fun self => PySem.W.Looks.of_pure (PySem.W.oi_bind self)) ?_)
  have hx : ((s.heap.push PySem.W.emptyDict).push (PySem.W.instObj (He.ga X.K C) s.heap.objs.size)).get? (s.heap.objs.size + 1) = some (PySem.W.instObj (He.ga X.K C) s.heap.objs.size) := by
    have := Heap.get?_push_size (s.heap.push PySem.W.emptyDict) (o := PySem.W.instObj (He.ga X.K C) s.heap.objs.size) rfl
    rwa [Heap.size_push] at this
  have t1 : PySem.W.Looks (model X.prog X.w) ((s.heap.push PySem.W.emptyDict).push (PySem.W.instObj (He.ga X.K C) s.heap.objs.size)) (typeOf (.ref (s.heap.objs.size + 1))) (.ref (He.ga X.K C)) := (PySem.W.Looks.ld hx).andThen .now
  have t2 : PySem.W.Looks (model X.prog X.w) ((s.heap.push PySem.W.emptyDict).push (PySem.W.instObj (He.ga X.K C) s.heap.objs.size)) (isInstance (.ref (s.heap.objs.size + 1)) (.type "object")) true := t1.andThen (PySem.W.looks_mroIn (M := model X.prog X.w) I2.kIn c.ob)
  refine codeAny_call_builtin PySem.W.oi_plain PySem.W.entry_oi (@PySem.W.check_slot (model X.prog X.w) _ _ _ "object.__init__" "object" "__init__" (.ref (s.heap.objs.size + 1)) [] [] _ PySem.W.oi_kind PySem.W.oi_split t2 (PySem.W.oi_args (.ref (s.heap.objs.size + 1))) ?_)
  rw [PySem.W.oi_run]
  exact wpAny_pure (And.intro rfl ⟨V.ref (s.heap.objs.size + 1), _, I2, rfl, q⟩)
end
section
variable {σ : L2.St} {H : Hp} {Q : VK} {ta tv : TE} {K : PySem.W.Frag} {a C dx : Addr} {fs : List (Str × V)} {f m : Str} {v : V} {sp : Sp} {t : TA} {D : Ends} {E : XK}
def rFld (K : PySem.W.Frag) (f : Str) (x : V) (H1 : Hp) (Q : VK) : Prop := ∃ a C dx fs v, x = .ref a ∧ H1 a = some (.ins C dx fs) ∧ Cls K C ∧ NoAttr K C f ∧ fs.lookup f = some v ∧ Q v H1
theorem k_fld (q : ta σ H fun x H1 => rFld K f x H1 Q) : tFld K ta f σ H Q := q
theorem k_fldx (h : H a = some (.ins C dx fs)) (c : Cls K C) (n : NoAttr K C f) (l : fs.lookup f = some v) (q : Q v H) : rFld K f (.ref a) H Q := ⟨a, C, dx, fs, v, rfl, h, c, n, l, q⟩
def rSFld (K : PySem.W.Frag) (f : Str) (x y : V) (H2 : Hp) (Q : Hp → Prop) : Prop := ∃ a C dx fs, x = .ref a ∧ H2 a = some (.ins C dx fs) ∧ Cls K C ∧ NoAttr K C f ∧ fs.length < 1000 ∧ Q (upd H2 a (.ins C dx (putF f y fs)))
theorem k_sfld (q : tv σ H fun y H1 => ta σ H1 fun x H2 => rSFld K f x y H2 fun H3 => D.nx σ H3) : sFld K ta tv f D σ H := q
theorem k_sfldx {y : V} {Q : Hp → Prop} (h : H a = some (.ins C dx fs)) (c : Cls K C) (n : NoAttr K C f) (q : ∀ H', But a H H' → H' a = some (.ins C dx (putF f y fs)) → Q H') (l : fs.length < 1000) : rSFld K f (.ref a) y H Q := ⟨a, C, dx, fs, rfl, h, c, n, l, q _ But.upd upd_same⟩
def rMeth (C : Addr) (m : Str) (x : V) (H1 : Hp) (P : Prop) : Prop := ∃ a dx fs, x = .ref a ∧ H1 a = some (.ins C dx fs) ∧ fs.lookup m = none ∧ P
theorem k_meth {E : L2.St → XK} (q : ta σ H fun x H1 => rMeth C m x H1 (t σ H1 fun vs H2 => sp (x :: vs) H2 Q (E σ))) : tMethS C m sp E ta t σ H Q := q
theorem k_methx {P : Prop} (h : H a = some (.ins C dx fs)) (l : fs.lookup m = none) (q : P) : rMeth C m (.ref a) H P := ⟨a, dx, fs, rfl, h, l, q⟩
theorem k_o1 {t u : TE} (q : t σ H Q) : tOr2 t u σ H Q := .inl q
theorem k_o2 {t u : TE} (q : u σ H Q) : tOr2 t u σ H Q := .inr q
def rMake (C : Addr) (sp : Sp) (vs : List V) (H1 : Hp) (Q : VK) (E : XK) : Prop := ∀ x dx, H1 x = none → H1 dx = none → dx ≠ x → sp (.ref x :: vs) (upd (upd H1 dx (.own x)) x (.ins C dx [])) (fun v H2 => v = .non ∧ Q (.ref x) H2) E
theorem k_make (q : t σ H fun vs H1 => rMake C sp vs H1 Q E) : tMake C sp [] E t σ H Q := by
  unfold tMake
  simp only [List.append_nil]
  exact q
theorem k_makex {vs : List V} (q : ∀ x dx H2, H x = none → H dx = none → Same H H2 → H2 x = some (.ins C dx []) → H2 dx = some (.own x) → sp (.ref x :: vs) H2 (fun v H3 => v = .non ∧ Q (.ref x) H3) E) : rMake C sp vs H Q E := fun x dx hx hd ne =>
  q x dx _ hx hd ((same_new hd).trans (same_new (by rw [upd_ne (Ne.symm ne)]; exact hx))) upd_same (by rw [upd_ne ne, upd_same])
def rMakeB (C : Addr) (H : Hp) (Q : VK) : Prop := ∀ x dx, H x = none → H dx = none → dx ≠ x → Q (.ref x) (upd (upd H dx (.own x)) x (.ins C dx []))
theorem k_makeB (q : rMakeB C H Q) : tMakeB C σ H Q := q
theorem k_makeBx (q : ∀ x dx H2, H x = none → Same H H2 → H2 x = some (.ins C dx []) → Q (.ref x) H2) : rMakeB C H Q := fun x dx hx hd ne =>
  q x dx _ hx ((same_new hd).trans (same_new (by rw [upd_ne (Ne.symm ne)]; exact hx))) upd_same
end
/-! fields by name -/
section
variable {f g : Str} {u v : V} {r : List (Str × V)}
theorem lk1 : List.lookup f ((f, v) :: r) = some v := by simp [List.lookup]
theorem lkn (h : (f == g) = false) (k : List.lookup f r = some v) : List.lookup f ((g, u) :: r) = some v := by
  show (match f == g with | true => some u | false => List.lookup f r) = _
  rw [h]
  exact k
theorem lk0 : List.lookup f ([] : List (Str × V)) = none := rfl
theorem lkz (h : (f == g) = false) (k : List.lookup f r = none) : List.lookup f ((g, u) :: r) = none := by
  show (match f == g with | true => some u | false => List.lookup f r) = _
  rw [h]
  exact k
theorem pfl0 : ([] : List (Str × V)).length < 1 := by decide
theorem pfl : ∀ {r : List (Str × V)} {n : Nat}, r.length < n → (putF f v r).length < n + 1
  | [], n, h => by show 1 < n + 1; simp at h; omega
  | (g, u) :: r, n, h => by
    show (if g = f then (g, v) :: r else (g, u) :: putF f v r).length < n + 1
    cases n with
    | zero => simp at h
    | succ n =>
      split
      · simp at h ⊢; omega
      · have := pfl (r := r) (n := n) (by simpa using h)
        simp only [List.length_cons]
        omega
theorem pf0 : putF f v [] = [(f, v)] := rfl
theorem pf1 : putF f v ((f, u) :: r) = (f, v) :: r := if_pos rfl
theorem pfn (h : g ≠ f) : putF f v ((g, u) :: r) = (g, u) :: putF f v r := if_neg h
end
/-- what a class says, read through -/
def supmB (K : PySem.W.Frag) (C m : Str) : Bool := PySem.W.readsIn K (He.ga K C) (.type "type") && (He.eqO (PySem.W.specialIn K (.ref (He.ga K C)) "__getattribute__") (some (some (.builtin "type.__getattribute__"))) && (PySem.W.keepIn K (.ref (He.ma K (He.ga K C) m)) && (match PySem.W.findCls K (.ref (He.ga K C)) (.type "type") m with
  | some (.val (.ref f)) => f == He.ma K (He.ga K C) m
  | _ => false)))
theorem supmB_ok {K : PySem.W.Frag} {C m : Str} (h : supmB K C m = true) : ClX.CRead K (He.ga K C) (.type "type") ∧ PySem.W.findCls K (.ref (He.ga K C)) (.type "type") m = some (.val (.ref (He.ma K (He.ga K C) m))) ∧ PySem.W.keepIn K (.ref (He.ma K (He.ga K C) m)) = true := by
  obtain ⟨h1, h⟩ := He.ba h
  obtain ⟨h2, h⟩ := He.ba h
  obtain ⟨h3, h4⟩ := He.ba h
  refine ⟨⟨h1, He.eqO_ok h2⟩, ?_, h3⟩
  split at h4
  · rename_i f e
    rw [e, beq_iff_eq.mp h4]
  · cases h4
/-! ### operators, joined -/
section
variable {X : Cx}
/-! a given list + a list -/
section
theorem addL_any (l : Addr) (xs : Array Value) (n : Nat) (dd : Option Addr) (sl : Array (Option Value)) (b : Addr) (ys : Array Value) (m : Nat) (de : Option Addr) (sk : Array (Option Value)) (hz : xs.size + ys.size ≤ sizeLine) :
    Meets (Builtin.«list.__add__» ⟨[.ref l, .ref b], []⟩) (fun _ R s => s.heap.get? l = some ⟨.type "list", dd, .seq xs n, sl⟩ ∧ s.heap.get? b = some ⟨.type "list", de, .seq ys m, sk⟩ ∧ R (.ok (.ret (Value.ref s.heap.objs.size))) { s with heap := s.heap.push ⟨Value.type "list", none, Data.seq (xs ++ ys) 0, #[]⟩, toks := s.toks }) :=
  .of_wp fun prog w A R st z => by
    obtain ⟨h0, g0, d0, t0, o0⟩ := st
    obtain ⟨z1, z2, z3⟩ := z
    have t1 := AutoSeq1.idx_int; have t2 := AutoSeq1.sub_tuple_tuple; have t3 := AutoSeq1.sub_list_list; have t4 := AutoSeq1.sub_tuple_list; have t5 := AutoSeq1.sub_list_tuple
    wp_walk using AutoSeq1.wpAny_loadPart' z1, AutoSeq1.wpAny_loadPart' z2
    exact ⟨_, rfl, z3⟩
def rCatL (K : PySem.W.Frag) : R2 := fun x y H Q => ∃ l b xs zs, x = .ref l ∧ y = .ref b ∧ SqL K H l xs ∧ SqL K H b zs ∧ xs.length + zs.length ≤ sizeLine ∧ ∀ p, H p = none → Q (.ref p) (upd H p (.lst (xs ++ zs)))
theorem op_catL {X : Cx} : OpR X (binaryOp .Add) (rCatL X.K) := by
  rintro pins s σ H x y v u Q I rx ry ⟨l, b, xs, zs, rfl, rfl, hx, hy, hz, q⟩
  cases rx
  cases ry
  obtain ⟨as, r1, ⟨o1, n1, e1, c1, d1, k1⟩, z1⟩ := I.list hx
  obtain ⟨bs, r2, ⟨o2, n2, e2, c2, d2, k2⟩, z2⟩ := I.list hy
  obtain ⟨oc1, od1, ot1, os1⟩ := o1
  obtain ⟨oc2, od2, ot2, os2⟩ := o2
  simp only at c1 c2 k1 k2
  subst c1 c2 k1 k2
  have l1 := r1.length
  have l2 := r2.length
  refine PySem.concat_meets ⟨_, e1, rfl⟩ ⟨_, e2, rfl⟩ PySem.noFill_list_add PySem.seq_list_add PySem.F.slot_list_add PySem.F.entry_list_add (PySem.F.args_list_add_2 _ _) (addL_any l as.toArray n1 od1 os1 b bs.toArray n2 od2 os2 (by simp only [List.size_toArray]; omega)) ⟨e1, e2, ?_⟩
  have ea : as.toArray ++ bs.toArray = (as ++ bs).toArray := by simp
  rw [ea]
  exact ⟨.ref _, _, I.lnew (t' := s.toks) (r1.append r2) (by rw [List.length_append]; omega), rfl, q _ I.fresh⟩
end
def rAddU (K : PySem.W.Frag) : R2 := fun x y H Q => (∃ i j, x = .int i ∧ y = .int j ∧ Q (.int (i + j)) H) ∨ (∃ i j, x = .str i ∧ y = .str j ∧ i.length + j.length ≤ sizeLine ∧ Q (.str (i ++ j)) H) ∨ rCat x y H Q ∨ rCatA K x y H Q ∨ rCatL K x y H Q
theorem op_addU : OpR X (binaryOp .Add) (rAddU X.K) := op_add.or (op_add_str.or (op_cat.or (op_catA.or op_catL)))
theorem tuple_mul1 (l : Addr) (items : Array Value) (n : Nat) (dd : Option Addr) (sl : Array (Option Value)) (u : Tok) :
    Meets (Builtin.«tuple.__mul__» ⟨[.ref l, .int 1 u], []⟩) (fun _ R s => s.heap.get? l = some { cls := .type "tuple", dict := dd, data := .seq items n, slots := sl } ∧ R (.ok (.ret (Value.ref l))) s) :=
  .of_wp fun prog w A R s h => by
    obtain ⟨hp, g, d, tk, os⟩ := s
    obtain ⟨hl, h⟩ := h
    have f1 := AutoSeq1.idx_int
    have c0 : (decide ((1 : Int) < -(2 ^ 63)) || decide ((1 : Int) ≥ 2 ^ 63)) = false := by decide
    have c1 : (items.isEmpty || (1 : Int) == 1) = true := by simp
    wp_walk using wpAny_loadPart' hl
    repeat (first
      | (refine wpAny_ite_false (decide_eq_false (by rw [c0]; exact Bool.false_ne_true)) ?_; wp_walk using wpAny_loadPart' hl)
      | (refine wpAny_ite_true (decide_eq_true c1) ?_; wp_walk using wpAny_loadPart' hl))
    exact ⟨_, rfl, h⟩
def rRep1 (K : PySem.W.Frag) : R2 := fun x y H Q => ∃ l xs, x = .ref l ∧ y = .int 1 ∧ SqT K H l xs ∧ Q (.ref l) H
theorem op_rep1 {X : Cx} : OpR X (binaryOp .Mult) (rRep1 X.K) := by
  intro pins s σ H x y v u Q I rx ry h
  obtain ⟨l, xs, rfl, rfl, hT, q⟩ := h
  cases rx
  obtain ⟨t, rfl⟩ := ry
  obtain ⟨its, r, ⟨⟨cls, dd, data, sl⟩, ho, hc, n, hd⟩, hs⟩ := I.tuple hT
  simp only at hc hd
  subst hc hd
  refine wpAny_binaryOp_repeat_ref (T := "tuple") (U := "int") (by decide) ⟨_, ho, rfl⟩ (fun s' => typeIs_int s' 1 t) noFill_tuple_mul F.fills_int_mul F.slot_int_rmul repeat_tuple F.slot_int_index.lookup
    (call_meets F.slot_int_rmul (typeIs_int s 1 t) F.entry_int_rmul (F.args_int_rmul_2 _ _) (int_rmul_tuple 1 t l its.toArray n dd sl)
      ⟨ho, rfl, ⟨_, ho, rfl⟩, call_meets F.slot_tuple_mul ⟨_, ho, rfl⟩ F.entry_tuple_mul (F.args_tuple_mul_2 _ _) (tuple_mul1 l its.toArray n dd sl t) ⟨ho, ?_⟩⟩)
  exact ⟨.ref l, H, I, rfl, q⟩
/-! a letter, repeated -/
def rMulC : R2 := fun x y H Q => ∃ (c n : Nat), x = .str (SX.S [c]) ∧ y = .int (n : Int) ∧ 1 ≤ n ∧ n ≤ 1000 ∧ Q (.str (SX.S (List.replicate n c))) H
theorem fold_rep (c : Nat) : ∀ (n : Nat) (l : List Nat), ((List.replicate n (#[c] : Array Nat)).foldl (· ++ ·) l.toArray) = (l ++ List.replicate n c).toArray := fun n => by
  induction n with
  | zero => intro l; simp
  | succ n ih =>
    intro l
    rw [List.replicate_succ, List.foldl_cons, show l.toArray ++ (#[c] : Array Nat) = (l ++ [c]).toArray by simp, ih, List.replicate_succ, List.append_assoc]
    rfl
theorem op_mulC {X : Cx} : OpR X (binaryOp .Mult) rMulC := by
  rintro pins s σ H x y v u Q I rx ry ⟨c, n, rfl, rfl, n0, n1, q⟩
  obtain ⟨t, rfl⟩ := rx
  obtain ⟨k, rfl⟩ := ry
  refine P.mul_str ?_ ?_ ?_ ?_
  · rw [decide_eq_false (by omega), decide_eq_false (by omega)]; rfl
  · intro _ _ h
    rw [SX.S_len] at h
    have h2 : (1 : Int) ≤ (2 ^ 63 - 1) / (n : Int) := (Int.le_ediv_iff_mul_le (by omega)).mpr (by omega)
    generalize ((2 : Int) ^ 63 - 1) / (n : Int) = d at h h2
    simp at h
    omega
  · intro _ _
    rw [SX.S_len]
    show PySem.Builtin.Str.tooLong (1 * n) = false
    unfold PySem.Builtin.Str.tooLong
    simp [sizeLine_eq]
    omega
  · rw [if_neg (by omega)]
    by_cases e : n = 1
    · subst e
      rw [if_pos (by rfl)]
      exact ⟨.str _, H, I, ⟨_, rfl⟩, q⟩
    · rw [if_neg (by
        rw [SX.S_len]
        simp
        omega)]
      have ee : (⟨(List.replicate ((n : Int)).toNat (SX.S [c]).cps).foldl (· ++ ·) #[]⟩ : Str) = SX.S (List.replicate n c) := by
        have := fold_rep c n []
        show (⟨_⟩ : Str) = ⟨_⟩
        exact congrArg Str.mk (by simpa using this)
      rw [ee]
      exact ⟨by simp [SX.S_len, sizeLine_eq]; try omega, .str _, H, I.tok _, ⟨_, rfl⟩, q⟩
/-- a short text, repeated -/
def rMulS : R2 := fun x y H Q => ∃ (z : Str) (i : Int), x = .str z ∧ y = .int i ∧ z.length ≤ 16 ∧ 0 ≤ i ∧ i ≤ 1048576 ∧ ∀ u : Str, (u.length : Int) = z.length * i → Q (.str u) H
theorem op_mulS : OpR X (binaryOp .Mult) rMulS := by
  rintro pins s σ H x y v u Q I rx ry ⟨z, i, rfl, rfl, hz, h0, h1, q⟩
  obtain ⟨t, rfl⟩ := rx
  obtain ⟨k, rfl⟩ := ry
  exact PySem.W.KXi.mul rfl hz (by omega) h1 fun t' m _ hl => ⟨.str _, H, I.tok _, ⟨_, rfl⟩, q _ (hl h0)⟩
def rMulU (K : PySem.W.Frag) : R2 := fun x y H Q => (∃ i j, x = .int i ∧ y = .int j ∧ CMulX i j ∧ Q (.int (i * j)) H) ∨ rRep x y H Q ∨ rRepT K x y H Q ∨ rMulS x y H Q ∨ rRep1 K x y H Q ∨ rMulC x y H Q
theorem op_mulU : OpR X (binaryOp .Mult) (rMulU X.K) := op_mulX.or (op_rep.or (op_repT.or (op_mulS.or (op_rep1.or op_mulC))))
/-- lists that are not as long -/
def rEqL (K : PySem.W.Frag) : R2 := fun x y H Q => ∃ a b xs ys, x = .ref a ∧ y = .ref b ∧ SqL K H a xs ∧ SqL K H b ys ∧ xs.length ≠ ys.length ∧ Q (.bl false) H
theorem op_eqL {X : Cx} (hu : X.A.units < cLine) : OpR X (compareOp .Eq) (rEqL X.K) := by
  rintro pins s σ H x y v u Q I rx ry ⟨a, b, xs, ys, rfl, rfl, hx, hy, ne, q⟩
  cases rx
  cases ry
  obtain ⟨us, ru, pu, _⟩ := I.list hx
  obtain ⟨vs, rv, pv, _⟩ := I.list hy
  refine PySem.SeqAt.eq_list_lengthsAt pu.isList pv.isList ?_ hu ⟨.bl false, H, I, rfl, q⟩
  have h1 := ru.length
  have h2 := rv.length
  simp
  omega
def rEqU (K : PySem.W.Frag) : R2 := fun x y H Q => rEq x y H Q ∨ rEqD K x y H Q ∨ rEqL K x y H Q
def rNeL (K : PySem.W.Frag) : R2 := fun x y H Q => ∃ a b xs ys, x = .ref a ∧ y = .ref b ∧ SqL K H a xs ∧ SqL K H b ys ∧ xs.length ≠ ys.length ∧ Q (.bl true) H
theorem op_neL {X : Cx} (hu : X.A.units < cLine) : OpR X (compareOp .NotEq) (rNeL X.K) := by
  rintro pins s σ H x y v u Q I rx ry ⟨a, b, xs, ys, rfl, rfl, hx, hy, ne, q⟩
  cases rx
  cases ry
  obtain ⟨us, ru, pu, _⟩ := I.list hx
  obtain ⟨vs, rv, pv, _⟩ := I.list hy
  refine PySem.SeqAt.RcNeAt.lists_lengths pu.isList pv.isList ?_ hu X.prog X.w _ _ ⟨.bl true, H, I, rfl, q⟩
  have h1 := ru.length
  have h2 := rv.length
  simp
  omega
def rNeU (K : PySem.W.Frag) : R2 := fun x y H Q => rNe x y H Q ∨ rNeD K x y H Q ∨ rNeL K x y H Q
theorem op_eqU {k : Nat} (hr : Room k X.A) : OpR X (compareOp .Eq) (rEqU X.K) := op_eq.or ((op_eqD hr.units).or (op_eqL (by have := hr.units; omega)))
theorem op_neU {k : Nat} (hr : Room k X.A) : OpR X (compareOp .NotEq) (rNeU X.K) := op_ne.or ((op_neD hr.units).or (op_neL (by have := hr.units; omega)))
def CDivG (i j : Int) : Prop := j ≠ 0 ∧ Builtin.divisionGoesByPylong i j = false
theorem noPy_low {i j : Int} (h : j.natAbs < 2 ^ 9000) : Builtin.divisionGoesByPylong i j = false := PyProof.noPylong_of_log2 (PySem.Flt.log2_lt_of (by decide) h)
theorem noPy_mid {i j : Int} (h : i.natAbs < 2 ^ 13500) : Builtin.divisionGoesByPylong i j = false := by
  have e := PySem.Flt.log2_lt_of (by decide) h
  unfold Builtin.divisionGoesByPylong
  simp only [Bool.and_eq_false_iff, decide_eq_false_iff_not]
  by_cases c : j = 0
  · left; simp [c]
  · by_cases c2 : i = 0
    · right; simp [c2]
    · simp [c, c2]; omega
theorem op_fdivG : OpR X (binaryOp .FloorDiv) (rI CDivG fun i j => .int (i.fdiv j)) := opI fun i j _ _ _ _ _ hc q => floordiv_int hc.1 q (.inl hc.2)
end
/-- walking a list or a tuple -/
def rItU (K : PySem.W.Frag) (x : V) (H : Hp) (R : It → Hp → Prop) : Prop := ∃ a, x = .ref a ∧ (((∃ xs, SqL K H a xs) ∧ R (Itl K a) H) ∨ ((∃ xs, SqT K H a xs) ∧ R (Itt K a) H))
def iSeqU (K : PySem.W.Frag) (tl : TE) : TI := fun σ H R => tl σ H fun x H1 => rItU K x H1 R
theorem pi_seqU {X : Cx} {tg l : Expr} {tl : TE} (hl : PE X l tl) : PI X tg l (iSeqU X.K tl) :=
  ⟨fun pins s σ H R I h => thn (hl.run pins s σ H _ I h) fun v s1 z => by
    obtain ⟨x, H1, I1, r1, a, e, z⟩ := z
    cases e
    cases r1
    have fp : ∀ b ∈ [s1.heap.objs.size], FpOk X pins H1 b := fun b hb => by
      obtain rfl : b = s1.heap.objs.size := by simpa using hb
      exact I1.fpOk (Nat.le_refl _) (I1.hok.fresh (Nat.le_refl _))
    rcases z with ⟨⟨xs, hq⟩, q⟩ | ⟨⟨xs, hq⟩, q⟩
    · obtain ⟨its, _, pl, _⟩ := I1.list hq
      exact wpAny_pyIter_list pl.isList ⟨_, [s1.heap.objs.size], _, _, H1, rfl, I1.kept (t' := s1.toks) (fun b o w => Heap.get?_push_of_some _ w), turn_list a _, ⟨_, Heap.get?_push_size _ rfl, rfl, rfl⟩, fp, q⟩
    · obtain ⟨its, _, pt, _⟩ := I1.tuple hq
      exact wpAny_pyIter_tuple (show s1.heap.IsTuple a its.toArray from pt) ⟨_, [s1.heap.objs.size], _, _, H1, rfl, I1.kept (t' := s1.toks) (fun b o w => Heap.get?_push_of_some _ w), turn_tuple a _, ⟨_, Heap.get?_push_size _ rfl, rfl, rfl⟩, fp, q⟩⟩
/-- a tuple's type, a list's type -/
theorem pi_seqUK {X : Cx} {K : PySem.W.Frag} {tg l : Expr} {tl : TE} (h : X.K = K) (hl : PE X l tl) : PI X tg l (iSeqU K tl) := h ▸ pi_seqU hl
theorem ty_tup {K : PySem.W.Frag} {H : Hp} {p : Addr} {xs : List V} (h : SqT K H p xs) : TyX K H (.ref p) (.type "tuple") := by
  rcases h with (h | ⟨o, h⟩) | ⟨o, its, n, h, c, _⟩
  · exact .base (.tup h)
  · exact .fTuple h
  · exact .kTuple h c
theorem ty_lst {K : PySem.W.Frag} {H : Hp} {p : Addr} {xs : List V} (h : SqL K H p xs) : TyX K H (.ref p) (.type "list") := by
  rcases h with (h | ⟨o, h⟩) | ⟨o, its, n, h, c, _⟩
  · exact .base (.lst h)
  · exact .base (.frz h)
  · exact .kList h c
/-- isinstance(e, c), e the error that a suite holds, its class cls, its dict d -/
def rIsEU (K : PySem.W.Frag) (a : Addr) (cls : Value) (d : Option Addr) : List V → Hp → VK → Prop := fun xs H Q => ∃ D : Addr, cls = .ref D ∧ (d = none ∨ ∃ dd fs, d = some dd ∧ H dd = some (.xd fs)) ∧ ExcC K D ∧ rIsE K D a xs H Q
theorem call_isEU {X : Cx} {a : Addr} {cls : Value} {d : Option Addr} {oe : Obj} {pn : List (Addr × Obj)} (hz : Zc cls d oe) (hf : ∃ vs, oe.data = .fields vs) : CallR (X.suite a ((a, oe) :: pn)) (.builtin "isinstance") (rIsEU X.K a cls d) := by
  intro pins s σ H xs us Q I r h
  obtain ⟨D, rfl, hd, C, h⟩ := h
  rcases hd with rfl | ⟨dd, fs, rfl, hdd⟩
  · exact call_isE C hz hf pins s σ H xs us Q I r h
  · obtain ⟨c, cv, b, rfl, hcv, e, q⟩ := h
    cases r with
    | cons rx rr =>
      cases rr with
      | cons rt rr =>
        cases rr
        cases rx
        have ec := hcv _ rt
        subst ec
        obtain ⟨hget, _⟩ := I.pin (a, oe) (List.mem_append.mpr (.inl List.mem_cons_self))
        obtain ⟨vs, hv⟩ := hf
        have hx : ObjOk X.prog X.w H s.heap dd (.xd fs) := I.hok dd _ hdd
        obtain ⟨mA, hns, hr⟩ := hx
        obtain ⟨od, ho, hl⟩ := lookIn_ns hns
        have J : PySem.W.InstAt s.heap a oe D (some od) := ⟨hget, hz.1, by unfold PySem.W.notCls; rw [hv] <;> rfl, by rw [hz.2]; exact ho⟩
        exact PySem.W.kia_one (PySem.W.kitx_exc (by obtain ⟨cd, hc, _⟩ := PySem.W.any_some C.hd; rw [hc]; rfl) C.hg C.hk C.hs C.ha C.hn C.ht C.hm) I.kIn J e (fun z => nomatch z) fun tk => ⟨.bl b, H, I.kept (t' := tk) fun _ _ z => z, rfl, q⟩
theorem k_isE {K : PySem.W.Frag} {H : Hp} {Q : VK} {a D : Addr} {c : V} {cv : Value} {b : Bool} (C : ExcC K D) (hk : PySem.W.kitOne K (.ref D) cv = some b) (hc : ∀ u, RelV c u → u = cv) (q : Q (.bl b) H) : rIsEU K a (.ref D) none [.ref a, c] H Q := ⟨D, rfl, .inl rfl, C, c, cv, b, rfl, hc, hk, q⟩
theorem k_isED {K : PySem.W.Frag} {H : Hp} {Q : VK} {a D dd : Addr} {fs : List (Str × V)} {c : V} {cv : Value} {b : Bool} (h : H dd = some (.xd fs)) (C : ExcC K D) (hk : PySem.W.kitOne K (.ref D) cv = some b) (hc : ∀ u, RelV c u → u = cv) (q : Q (.bl b) H) : rIsEU K a (.ref D) (some dd) [.ref a, c] H Q := ⟨D, rfl, .inr ⟨dd, fs, rfl, h⟩, C, c, cv, b, rfl, hc, hk, q⟩
def excB (K : PySem.W.Frag) (x : Str) : Bool := He.eqO (PySem.W.findIn K (.ref (He.ga K x)) "__getattribute__") (some (some (.builtin "BaseException.__getattribute__"))) && (He.eqO (PySem.W.findIn K (.ref (He.ga K x)) "__getattr__") (some none) &&
  (decide (PySem.W.subIn K (.ref (He.ga K x)) (.type "BaseException") = some true) && (PySem.W.hasDictIn K (He.ga K x) && (He.eqO (PySem.W.findIn K (.ref (He.ga K x)) "__class__") (some (some (.builtin "object.__class__"))) &&
  (He.eqO (PySem.W.specialIn K (.builtin "object.__class__") "__get__") (some (some (.builtin "getset_descriptor.__get__"))) && (decide (PySem.W.takesIn K (.builtin "object.__class__") = some true) && decide (PySem.W.mroIn K (He.ga K x) (.type "object") = some true)))))))
theorem excB_ok {K : PySem.W.Frag} {x : Str} (h : excB K x = true) : ExcC K (He.ga K x) := by
  unfold excB at h
  obtain ⟨h1, h⟩ := He.ba h
  obtain ⟨h2, h⟩ := He.ba h
  obtain ⟨h3, h⟩ := He.ba h
  obtain ⟨h4, h⟩ := He.ba h
  obtain ⟨h5, h⟩ := He.ba h
  obtain ⟨h6, h⟩ := He.ba h
  obtain ⟨h7, h8⟩ := He.ba h
  exact ⟨He.eqO_ok h1, He.eqO_ok h2, of_decide_eq_true h3, h4, He.eqO_ok h5, He.eqO_ok h6, of_decide_eq_true h7, of_decide_eq_true h8⟩
def kitB2 (K : PySem.W.Frag) (x : Str) (c : Value) (b : Bool) : Bool := decide (PySem.W.kitOne K (.ref (He.ga K x)) c = some b)
theorem xat {K : PySem.W.Frag} {l : List (PySem.W.Frag → Bool)} (h : (l.all fun f => f K) = true) (i : Nat) {f : PySem.W.Frag → Bool} (e : l[i]? = some f) : f K = true := List.all_eq_true.mp h f (List.mem_of_getElem? e)
/-! ### readings, step by step -/
section
variable {σ : L2.St} {H : Hp} {Q : VK} {v : V} {ta tb tc te : TE} {tt tu : TT} {K : PySem.W.Frag} {i j : Nat}
theorem k_var (h : σ[i]? = some (some v)) (q : Q v H) : tVar i σ H Q := ⟨v, h, q⟩
theorem k_c (q : Q v H) : tC v σ H Q := q
theorem k_op {r : R2} (q : ta σ H fun x H1 => tb σ H1 fun y H2 => r x y H2 Q) : tOp r ta tb σ H Q := q
theorem k_un {r : V → Hp → VK → Prop} (q : ta σ H fun x H1 => r x H1 Q) : tUn r ta σ H Q := q
theorem k_neg {a : Int} (q : Q (.int (-a)) H) : rU (fun i => .int (-i)) (.int a) H Q := ⟨a, rfl, q⟩
theorem k_I0 {g : Int → Int → V} {a b : Int} (q : Q (g a b) H) : rI0 g (.int a) (.int b) H Q := ⟨a, b, rfl, rfl, q⟩
theorem k_I {C : Int → Int → Prop} {g : Int → Int → V} {a b : Int} (q : Q (g a b) H) (c : C a b) : rI C g (.int a) (.int b) H Q := ⟨a, b, rfl, rfl, c, q⟩
theorem k_addI {a b : Int} (q : Q (.int (a + b)) H) : rAddU K (.int a) (.int b) H Q := .inl ⟨a, b, rfl, rfl, q⟩
theorem k_addS {a b : Str} (q : Q (.str (a ++ b)) H) (c : a.length + b.length ≤ sizeLine) : rAddU K (.str a) (.str b) H Q := .inr (.inl ⟨a, b, rfl, rfl, c, q⟩)
theorem k_addL {a b : Addr} {xs ys : List V} (ha : H a = some (.lst xs)) (hb : H b = some (.lst ys)) (q : ∀ p H', H p = none → Same H H' → H' p = some (.lst (xs ++ ys)) → Q (.ref p) H') (c : xs.length + ys.length ≤ sizeLine) : rAddU K (.ref a) (.ref b) H Q :=
  .inr (.inr (.inl ⟨a, b, xs, ys, rfl, rfl, ha, hb, c, fun p hp => q p _ hp (same_new hp) upd_same⟩))
theorem k_addT {a b : Addr} {xs ys : List V} (ha : SqT K H a xs) (hb : SqT K H b ys) (hx : xs ≠ []) (hy : ys ≠ []) (q : ∀ p H', H p = none → Same H H' → H' p = some (.tup (xs ++ ys)) → Q (.ref p) H') (c : xs.length + ys.length ≤ sizeLine) : rAddU K (.ref a) (.ref b) H Q :=
  .inr (.inr (.inr (.inl ⟨a, b, xs, ys, rfl, rfl, ha, hb, c, fun e => absurd e hx, fun _ e => absurd e hy, fun _ _ p hp => q p _ hp (same_new hp) upd_same⟩)))
theorem k_mulI {a b : Int} (q : Q (.int (a * b)) H) (c : CMulX a b) : rMulU K (.int a) (.int b) H Q := .inl ⟨a, b, rfl, rfl, c, q⟩
theorem k_mulS {z : Str} {i : Int} (hz : z.length ≤ 16) (h0 : 0 ≤ i) (h1 : i ≤ 1048576) (q : ∀ u : Str, (u.length : Int) = z.length * i → Q (.str u) H) : rMulU K (.str z) (.int i) H Q := .inr (.inr (.inr (.inl ⟨z, i, rfl, rfl, hz, h0, h1, q⟩)))
theorem k_mulC {c n : Nat} (h1 : 1 ≤ n) (h2 : n ≤ 1000) (q : Q (.str (SX.S (List.replicate n c))) H) : rMulU K (.str (SX.S [c])) (.int (n : Int)) H Q := .inr (.inr (.inr (.inr (.inr ⟨c, n, rfl, rfl, h1, h2, q⟩))))
/-- a tuple of one, repeated -/
theorem k_mulRT {l : Addr} {y : V} {k : Nat} (h : SqT K H l [y]) (h1 : 1 ≤ k) (h2 : k ≤ 1000) (q : ∀ p H', Same H H' → SqT K H' p (List.replicate k y) → Q (.ref p) H') : rMulU K (.ref l) (.int (k : Int)) H Q := by
  by_cases e : k = 1
  · subst e
    exact .inr (.inr (.inr (.inr (.inl ⟨l, _, rfl, rfl, h, q l H (Same.refl H) h⟩))))
  · refine .inr (.inr (.inl ⟨l, _, _, rfl, rfl, h, by simp, by omega, by omega, by simp, fun p hp => q p _ (same_new hp) ?_⟩))
    have e2 : ∀ n : Nat, (List.replicate n [y]).flatten = List.replicate n y := fun n => by
      induction n with
      | zero => rfl
      | succ n ih => rw [List.replicate_succ, List.flatten_cons, ih, List.replicate_succ]; rfl
    rw [show ((k : Int)).toNat = k from rfl, e2]
    exact SqT.of upd_same
theorem k_eqS {x y : V} (h : scal x y = true) (q : Q (.bl (decide (x = y))) H) : rEqU K x y H Q := .inl ⟨h, q⟩
theorem k_neS {x y : V} (h : scal x y = true) (q : Q (.bl (!decide (x = y))) H) : rNeU K x y H Q := .inl ⟨h, q⟩
theorem dec_int {a b : Int} : decide (V.int a = V.int b) = decide (a = b) := by
  by_cases h : a = b
  · rw [h] <;> simp
  · rw [decide_eq_false h, decide_eq_false (fun e => h (V.int.inj e))]
theorem dec_str {a b : Str} : decide (V.str a = V.str b) = decide (a = b) := by
  by_cases h : a = b
  · rw [h] <;> simp
  · rw [decide_eq_false h, decide_eq_false (fun e => h (V.str.inj e))]
theorem dec_bl {a b : Bool} : decide (V.bl a = V.bl b) = decide (a = b) := by
  cases a <;> cases b <;> decide
theorem k_eqI {a b : Int} (q : Q (.bl (decide (a = b))) H) : rEqU K (.int a) (.int b) H Q := k_eqS rfl (by rw [dec_int]; exact q)
theorem k_neI {a b : Int} (q : Q (.bl (!decide (a = b))) H) : rNeU K (.int a) (.int b) H Q := k_neS rfl (by rw [dec_int]; exact q)
theorem k_eqT {a b : Str} (q : Q (.bl (decide (a = b))) H) : rEqU K (.str a) (.str b) H Q := k_eqS rfl (by rw [dec_str]; exact q)
theorem k_neT {a b : Str} (q : Q (.bl (!decide (a = b))) H) : rNeU K (.str a) (.str b) H Q := k_neS rfl (by rw [dec_str]; exact q)
theorem k_eqB {a b : Bool} (q : Q (.bl (decide (a = b))) H) : rEqU K (.bl a) (.bl b) H Q := k_eqS rfl (by rw [dec_bl]; exact q)
theorem k_neB {a b : Bool} (q : Q (.bl (!decide (a = b))) H) : rNeU K (.bl a) (.bl b) H Q := k_neS rfl (by rw [dec_bl]; exact q)
theorem k_eqD {x y : V} {d e : PyData} (hx : Dp K H x d) (hy : Dp K H y e) (q : Q (.bl (PyData.eqv d e)) H) (s1 : SeqAt.shaped d = true) (s2 : SeqAt.shaped e = true) : rEqU K x y H Q := .inr (.inl ⟨d, e, hx, hy, s1, s2, q⟩)
theorem k_eqNil {a b : Addr} {xs : List V} (hx : SqL K H a xs) (hb : H b = some (.lst [])) (q : Q (.bl xs.isEmpty) H) : rEqU K (.ref a) (.ref b) H Q := by
  cases xs with
  | nil => exact .inr (.inl ⟨.list [], .list [], .lst hx .nil, .lst (SqL.of hb) .nil, rfl, rfl, by simpa [PyData.eqv, PyData.eqvAll] using q⟩)
  | cons x r => exact .inr (.inr ⟨a, b, _, [], rfl, rfl, hx, SqL.of hb, by simp, q⟩)
theorem k_neD {x y : V} {d e : PyData} (hx : Dp K H x d) (hy : Dp K H y e) (q : Q (.bl (!PyData.eqv d e)) H) (s1 : SeqAt.shaped d = true) (s2 : SeqAt.shaped e = true) : rNeU K x y H Q := .inr (.inl ⟨d, e, hx, hy, s1, s2, q⟩)
theorem k_neNil {a b : Addr} {xs : List V} (hx : SqL K H a xs) (hb : H b = some (.lst [])) (q : Q (.bl (!xs.isEmpty)) H) : rNeU K (.ref a) (.ref b) H Q := by
  cases xs with
  | nil => exact .inr (.inl ⟨.list [], .list [], .lst hx .nil, .lst (SqL.of hb) .nil, rfl, rfl, by simpa [PyData.eqv, PyData.eqvAll] using q⟩)
  | cons x r => exact .inr (.inr ⟨a, b, _, [], rfl, rfl, hx, SqL.of hb, by simp, q⟩)
theorem k_in0 {x : V} {p : Addr} {xs : List V} {b : Bool} (h : SqL K H p xs ∨ SqT K H p xs) (hx : flatV x = true) (ha : xs.all flatV = true) (e : inV x xs = b) (q : Q (.bl b) H) : rIn K false x (.ref p) H Q := ⟨p, xs, rfl, h, hx, ha, by rw [e]; exact q⟩
theorem k_ni0 {x : V} {p : Addr} {xs : List V} {b : Bool} (h : SqL K H p xs ∨ SqT K H p xs) (hx : flatV x = true) (ha : xs.all flatV = true) (e : inV x xs = b) (q : Q (.bl (!b)) H) : rIn K true x (.ref p) H Q := ⟨p, xs, rfl, h, hx, ha, by rw [e]; exact q⟩
/-- True stands in no list of False -/
theorem k_notIn {p : Addr} {xs : List V} (h : SqL K H p xs) (ha : xs.all flatV = true) (e : inV (.bl true) xs = false) (q : Q (.bl true) H) : rIn K true (.bl true) (.ref p) H Q := k_ni0 (.inl h) rfl ha e q
/-- tests -/
theorem k_tst {Q : Bool → Hp → Prop} (q : te σ H fun x H' => ∃ k, x = .bl k ∧ Q k H') : tTest te σ H Q := q
theorem k_B {Q : Bool → Hp → Prop} (q : te σ H fun x H' => ∃ k, x = .bl k ∧ Q k H') : tB te σ H Q := q
theorem k_bl {Q : Bool → Prop} {b : Bool} (q : Q b) : ∃ k, V.bl b = .bl k ∧ Q k := ⟨b, rfl, q⟩
theorem k_and {Q : Bool → Hp → Prop} (q : tt σ H fun c H1 => if c = true then tu σ H1 Q else Q false H1) : tAnd tt tu σ H Q := q
theorem k_or {Q : Bool → Hp → Prop} (q : tt σ H fun c H1 => if c = true then Q true H1 else tu σ H1 Q) : tOr tt tu σ H Q := q
theorem k_not {Q : Bool → Hp → Prop} (q : tt σ H fun c H1 => Q (!c) H1) : tNot tt σ H Q := q
theorem k_andV (q : ta σ H fun x H1 => ∃ c, x = .bl c ∧ if c = true then tb σ H1 Q else Q (.bl false) H1) : tAndV ta tb σ H Q := q
theorem k_orV (q : ta σ H fun x H1 => ∃ c, x = .bl c ∧ if c = true then Q (.bl true) H1 else tb σ H1 Q) : tOrV ta tb σ H Q := q
theorem k_notV (q : ta σ H fun x H1 => ∃ c, x = .bl c ∧ Q (.bl (!c)) H1) : tNotV ta σ H Q := q
theorem k_ife (q : tt σ H fun c H1 => if c = true then ta σ H1 Q else tb σ H1 Q) : tIf tt ta tb σ H Q := q
theorem k_chain {r r' : R2} (q : ta σ H fun x H1 => tb σ H1 fun y H2 => r x y H2 fun z H3 => ∃ k, z = .bl k ∧ (if k = true then tc σ H3 fun w' H4 => r' y w' H4 Q else Q (.bl false) H3)) : tChain r r' ta tb tc σ H Q := q
theorem k_tru {Q : Bool → Hp → Prop} {x : V} {b : Bool} (h : TruV K x H b) (q : Q b H) : ∃ k, TruV K x H k ∧ Q k H := ⟨b, h, q⟩
/-- a branch -/
theorem k_if {c : Prop} [Decidable c] {A B : Prop} (h1 : c → A) (h2 : ¬ c → B) : if decide c = true then A else B := by
  by_cases h : c
  · rw [if_pos (decide_eq_true h)]
    exact h1 h
  · rw [if_neg (by rw [decide_eq_false h]; decide)]
    exact h2 h
theorem k_ifn {c : Prop} [Decidable c] {A B : Prop} (h1 : ¬ c → A) (h2 : c → B) : if (!decide c) = true then A else B := by
  by_cases h : c
  · rw [if_neg (by rw [decide_eq_true h]; decide)]
    exact h2 h
  · rw [if_pos (by rw [decide_eq_false h]; decide)]
    exact h1 h
theorem k_ifb {b : Bool} {A B : Prop} (h1 : b = true → A) (h2 : b = false → B) : if b = true then A else B := by
  cases b with
  | true => exact h1 rfl
  | false => exact h2 rfl
theorem k_ifnb {b : Bool} {A B : Prop} (h1 : b = false → A) (h2 : b = true → B) : if (!b) = true then A else B := by
  cases b with
  | true => exact h2 rfl
  | false => exact h1 rfl
theorem k_ifnd {c : Prop} [Decidable c] {A B : Prop} (h1 : ¬ c → A) (h2 : c → B) : if (!decide c) = true then A else B := k_ifn h1 h2
theorem k_ifT {A B : Prop} (h : A) : if true = true then A else B := iteT h
theorem k_ifF {A B : Prop} (h : B) : if false = true then A else B := iteF h
theorem k_ifnT {A B : Prop} (h : B) : if (!true) = true then A else B := iteF h
theorem k_ifnF {A B : Prop} (h : A) : if (!false) = true then A else B := iteT h
/-- calls, arguments, displays -/
theorem k_cb {r : List V → Hp → VK → Prop} {t : TA} (q : t σ H fun vs H1 => r vs H1 Q) : tCB r t σ H Q := q
theorem k_cons {t : TA} {Q : List V → Hp → Prop} (q : ta σ H fun x H1 => t σ H1 fun xs H2 => Q (x :: xs) H2) : tCons ta t σ H Q := q
theorem k_nil {Q : List V → Hp → Prop} (q : Q [] H) : tNil σ H Q := q
theorem k_callS {sp : Sp} {W : WX} {t : TA} (q : t σ H fun vs H1 => sp vs H1 Q (WE W σ)) : tCallS sp (WE W) t σ H Q := q
theorem k_call {sp : Sp} {t : TA} {E : XK} (q : t σ H fun vs H1 => sp vs H1 Q E) : tCall sp [] E t σ H Q := by
  show t σ H fun vs H1 => sp (vs ++ []) H1 Q E
  simp only [List.append_nil]
  exact q
def rTupX (xs : List V) (H : Hp) (Q : VK) : Prop := xs.length ≤ sizeLine ∧ ∀ p, H p = none → Q (.ref p) (upd H p (.tup xs))
def rLstX (xs : List V) (H : Hp) (Q : VK) : Prop := xs.length ≤ sizeLine ∧ ∀ p, H p = none → Q (.ref p) (upd H p (.lst xs))
theorem k_tupx {xs : List V} (q : ∀ p H2, H p = none → Same H H2 → H2 p = some (.tup xs) → Q (.ref p) H2) (c : xs.length ≤ sizeLine) : rTupX xs H Q := ⟨c, fun p hp => q p _ hp (same_new hp) upd_same⟩
theorem k_lstx {xs : List V} (q : ∀ p H2, H p = none → Same H H2 → H2 p = some (.lst xs) → Q (.ref p) H2) (c : xs.length ≤ sizeLine) : rLstX xs H Q := ⟨c, fun p hp => q p _ hp (same_new hp) upd_same⟩
theorem k_tup0 {t : TA} (q : t σ H fun xs H1 => rTupX xs H1 Q) : tTup t σ H Q := q
theorem k_lst0 {t : TA} (q : t σ H fun xs H1 => rLstX xs H1 Q) : tLst t σ H Q := q
/-- subscripts -/
theorem k_ixL {p : Addr} {xs : List V} {i : Int} (h : SqL K H p xs) (ha : atI xs i = some v) (q : Q v H) : rIx K (.ref p) (.int i) H Q := .inl ⟨p, xs, i, v, rfl, rfl, h, ha, q⟩
theorem k_ixT {p : Addr} {xs : List V} {i : Int} (h : SqT K H p xs) (ha : atI xs i = some v) (q : Q v H) : rIx K (.ref p) (.int i) H Q := .inr (.inl ⟨p, xs, i, v, rfl, rfl, h, ha, q⟩)
/-! statements -/
variable {D : Ends} {t u : TS} {g : TG}
theorem k_seq (q : t { D with nx := u D } σ H) : tSeq t u D σ H := q
theorem k_asg  (q : te σ H fun x H1 => g x σ H1 D.nx) : tAsg te g D σ H := q
theorem k_gn {Q : L2.St → Hp → Prop} (q : Q (σ.set i (some v)) H) : gName i v σ H Q := q
theorem k_gtup {a : Addr} {xs : List V} {n : Nat} {t : TGs} {Q : L2.St → Hp → Prop} (h : SqT K H a xs) (hl : xs.length = n) (q : t xs σ H Q) : gTup K n t (.ref a) σ H Q := ⟨a, xs, rfl, h, hl, q⟩
theorem k_gcons {t : TG} {u : TGs} {r : List V} {Q : L2.St → Hp → Prop} (q : t v σ H fun σ' H' => u r σ' H' Q) : gCons t u (v :: r) σ H Q := ⟨v, r, rfl, q⟩
theorem k_gnil {Q : L2.St → Hp → Prop} (q : Q σ H) : gNil [] σ H Q := ⟨rfl, q⟩
theorem k_drop (q : te σ H fun _ H1 => D.nx σ H1) : tDrop te D σ H := q
theorem k_ret (q : te σ H D.rt) : tRet te D σ H := q
theorem k_ifs (q : tt σ H fun c H1 => if c = true then t D σ H1 else u D σ H1) : tIfS tt t u D σ H := q
theorem k_next (q : D.nx σ H) : tNext D σ H := q
theorem k_par {ta : TA} (q : ta σ H fun vs H1 => ∃ v w, vs = [v, w] ∧ D.nx ((σ.set i (some v)).set j (some w)) H1) : tPar i j ta D σ H := q
theorem k_two {v w : V} {P : V → V → Prop} (q : P v w) : ∃ a b, [v, w] = [a, b] ∧ P a b := ⟨v, w, rfl, q⟩
theorem k_app {l : Addr} {xs : List V} {y : V} (h : H l = some (.lst xs)) (q : ∀ H', But l H H' → H' l = some (.lst (xs ++ [y])) → Q .non H') (c : xs.length < sizeLine) : tyV K "list" (.ref l) H ∧ rAppend (.ref l) [y] H Q :=
  ⟨.inl ⟨rfl, _, SqL.of h⟩, l, xs, y, rfl, rfl, h, c, q _ But.upd upd_same⟩
end
/-! ### the same, the written part by its name -/
section
variable {X : Cx} {K : PySem.W.Frag}
theorem op_addK (h : X.K = K) : OpR X (binaryOp .Add) (rAddU K) := h ▸ op_addU
theorem op_mulK (h : X.K = K) : OpR X (binaryOp .Mult) (rMulU K) := h ▸ op_mulU
theorem op_eqK {k : Nat} (h : X.K = K) (hr : Room k X.A) : OpR X (compareOp .Eq) (rEqU K) := h ▸ op_eqU hr
theorem op_neK {k : Nat} (h : X.K = K) (hr : Room k X.A) : OpR X (compareOp .NotEq) (rNeU K) := h ▸ op_neU hr
/-- in an except suite -/
theorem op_eqKS {k : Nat} {a : Addr} {pn : List (Addr × Obj)} (h : X.K = K) (hr : Room k X.A) : OpR (X.suite a pn) (compareOp .Eq) (rEqU K) := h ▸ op_eq.or ((op_eqD (X := X.suite a pn) (show X.A.units + 64 < cLine from hr.units)).or (op_eqL (X := X.suite a pn) (show X.A.units < cLine from hr.units0)))
theorem op_neKS {k : Nat} {a : Addr} {pn : List (Addr × Obj)} (h : X.K = K) (hr : Room k X.A) : OpR (X.suite a pn) (compareOp .NotEq) (rNeU K) := h ▸ op_ne.or ((op_neD (X := X.suite a pn) (show X.A.units + 64 < cLine from hr.units)).or (op_neL (X := X.suite a pn) (show X.A.units < cLine from hr.units0)))
theorem op_inK (h : X.K = K) : OpR X (compareOp .In) (rIn K false) := h ▸ op_in_seq
theorem op_niK (h : X.K = K) : OpR X (compareOp .NotIn) (rIn K true) := h ▸ op_notIn_seq
def rSlU (K : PySem.W.Frag) : V → Option Int → Option Int → Hp → VK → Prop := fun x lo hi H Q => rSlL K x lo hi H Q ∨ rSlS x lo hi H Q ∨ rSlA K x lo hi H Q
theorem sl_U {X : Cx} : SlR X (rSlU X.K) := sl_list.or (sl_str.or sl_tupA)
theorem sl_K (h : X.K = K) : SlR X (rSlU K) := h ▸ sl_U
theorem ix_K (h : X.K = K) : IxR X (rIx K) := h ▸ ix_seq
end
section
variable {σ : L2.St} {H : Hp} {Q : VK} {te : TE} {K : PySem.W.Frag}
/-! slices, an empty dict -/
theorem k_sl {r : V → Option Int → Option Int → Hp → VK → Prop} {tl th : TO} (q : te σ H fun x H1 => tl σ H1 fun lo H2 => th σ H2 fun hi H3 => r x lo hi H3 Q) : tSl r te tl th σ H Q := q
theorem k_part {Q : Option Int → Hp → Prop} (q : te σ H fun x H1 => ∃ i, x = .int i ∧ Q (some i) H1) : tPart te σ H Q := q
theorem k_noPart {Q : Option Int → Hp → Prop} (q : Q none H) : tNoPart σ H Q := q
theorem k_int {a : Int} {Q : Int → Prop} (q : Q a) : ∃ i, V.int a = .int i ∧ Q i := ⟨a, rfl, q⟩
theorem k_slL {a : Addr} {xs : List V} {lo hi : Option Int} (h : SqL K H a xs) (q : ∀ p H2, H p = none → Same H H2 → H2 p = some (.lst (cutV xs lo hi)) → Q (.ref p) H2) : rSlU K (.ref a) lo hi H Q := .inl ⟨a, xs, rfl, h, fun p hp => q p _ hp (same_new hp) upd_same⟩
theorem k_slS {z : Str} {lo hi : Option Int} (q : Q (.str (cutS z lo hi)) H) (c : z.length ≤ sizeLine) : rSlU K (.str z) lo hi H Q := .inr (.inl ⟨z, rfl, c, q⟩)
theorem k_slT {a : Addr} {xs : List V} {lo hi : Option Int} (h : SqT K H a xs) (c : ¬ (HT.sIx xs.length 0 lo = 0 ∧ HT.sIx xs.length xs.length hi = xs.length)) (q : ∀ p H2, H p = none → Same H H2 → H2 p = some (.tup (cutV xs lo hi)) → Q (.ref p) H2) : rSlU K (.ref a) lo hi H Q :=
  .inr (.inr ⟨a, xs, rfl, h, fun z => absurd z c, fun _ p hp => q p _ hp (same_new hp) upd_same⟩)
def rDictX (H : Hp) (Q : VK) : Prop := ∀ p, H p = none → Q (.ref p) (upd H p (.dK []))
theorem k_dict0 (q : rDictX H Q) : tDNewK σ H Q := q
theorem k_dict1 (q : ∀ p H2, H p = none → Same H H2 → H2 p = some (.dK []) → Q (.ref p) H2) : rDictX H Q := fun p hp => q p _ hp (same_new hp) upd_same
end
/-! ### built-ins by name -/
section
variable {X : Cx}
def rLenU (K : PySem.W.Frag) : List V → Hp → VK → Prop := fun xs H Q => ∃ x n, xs = [x] ∧ LenV K x H n ∧ Q (.int n) H
theorem call_lenU : CallR X (.builtin "len") (rLenU X.K) := call_len
def rAbsU : List V → Hp → VK → Prop := fun xs H Q => ∃ i, xs = [.int i] ∧ Q (.int (if i < 0 then -i else i)) H
theorem call_absU : CallR X (.builtin "abs") rAbsU := call_abs
def rMaxU : List V → Hp → VK → Prop := fun xs H Q => ∃ i j, xs = [.int i, .int j] ∧ Q (.int (if j > i then j else i)) H
theorem call_maxU (hc : X.calm = true) : CallR X (.builtin "max") rMaxU := call_max2 hc
def rMinU : List V → Hp → VK → Prop := fun xs H Q => ∃ i j, xs = [.int i, .int j] ∧ Q (.int (if j < i then j else i)) H
theorem call_minU (hc : X.calm = true) : CallR X (.builtin "min") rMinU := call_min2 hc
def rIntU : List V → Hp → VK → Prop := fun xs H Q => ((∃ i, xs = [.int i] ∧ Q (.int i) H) ∨ ∃ k, xs = [.bl k] ∧ Q (.int (if k then 1 else 0)) H) ∨ ∃ a n, xs = [.str a] ∧ PySem.intText? a = some n ∧ a.length ≤ 640 ∧ Q (.int n) H
theorem call_intU : CallR X (.type "int") rIntU := fun pins s σ H xs us Q I r h => h.elim (call_int1 pins s σ H xs us Q I r) (call_int_str pins s σ H xs us Q I r)
def rBoolU : List V → Hp → VK → Prop := fun xs H Q => (∃ i, xs = [.int i] ∧ Q (.bl (i != 0)) H) ∨ ∃ k, xs = [.bl k] ∧ Q (.bl k) H
theorem call_boolU : CallR X (.type "bool") rBoolU := call_bool1
def rStrU : List V → Hp → VK → Prop := fun xs H Q => ∃ i, xs = [.int i] ∧ i.natAbs.log2 < 1920 ∧ Q (.str (toString i)) H
theorem call_strU : CallR X (.type "str") rStrU := call_str_int
def rTupU (K : PySem.W.Frag) : List V → Hp → VK → Prop := fun xs H Q => ∃ p ys, xs = [.ref p] ∧ ((SqL K H p ys ∧ ∀ l, H l = none → Q (.ref l) (upd H l (.tup ys))) ∨ (SqT K H p ys ∧ Q (.ref p) H))
theorem call_tupU : CallR X (.type "tuple") (rTupU X.K) := call_tuple_of
def rLstU (K : PySem.W.Frag) : List V → Hp → VK → Prop := fun xs H Q => ∃ p ys, xs = [.ref p] ∧ (SqL K H p ys ∨ SqT K H p ys) ∧ ∀ l, H l = none → Q (.ref l) (upd H l (.lst ys))
theorem call_lstU : CallR X (.type "list") (rLstU X.K) := call_list_of
def rIsN : R2 := fun x y H Q => y = .non ∧ Q (.bl (decide (x = .non))) H
def rNotN : R2 := fun x y H Q => y = .non ∧ Q (.bl (!decide (x = .non))) H
theorem op_isNU : OpR X (compareOp .Is) rIsN := op_isN
theorem op_notNU : OpR X (compareOp .IsNot) rNotN := op_notN
end
section
variable {σ : L2.St} {H : Hp} {Q : VK} {K : PySem.W.Frag}
theorem k_lenL {p : Addr} {xs : List V} (q : Q (.int xs.length) H) (h : SqL K H p xs) : rLenU K [.ref p] H Q := ⟨.ref p, xs.length, rfl, .inl ⟨xs, h, rfl⟩, q⟩
theorem k_lenT {p : Addr} {xs : List V} (q : Q (.int xs.length) H) (h : SqT K H p xs) : rLenU K [.ref p] H Q := ⟨.ref p, xs.length, rfl, .inr ⟨xs, h, rfl⟩, q⟩
theorem k_lenS {x : Str} (q : Q (.int x.length) H) (h : x.length ≤ sizeLine) : rLenU K [.str x] H Q := ⟨.str x, x.length, rfl, ⟨h, rfl⟩, q⟩
theorem k_abs {a : Int} (q : Q (.int (a.natAbs : Int)) H) : rAbsU [.int a] H Q := ⟨a, rfl, by
  have e : (if a < 0 then -a else a) = (a.natAbs : Int) := by split <;> omega
  rw [e]
  exact q⟩
theorem k_max {a b : Int} (q : Q (.int (max a b)) H) : rMaxU [.int a, .int b] H Q := ⟨a, b, rfl, by
  have e : (if b > a then b else a) = max a b := by split <;> omega
  rw [e]
  exact q⟩
theorem k_min {a b : Int} (q : Q (.int (min a b)) H) : rMinU [.int a, .int b] H Q := ⟨a, b, rfl, by
  have e : (if b < a then b else a) = min a b := by split <;> omega
  rw [e]
  exact q⟩
theorem k_intI {a : Int} (q : Q (.int a) H) : rIntU [.int a] H Q := .inl (.inl ⟨a, rfl, q⟩)
theorem k_intB {b : Bool} (q : Q (.int (if b then 1 else 0)) H) : rIntU [.bl b] H Q := .inl (.inr ⟨b, rfl, q⟩)
theorem k_intS {a : Str} {n : Int} (h : PySem.intText? a = some n) (c : a.length ≤ 640) (q : Q (.int n) H) : rIntU [.str a] H Q := .inr ⟨a, n, rfl, h, c, q⟩
theorem k_boolI {a : Int} (q : Q (.bl (a != 0)) H) : rBoolU [.int a] H Q := .inl ⟨a, rfl, q⟩
theorem k_boolB {b : Bool} (q : Q (.bl b) H) : rBoolU [.bl b] H Q := .inr ⟨b, rfl, q⟩
theorem k_strI {a : Int} (q : Q (.str (toString a)) H) (c : a.natAbs.log2 < 1920) : rStrU [.int a] H Q := ⟨a, rfl, c, q⟩
theorem k_lstL {p : Addr} {xs : List V} (h : SqL K H p xs) (q : ∀ l H', H l = none → Same H H' → H' l = some (.lst xs) → Q (.ref l) H') : rLstU K [.ref p] H Q := ⟨p, xs, rfl, .inl h, fun l hl => q l _ hl (same_new hl) upd_same⟩
theorem k_lstT {p : Addr} {xs : List V} (h : SqT K H p xs) (q : ∀ l H', H l = none → Same H H' → H' l = some (.lst xs) → Q (.ref l) H') : rLstU K [.ref p] H Q := ⟨p, xs, rfl, .inr h, fun l hl => q l _ hl (same_new hl) upd_same⟩
theorem k_isN {x : V} (q : Q (.bl (decide (x = .non))) H) : rIsN x .non H Q := ⟨rfl, q⟩
theorem k_notN {x : V} (q : Q (.bl (!decide (x = .non))) H) : rNotN x .non H Q := ⟨rfl, q⟩
theorem k_powc {a b c : Int} (e : a ^ b.toNat = c) (hc : CPow a b) (q : Q (.int c) H) : rI CPow (fun i j => .int (i ^ j.toNat)) (.int a) (.int b) H Q := ⟨a, b, rfl, rfl, hc, by show Q (.int (a ^ b.toNat)) H; rw [e]; exact q⟩
theorem cpow {a b : Int} (h : 0 ≤ b) (h1 : b ≤ 1000000) (h2 : a.natAbs < 2 ^ 64) : CPow a b := ⟨h, h1, h2⟩
theorem k_mod {a b : Int} (hb : 0 < b) (q : Q (.int (a % b)) H) : rI (fun _ j => j ≠ 0) (fun i j => .int (i.fmod j)) (.int a) (.int b) H Q := ⟨a, b, rfl, rfl, by omega, by show Q (.int (a.fmod b)) H; rw [Int.fmod_eq_emod_of_nonneg a (by omega)]; exact q⟩
theorem k_log {b : Int} (h : b.natAbs < 2 ^ 64) : b.natAbs.log2 < 9000 := Nat.lt_of_lt_of_le (PySem.Flt.log2_lt_of (by decide) h) (by decide)
theorem k_div {a b : Int} (hb : 0 < b) (hl : b.natAbs.log2 < 9000) (q : Q (.int (a / b)) H) : rI CDivG (fun i j => .int (i.fdiv j)) (.int a) (.int b) H Q := ⟨a, b, rfl, rfl, ⟨by omega, PyProof.noPylong_of_log2 hl⟩, by show Q (.int (a.fdiv b)) H; rw [Int.fdiv_eq_ediv_of_nonneg a (by omega)]; exact q⟩
theorem k_mulB {a b : Int} {m n : Nat} (ha : a.natAbs < 2 ^ m) (hb : b.natAbs < 2 ^ n) (h : m + n ≤ 134217728) (q : Q (.int (a * b)) H) : rMulU K (.int a) (.int b) H Q := k_mulI q (mulx_ok ha hb h)
theorem k_pop {l : Addr} {xs : List V} {y : V} (h : H l = some (.lst (xs ++ [y]))) (q : ∀ H', But l H H' → H' l = some (.lst xs) → Q y H') : tyV K "list" (.ref l) H ∧ rPop (.ref l) [] H Q :=
  ⟨.inl ⟨rfl, _, SqL.of h⟩, l, _, y, rfl, rfl, h, by simp, q _ But.upd (by rw [List.dropLast_concat]; exact upd_same)⟩
theorem k_bm0 {T : String} {r : V → List V → Hp → VK → Prop} {te : TE} (q : te σ H fun x H1 => tyV K T x H1 ∧ r x [] H1 Q) : tBM0 K T r te σ H Q := q
theorem k_bm {T : String} {r : V → List V → Hp → VK → Prop} {te : TE} {t : TA} (q : te σ H fun x H1 => tyV K T x H1 ∧ t σ H1 fun xs H2 => r x xs H2 Q) : tBM K T r te t σ H Q := q
theorem k_app0 {l : Addr} {xs : List V} (h : H l = some (.lst xs)) : tyV K "list" (.ref l) H := .inl ⟨rfl, _, SqL.of h⟩
theorem k_app1 {l : Addr} {xs : List V} {y : V} (h : H l = some (.lst xs)) (c : xs.length < sizeLine) (q : ∀ H', But l H H' → H' l = some (.lst (xs ++ [y])) → Q .non H') : rAppend (.ref l) [y] H Q := ⟨l, xs, y, rfl, rfl, h, c, q _ But.upd upd_same⟩
def rRevX (K : PySem.W.Frag) (x : V) (H : Hp) (Q : VK) : Prop := ∃ a xs, x = .ref a ∧ SqL K H a xs ∧ ∀ p, H p = none → Q (.ref p) (upd H p (.lst xs.reverse))
theorem k_rev {te : TE} (q : te σ H fun x H1 => rRevX K x H1 Q) : tRevL K te σ H Q := q
theorem k_rev1 {p : Addr} {xs : List V} (h : SqL K H p xs) (q : ∀ l H', H l = none → Same H H' → H' l = some (.lst xs.reverse) → Q (.ref l) H') : rRevX K (.ref p) H Q := ⟨p, xs, rfl, h, fun l hl => q l _ hl (same_new hl) upd_same⟩
/-- isinstance -/
theorem k_isi {x c : V} {t u : Value} {b : Bool} (hc : ClsV c u) (ht : TyX K H x t) (hk : PySem.W.kitOne K t u = some b) (q : Q (.bl b) H) : rIsi K [x, c] H Q := ⟨x, c, t, u, b, rfl, hc, ht, hk, q⟩
theorem k_cut {t u : TS} {D : Ends} (M : L2.St → Hp → Prop) (h : t { D with nx := M } σ H) (k : ∀ σ' H', M σ' H' → u D σ' H') : C8.tCut t u D σ H := ⟨M, h, k⟩
theorem k_cut0 {t u : TS} {D : Ends} (h : t { D with nx := u D } σ H) : C8.tCut t u D σ H := ⟨_, h, fun _ _ q => q⟩
/-! loops -/
variable {D : Ends} {g : TG} {tb : TS} {j : Nat} {wi : TI}
def LoopI (J : It) (g : TG) (tb : TS) (D : Ends) (σ : L2.St) (H : Hp) : Prop := ∃ W : Nat → Nat → L2.St → Hp → Prop, (∃ m, W 0 m σ H) ∧ ∀ i m σ H, W i m σ H →
  (J.stop i H ∧ D.nx σ H) ∨ (J.go i H ∧ ∃ N : L2.St → Hp → Prop, (∀ σ' H', N σ' H' → ∃ m', m' < m ∧ W (i + 1) m' σ' H') ∧ ∀ x H', J.yld i H x H' → g x σ H' fun σ2 H2 => tb { D with nx := N, ct := N, bk := D.nx } σ2 H2)
theorem k_for (q : wi σ H fun J H1 => LoopI J g tb D σ H1) : tFor wi g tb D σ H := q
def rRng1 (vs : List V) (H : Hp) (R : It → Hp → Prop) : Prop := ∃ j : Int, vs = [.int j] ∧ -(2 ^ 62) ≤ j ∧ j < 2 ^ 62 ∧ R (Itr 0 j.toNat) H
def rRng2 (vs : List V) (H : Hp) (R : It → Hp → Prop) : Prop := ∃ i j : Int, vs = [.int i, .int j] ∧ (-(2 ^ 62) ≤ i ∧ i < 2 ^ 62 ∧ -(2 ^ 62) ≤ j ∧ j < 2 ^ 62) ∧ R (Itr i (j - i).toNat) H
def rItL (K : PySem.W.Frag) (x : V) (H : Hp) (R : It → Hp → Prop) : Prop := ∃ a, x = .ref a ∧ (∃ xs, SqL K H a xs) ∧ R (Itl K a) H
def rItT (K : PySem.W.Frag) (x : V) (H : Hp) (R : It → Hp → Prop) : Prop := ∃ a, x = .ref a ∧ (∃ xs, SqT K H a xs) ∧ R (Itt K a) H
theorem k_iRng1 {ta : TA} {R : It → Hp → Prop} (q : ta σ H fun vs H1 => rRng1 vs H1 R) : iRng1 ta σ H R := q
theorem k_iRng2 {ta : TA} {R : It → Hp → Prop} (q : ta σ H fun vs H1 => rRng2 vs H1 R) : iRng2 ta σ H R := q
theorem k_iList {tl : TE} {R : It → Hp → Prop} (q : tl σ H fun x H1 => rItL K x H1 R) : iList K tl σ H R := q
theorem k_iSeqU {tl : TE} {R : It → Hp → Prop} (q : tl σ H fun x H1 => rItU K x H1 R) : iSeqU K tl σ H R := q
theorem k_itUL {a : Addr} {xs : List V} {R : It → Hp → Prop} (h : SqL K H a xs) (q : R (Itl K a) H) : rItU K (.ref a) H R := ⟨a, rfl, .inl ⟨⟨xs, h⟩, q⟩⟩
theorem k_itUT {a : Addr} {xs : List V} {R : It → Hp → Prop} (h : SqT K H a xs) (q : R (Itt K a) H) : rItU K (.ref a) H R := ⟨a, rfl, .inr ⟨⟨xs, h⟩, q⟩⟩
theorem k_iTup {tl : TE} {R : It → Hp → Prop} (q : tl σ H fun x H1 => rItT K x H1 R) : iTup K tl σ H R := q
theorem k_rng1 {n : Int} {R : It → Hp → Prop} (c : -(2 ^ 62) ≤ n ∧ n < 2 ^ 62) (q : R (Itr 0 n.toNat) H) : rRng1 [.int n] H R := ⟨n, rfl, c.1, c.2, q⟩
theorem k_rng2 {m n : Int} {R : It → Hp → Prop} (c : -(2 ^ 62) ≤ m ∧ m < 2 ^ 62 ∧ -(2 ^ 62) ≤ n ∧ n < 2 ^ 62) (q : R (Itr m (n - m).toNat) H) : rRng2 [.int m, .int n] H R := ⟨m, n, rfl, c, q⟩
theorem k_itL {a : Addr} {xs : List V} {R : It → Hp → Prop} (h : SqL K H a xs) (q : R (Itl K a) H) : rItL K (.ref a) H R := ⟨a, rfl, ⟨xs, h⟩, q⟩
theorem k_itT {a : Addr} {xs : List V} {R : It → Hp → Prop} (h : SqT K H a xs) (q : R (Itt K a) H) : rItT K (.ref a) H R := ⟨a, rfl, ⟨xs, h⟩, q⟩
/-- for x in range(..) -/
theorem k_loopR {n : Nat} (P : Nat → L2.St → Hp → Prop) (h0 : P 0 σ H) (hs : ∀ (i : Nat) σ H, i < n → P i σ H → tb { D with nx := P (i + 1), ct := P (i + 1), bk := D.nx } (σ.set j (some (.int (i : Int)))) H)
    (hd : ∀ σ H, P n σ H → D.nx σ H) : LoopI (Itr 0 n) (gName j) tb D σ H := for_range P h0 (fun i σ H hi p => by
      show tb _ (σ.set j (some (.int (0 + (i : Int))))) H
      rw [Int.zero_add]
      exact hs i σ H hi p) hd
theorem k_loopR2 {lo : Int} {n : Nat} (P : Nat → L2.St → Hp → Prop) (h0 : P 0 σ H) (hs : ∀ (i : Nat) σ H, i < n → P i σ H → tb { D with nx := P (i + 1), ct := P (i + 1), bk := D.nx } (σ.set j (some (.int (lo + (i : Int))))) H)
    (hd : ∀ σ H, P n σ H → D.nx σ H) : LoopI (Itr lo n) (gName j) tb D σ H := for_range P h0 hs hd
theorem k_loopL {a : Addr} {xs : List V} (P : Nat → L2.St → Hp → Prop) (h0 : P 0 σ H) (hl : ∀ i σ H, i ≤ xs.length → P i σ H → SqL K H a xs)
    (hs : ∀ (i : Nat) x σ H, xs[i]? = some x → P i σ H → g x σ H fun σ2 H2 => tb { D with nx := P (i + 1), ct := P (i + 1), bk := D.nx } σ2 H2) (hd : ∀ σ H, P xs.length σ H → D.nx σ H) : LoopI (Itl K a) g tb D σ H := for_list P h0 hl hs hd
theorem k_loopT {a : Addr} {xs : List V} (P : Nat → L2.St → Hp → Prop) (h0 : P 0 σ H) (hl : ∀ i σ H, i ≤ xs.length → P i σ H → SqT K H a xs)
    (hs : ∀ (i : Nat) x σ H, xs[i]? = some x → P i σ H → g x σ H fun σ2 H2 => tb { D with nx := P (i + 1), ct := P (i + 1), bk := D.nx } σ2 H2) (hd : ∀ σ H, P xs.length σ H → D.nx σ H) : LoopI (Itt K a) g tb D σ H := for_tup P h0 hl hs hd
theorem k_loopU {a : Addr} {xs : List V} (hS : SqL K H a xs ∨ SqT K H a xs) (P : Nat → L2.St → Hp → Prop) (h0 : P 0 σ H) (hl : ∀ i σ' H', P i σ' H' → Same H H')
    (hs : ∀ (i : Nat) x σ H, xs[i]? = some x → P i σ H → g x σ H fun σ2 H2 => tb { D with nx := P (i + 1), ct := P (i + 1), bk := D.nx } σ2 H2) (hd : ∀ σ H, P xs.length σ H → D.nx σ H) : rItU K (.ref a) H fun J H1 => LoopI J g tb D σ H1 := by
  rcases hS with hS | hS
  · exact k_itUL hS (k_loopL P h0 (fun i σ' H' _ p => seqL_same (hl i σ' H' p) hS) hs hd)
  · exact k_itUT hS (k_loopT P h0 (fun i σ' H' _ p => seqT_same (hl i σ' H' p) hS) hs hd)
/-- while: P with a number that falls -/
def Less (P : Nat → L2.St → Hp → Prop) (m : Nat) : L2.St → Hp → Prop := fun σ H => ∃ m', m' < m ∧ P m' σ H
theorem k_while {tc : TT} (P : Nat → L2.St → Hp → Prop) (m : Nat) (h0 : P m σ H)
    (hs : ∀ m σ H, P m σ H → tc σ H fun b H1 => if b = true then ∃ N : L2.St → Hp → Prop, (∀ σ' H', N σ' H' → ∃ m', m' < m ∧ P m' σ' H') ∧ tb { D with nx := N, ct := N, bk := D.nx } σ H1 else D.nx σ H1) : tWhile tc tb D σ H := ⟨P, ⟨m, h0⟩, hs⟩
theorem k_wN {P : Nat → L2.St → Hp → Prop} {m : Nat} (q : tb { D with nx := Less P m, ct := Less P m, bk := D.nx } σ H) : ∃ N : L2.St → Hp → Prop, (∀ σ' H', N σ' H' → ∃ m', m' < m ∧ P m' σ' H') ∧ tb { D with nx := N, ct := N, bk := D.nx } σ H := ⟨_, fun _ _ h => h, q⟩
end
/-! more steps -/
section
variable {σ : L2.St} {H : Hp} {Q : VK} {v : V} {te to ti : TE} {K : PySem.W.Frag} {D : Ends} {i : Nat}
theorem k_aug {ip : TIp} (h : σ[i]? = some (some v)) (q : te σ H fun y H1 => ip v y H1 fun z H2 => D.nx (σ.set i (some z)) H2) : tAug i te ip D σ H := ⟨v, h, q⟩
theorem k_ip {f : Int → Int → Int} {a b : Int} (q : Q (.int (f a b)) H) : ipI f (.int a) (.int b) H Q := ⟨a, b, rfl, rfl, q⟩
theorem k_gsub {t : TSet} {Q : L2.St → Hp → Prop} (q : to σ H fun o H1 => ti σ H1 fun i H2 => t o i v H2 fun H3 => Q σ H3) : gSub to ti t v σ H Q := q
theorem k_setL {p : Addr} {xs : List V} {k : Int} {j : Nat} {Q : Hp → Prop} (h : H p = some (.lst xs)) (hj : ixN xs.length k = some j) (q : ∀ H', But p H H' → H' p = some (.lst (xs.set j v)) → Q H') : rSetL (.ref p) (.int k) v H Q := ⟨p, xs, k, j, rfl, rfl, h, hj, q _ But.upd upd_same⟩
theorem ixN_nat {n j : Nat} (h : j < n) : ixN n (j : Int) = some j := by
  unfold ixN
  rw [if_pos (by omega), if_pos (by omega)]
  rfl
theorem k_m1 {r : V → List V → Hp → VK → Prop} (q : to σ H fun x H1 => (∃ a, x = .str a) ∧ te σ H1 fun y H2 => r x [y] H2 Q) : tM1 r to te σ H Q := q
theorem k_m0 {r : V → List V → Hp → VK → Prop} (q : to σ H fun x H1 => (∃ a, x = .str a) ∧ r x [] H1 Q) : tM0 r to σ H Q := q
theorem k_isS {a : Str} {B : Prop} (q : B) : (∃ b, V.str a = .str b) ∧ B := ⟨⟨a, rfl⟩, q⟩
def rJoinU (K : PySem.W.Frag) : V → List V → Hp → VK → Prop := fun x xs H Q => ∃ a p, ∃ ys : List Str, x = .str a ∧ xs = [.ref p] ∧ (SqL K H p (ys.map V.str) ∨ SqT K H p (ys.map V.str)) ∧ (ys.map (·.length)).sum + ys.length * a.length ≤ 16777216 ∧ Q (.str (Txt.join a ys)) H
theorem mt_joinK {X : Cx} (h : X.K = K) : MtR X "str.join" (rJoinU K) := h ▸ mt_join
theorem k_join {a : Str} {p : Addr} {ys : List Str} (h : SqL K H p (ys.map V.str) ∨ SqT K H p (ys.map V.str)) (c : (ys.map (·.length)).sum + ys.length * a.length ≤ 16777216) (q : Q (.str (Txt.join a ys)) H) : rJoinU K (.str a) [.ref p] H Q := ⟨a, p, ys, rfl, rfl, h, c, q⟩
theorem k_ixS {z : Str} {i : Int} {c : Nat} (hz : z.length ≤ sizeLine) (h : atI z.cps.toList i = some c) (q : Q (.str ⟨#[c]⟩) H) : rIx K (.str z) (.int i) H Q := .inr (.inr ⟨z, i, c, rfl, rfl, hz, h, q⟩)
theorem k_sum {a : Addr} {ns : List Int} (h : SqL K H a (ns.map V.int)) (q : Q (.int ns.sum) H) : rSum K [.ref a] H Q := ⟨a, ns, rfl, h, q⟩
end
/-- in, not in: of flat things, of data, of a text in a text -/
def rInU (K : PySem.W.Frag) : R2 := fun x y H Q => rIn K false x y H Q ∨ rInD K x y H Q ∨ (∃ i j, x = .str i ∧ y = .str j ∧ Q (.bl (!(Builtin.Str.occurrences j i 0 j.length 1).isEmpty)) H)
def rNiU (K : PySem.W.Frag) : R2 := fun x y H Q => rIn K true x y H Q ∨ rNotInD K x y H Q ∨ (∃ i j, x = .str i ∧ y = .str j ∧ Q (.bl (!(!(Builtin.Str.occurrences j i 0 j.length 1).isEmpty))) H)
theorem Room.un65 {k : Nat} {A : Around} (r : Room k A) : A.units + 65 < cLine := by have := r.un; omega
theorem op_inUK {X : Cx} {K : PySem.W.Frag} {k : Nat} (h : X.K = K) (hr : Room k X.A) : OpR X (compareOp .In) (rInU K) := h ▸ op_in_seq.or ((op_inD (Room.un65 hr)).or op_in_str)
theorem op_niUK {X : Cx} {K : PySem.W.Frag} {k : Nat} (h : X.K = K) (hr : Room k X.A) : OpR X (compareOp .NotIn) (rNiU K) := h ▸ op_notIn_seq.or ((op_notInD (Room.un65 hr)).or op_notIn_str)
section
variable {H : Hp} {Q : VK} {K : PySem.W.Frag}
theorem k_in {x : V} {p : Addr} {xs : List V} {b : Bool} (h : SqL K H p xs ∨ SqT K H p xs) (hx : flatV x = true) (ha : xs.all flatV = true) (e : inV x xs = b) (q : Q (.bl b) H) : rInU K x (.ref p) H Q := .inl (k_in0 h hx ha e q)
theorem k_ni {x : V} {p : Addr} {xs : List V} {b : Bool} (h : SqL K H p xs ∨ SqT K H p xs) (hx : flatV x = true) (ha : xs.all flatV = true) (e : inV x xs = b) (q : Q (.bl (!b)) H) : rNiU K x (.ref p) H Q := .inl (k_ni0 h hx ha e q)
theorem k_inD {x y : V} {d : PyData} {ds : List PyData} (hx : Dp K H x d) (hy : Dp K H y (.list ds)) (s1 : SeqAt.shaped d = true) (s2 : SeqAt.shaped (.list ds) = true) (q : Q (.bl (ds.any fun z => PyData.eqv z d)) H) : rInU K x y H Q := .inr (.inl ⟨d, ds, hx, hy, s1, s2, q⟩)
theorem k_niD {x y : V} {d : PyData} {ds : List PyData} (hx : Dp K H x d) (hy : Dp K H y (.list ds)) (s1 : SeqAt.shaped d = true) (s2 : SeqAt.shaped (.list ds) = true) (q : Q (.bl (!ds.any fun z => PyData.eqv z d)) H) : rNiU K x y H Q := .inr (.inl ⟨d, ds, hx, hy, s1, s2, q⟩)
theorem k_inS {x y : Str} (q : Q (.bl (!(Builtin.Str.occurrences y x 0 y.length 1).isEmpty)) H) : rInU K (.str x) (.str y) H Q := .inr (.inr ⟨x, y, rfl, rfl, q⟩)
theorem k_niS {x y : Str} (q : Q (.bl (!(!(Builtin.Str.occurrences y x 0 y.length 1).isEmpty))) H) : rNiU K (.str x) (.str y) H Q := .inr (.inr ⟨x, y, rfl, rfl, q⟩)
end
/-- a dict of one pair, its key a text -/
def rDisp1 (p : Addr) (x y : V) (H : Hp) (Q : VK) : Prop := H p = some (.dK []) ∧ ∃ kvs : List (Key × V), [(x, y)] = kvs.map (fun kv => (kV kv.1, kv.2)) ∧ kvs.length ≤ 15 ∧ Q (.ref p) (upd H p (.dK (mergeK [] kvs)))
theorem k_disp1 {σ : L2.St} {H : Hp} {Q : VK} {tk tv : TE} (q : ∀ p H1, H p = none → Same H H1 → H1 p = some (.dK []) → tk σ H1 fun x H2 => tv σ H2 fun y H3 => rDisp1 p x y H3 Q) : tDisp [(tk, tv)] σ H Q := fun p hp => q p _ hp (same_new hp) upd_same
theorem k_disp1x {p : Addr} {z : Str} {y : V} {H : Hp} {Q : VK} (h : H p = some (.dK [])) (q : ∀ H', But p H H' → H' p = some (.dK [(.inr z, y)]) → Q (.ref p) H') : rDisp1 p (.str z) y H Q := ⟨h, [(.inr z, y)], rfl, by simp, q _ But.upd upd_same⟩
theorem k_ev {te : TE} {g : TG} {D : Ends} {σ : L2.St} {H : Hp} (P : V → Hp → Prop) (h : ∀ Q : VK, (∀ v H', P v H' → Q v H') → te σ H Q) (q : ∀ v H', P v H' → g v σ H' D.nx) : tAsg te g D σ H := h _ q
theorem k_evT {tt : TT} {t u : TS} {D : Ends} {σ : L2.St} {H : Hp} (P : Bool → Hp → Prop) (h : ∀ Q : Bool → Hp → Prop, (∀ b H', P b H' → Q b H') → tt σ H Q) (q : ∀ b H', P b H' → if b = true then t D σ H' else u D σ H') : tIfS tt t u D σ H := h _ q
/-! ### list comprehensions -/
section
variable {σ : L2.St} {H : Hp} {Q : VK} {K : PySem.W.Frag} {g : TG} {tt : TT} {te : TE} {vs : List Nat} {wi : TI}
def LcB (D : Addr) (g : TG) (tt : TT) (te : TE) (vs : List Nat) (σ : L2.St) (x : V) (H : Hp) (N : Hp → Prop) : Prop := g x (wipe σ vs) H fun σ2 H2 => wipe σ2 vs = wipe σ vs ∧ tt σ2 H2 fun b H3 =>
  if b = true then te σ2 H3 fun y H4 => ∃ acc, H4 D = some (.lst acc) ∧ acc.length < sizeLine ∧ N (upd H4 D (.lst (acc ++ [y]))) else N H3
def LcX (J : It) (g : TG) (tt : TT) (te : TE) (vs : List Nat) (σ : L2.St) (H : Hp) (Q : VK) : Prop := ∀ D, H D = none → ∃ W : Nat → Nat → Hp → Prop, (∃ m, W 0 m (upd H D (.lst []))) ∧ ∀ i m H, W i m H →
  (J.stop i H ∧ Q (.ref D) H) ∨ (J.go i H ∧ ∃ Nx : Hp → Prop, (∀ H', Nx H' → ∃ m', m' < m ∧ W (i + 1) m' H') ∧ ∀ x H', J.yld i H x H' → LcB D g tt te vs σ x H' Nx)
theorem k_lc (q : wi σ H fun J H1 => LcX J g tt te vs σ H1 Q) : tLc wi g tt te vs σ H Q := q
/-- one turn: the element kept, or not -/
theorem k_lcY {y : V} {D : Addr} {acc : List V} {P : Hp → Prop} (h : H D = some (.lst acc)) (hz : acc.length < sizeLine) (q : ∀ H', But D H H' → H' D = some (.lst (acc ++ [y])) → P H') : ∃ acc, H D = some (.lst acc) ∧ acc.length < sizeLine ∧ P (upd H D (.lst (acc ++ [y]))) :=
  ⟨acc, h, hz, q _ But.upd upd_same⟩
theorem k_lcU {a : Addr} {xs : List V} (hS : SqL K H a xs ∨ SqT K H a xs) (P : Addr → Nat → List V → Hp → Prop) (h0 : ∀ D H', H D = none → Same H H' → H' D = some (.lst []) → P D 0 [] H') (hl : ∀ D i ys H', H D = none → P D i ys H' → Same H H')
    (hs : ∀ D (i : Nat) x ys H', H D = none → xs[i]? = some x → P D i ys H' → H' D = some (.lst ys) → LcB D g tt te vs σ x H' fun H'' => ∃ zs, P D (i + 1) zs H'' ∧ H'' D = some (.lst zs))
    (hd : ∀ D ys H', H D = none → P D xs.length ys H' → H' D = some (.lst ys) → Q (.ref D) H') : rItU K (.ref a) H fun J H1 => LcX J g tt te vs σ H1 Q := by
  rcases hS with hS | hS
  · exact k_itUL hS fun D hD => lc_list (fun i H' => ∃ ys, P D i ys H' ∧ H' D = some (.lst ys)) ⟨[], h0 D _ hD (same_new hD) upd_same, upd_same⟩ (fun i H' _ ⟨ys, p, _⟩ => seqL_same (hl D i ys H' hD p) hS)
      (fun i x H' hx ⟨ys, p, e⟩ => hs D i x ys H' hD hx p e) fun H' ⟨ys, p, e⟩ => hd D ys H' hD p e
  · exact k_itUT hS fun D hD => lc_tup (fun i H' => ∃ ys, P D i ys H' ∧ H' D = some (.lst ys)) ⟨[], h0 D _ hD (same_new hD) upd_same, upd_same⟩ (fun i H' _ ⟨ys, p, _⟩ => seqT_same (hl D i ys H' hD p) hS)
      (fun i x H' hx ⟨ys, p, e⟩ => hs D i x ys H' hD hx p e) fun H' ⟨ys, p, e⟩ => hd D ys H' hD p e
/-- a list walked while other things change -/
theorem k_lcLb {σ : L2.St} {H : Hp} {Q : VK} {K : PySem.W.Frag} {g : TG} {tt : TT} {te : TE} {vs : List Nat} {a : Addr} {xs : List V} {P : Addr → Nat → List V → Hp → Prop} (h0 : ∀ D H', H D = none → Same H H' → H' D = some (.lst []) → P D 0 [] H') (hl : ∀ D i ys H', H D = none → P D i ys H' → SqL K H' a xs)
    (hs : ∀ D (i : Nat) x ys H', H D = none → xs[i]? = some x → P D i ys H' → H' D = some (.lst ys) → LcB D g tt te vs σ x H' fun H'' => ∃ zs, P D (i + 1) zs H'' ∧ H'' D = some (.lst zs))
    (hd : ∀ D ys H', H D = none → P D xs.length ys H' → H' D = some (.lst ys) → Q (.ref D) H') : LcX (Itl K a) g tt te vs σ H Q := fun D hD =>
  lc_list (fun i H' => ∃ ys, P D i ys H' ∧ H' D = some (.lst ys)) ⟨[], h0 D _ hD (same_new hD) upd_same, upd_same⟩ (fun i H' _ ⟨ys, p, _⟩ => hl D i ys H' hD p)
    (fun i x H' hx ⟨ys, p, e⟩ => hs D i x ys H' hD hx p e) fun H' ⟨ys, p, e⟩ => hd D ys H' hD p e
theorem k_lcR {lo : Int} {n : Nat} (P : Addr → Nat → List V → Hp → Prop) (h0 : ∀ D H', H D = none → Same H H' → H' D = some (.lst []) → P D 0 [] H')
    (hs : ∀ D (i : Nat) ys H', H D = none → i < n → P D i ys H' → H' D = some (.lst ys) → LcB D g tt te vs σ (.int (lo + (i : Int))) H' fun H'' => ∃ zs, P D (i + 1) zs H'' ∧ H'' D = some (.lst zs))
    (hd : ∀ D ys H', H D = none → P D n ys H' → H' D = some (.lst ys) → Q (.ref D) H') : LcX (Itr lo n) g tt te vs σ H Q := fun D hD =>
  lc_range (fun i H' => ∃ ys, P D i ys H' ∧ H' D = some (.lst ys)) ⟨[], h0 D _ hD (same_new hD) upd_same, upd_same⟩ (fun i H' hi ⟨ys, p, e⟩ => hs D i ys H' hD hi p e) fun H' ⟨ys, p, e⟩ => hd D ys H' hD p e
/-- a turn begins: the target a name -/
theorem k_lcB {D : Addr} {j : Nat} {x : V} {N : Hp → Prop} (hw : wipe ((wipe σ vs).set j (some x)) vs = wipe σ vs) (q : tt ((wipe σ vs).set j (some x)) H fun b H3 => if b = true then te ((wipe σ vs).set j (some x)) H3 fun y H4 => ∃ acc, H4 D = some (.lst acc) ∧ acc.length < sizeLine ∧ N (upd H4 D (.lst (acc ++ [y]))) else N H3) :
    LcB D (gName j) tt te vs σ x H N := ⟨hw, q⟩
/-- a comprehension's turn, its target a tuple -/
theorem k_lcT {D : Addr} {x : V} {N : Hp → Prop} (q : g x (wipe σ vs) H fun σ2 H2 => wipe σ2 vs = wipe σ vs ∧ tt σ2 H2 fun b H3 =>
    if b = true then te σ2 H3 fun y H4 => ∃ acc, H4 D = some (.lst acc) ∧ acc.length < sizeLine ∧ N (upd H4 D (.lst (acc ++ [y]))) else N H3) : LcB D g tt te vs σ x H N := q
/-- no test -/
theorem k_yes {Q : Bool → Hp → Prop} (q : Q true H) : tYes σ H Q := q
def rRgX (a b : Int) (H : Hp) (Q : VK) : Prop := RgOk a b ∧ ∀ q, H q = none → Q (.ref q) (upd H q (.lst (rgV a b)))
theorem k_listRg {tr : L2.St → Hp → (Int → Int → Hp → Prop) → Prop} (q : tr σ H fun a b H1 => rRgX a b H1 Q) : tLstRg tr σ H Q := q
theorem k_rg1 {ta : TE} {R : Int → Int → Hp → Prop} (q : ta σ H fun x H1 => ∃ n, x = .int n ∧ R 0 n H1) : tRg1 ta σ H R := q
theorem k_rgX {a b : Int} (c : 0 ≤ a ∧ a ≤ 1000000 ∧ 0 ≤ b ∧ b ≤ 1000000) (q : ∀ l H', H l = none → Same H H' → H' l = some (.lst (rgV a b)) → Q (.ref l) H') : rRgX a b H Q := ⟨RgOk.of_le (by omega) (by omega) (by omega) (by omega), fun l hl => q l _ hl (same_new hl) upd_same⟩
end
def rIsBl : R2 := fun x y H Q => ∃ a b, x = .bl a ∧ y = .bl b ∧ Q (.bl (decide (a = b))) H
def rNotBl : R2 := fun x y H Q => ∃ a b, x = .bl a ∧ y = .bl b ∧ Q (.bl (!decide (a = b))) H
theorem op_isBlU {X : Cx} : OpR X (compareOp .Is) rIsBl := op_is_bl
theorem op_notBlU {X : Cx} : OpR X (compareOp .IsNot) rNotBl := op_isnot_bl
theorem k_isBl {a b : Bool} {H : Hp} {Q : VK} (q : Q (.bl (decide (a = b))) H) : rIsBl (.bl a) (.bl b) H Q := ⟨a, b, rfl, rfl, q⟩
theorem k_notBl {a b : Bool} {H : Hp} {Q : VK} (q : Q (.bl (!decide (a = b))) H) : rNotBl (.bl a) (.bl b) H Q := ⟨a, b, rfl, rfl, q⟩
theorem k_glst {K : PySem.W.Frag} {a : Addr} {xs : List V} {n : Nat} {t : TGs} {σ : L2.St} {H : Hp} {Q : L2.St → Hp → Prop} (h : SqL K H a xs) (hl : xs.length = n) (q : t xs σ H Q) : gLst K n t (.ref a) σ H Q := ⟨a, xs, rfl, h, hl, q⟩
theorem k_ext1 {l b : Addr} {xs zs : List V} {H : Hp} {Q : VK} (h : H l = some (.lst xs)) (g : H b = some (.lst zs)) (c : xs.length + zs.length ≤ sizeLine) (q : ∀ H', But l H H' → H' l = some (.lst (xs ++ zs)) → Q .non H') : rExtend (.ref l) [.ref b] H Q := ⟨l, b, xs, zs, rfl, rfl, h, g, c, q _ But.upd upd_same⟩
/-- a tuple and one more -/
theorem k_addT1 {K : PySem.W.Frag} {H : Hp} {Q : VK} {a b : Addr} {xs : List V} {y : V} (ha : SqT K H a xs) (hb : SqT K H b [y]) (c : xs.length + 1 ≤ sizeLine) (q : ∀ p H', Same H H' → SqT K H' p (xs ++ [y]) → Q (.ref p) H') : rAddU K (.ref a) (.ref b) H Q :=
  .inr (.inr (.inr (.inl ⟨a, b, xs, [y], rfl, rfl, ha, hb, c, fun e => by subst e; exact q b H (Same.refl H) hb, fun _ e => (by cases e), fun _ _ p hp => q p _ (same_new hp) (SqT.of upd_same)⟩)))
/-! len(set(t)), t a tuple of ints, none twice -/
def tLenSetT (K : PySem.W.Frag) (ta : TE) : TE := fun σ H Q => ta σ H fun x H1 => ∃ (l : Addr) (ns : List Int), x = .ref l ∧ SqT K H1 l (ns.map V.int) ∧ ns.Nodup ∧ ns.length ≤ 4000 ∧ Q (.int (ns.length : Nat)) H1
theorem ints_vals : ∀ {ns : List Int} {us : List Value}, Vals (ns.map V.int) us → PyProof.Rows.IntsAre us ns
  | [], _, .nil => .nil
  | n :: ns, _, .cons r t => by
    obtain ⟨k, rfl⟩ := r
    exact .cons n k (ints_vals t)
theorem pe_lenSetT {X : Cx} {K : PySem.W.Frag} {a : Expr} {ta : TE} {p p2 q pos : Pos} (hK : X.K = K) (hg : Gl X "len") (hm : X.mg "len" = none) (hg2 : Gl X "set") (hm2 : X.mg "set" = none) (ha : PE X a ta) (hc : X.calm = true := by rfl)
    (na : starEach [a] X.env = (false, eval a X.env) :: starEach [] X.env := by rfl) : PE X (.Call (.Name "len" p) [.Call (.Name "set" p2) [a] [] q] [] pos) (tLenSetT K ta) := by
  subst hK
  refine ⟨fun pins s σ H Q I h => ?_⟩
  refine Call_ (ld_blt I hg hm boot_len ?_)
  refine PyProof.Rows.callWith_builtin1 (PyProof.Rows.args_cons ?_ rfl) rfl rfl
  refine Call_ (ld_blt I hg2 hm2 boot_set ?_)
  refine PyProof.Rows.callWith_type1 (PyProof.Rows.args_cons (thn (ha.run pins s σ H _ I h) fun v s1 ⟨x, H1, I1, r1, q1⟩ => PyProof.Rows.args_nil ?_) na) na rfl
  obtain ⟨l, ns, rfl, hq, hnd, hl, q1⟩ := q1
  cases r1
  obtain ⟨its, r, pt, hz⟩ := I1.tuple hq
  refine call_set_tupI ns (I1.ok.hd hc) pt (by simpa using ints_vals r) (by unfold scanBound; omega) fun h' tk c hS _ hk => ?_
  refine PyProof.Rows.args_nil ?_
  obtain ⟨o, es, ep, t, ho, hex, hd, g, nd, hm3, hb, hf, hn, _⟩ := hS
  have I2 : Inv X pins σ H1 { s1 with heap := h', toks := tk } := I1.kept hk
  have hp : (es.toList.map keyOf).Perm ns := (List.perm_ext_iff_of_nodup nd hnd).mpr fun k => by
    have := hm3 k
    rw [← this]
    simp
  have hlen : es.size = ns.length := by
    have := hp.length_eq
    rw [List.length_map, Array.length_toList] at this
    exact this
  exact call_len_set ho hex hd hf (by rw [hlen]; omega) ⟨.int ns.length, H1, I2.tok _, ⟨_, by rw [hlen]⟩, q1⟩
def rLenSetT (K : PySem.W.Frag) (x : V) (H1 : Hp) (Q : VK) : Prop := ∃ (l : Addr) (ns : List Int), x = .ref l ∧ SqT K H1 l (ns.map V.int) ∧ ns.Nodup ∧ ns.length ≤ 4000 ∧ Q (.int (ns.length : Nat)) H1
theorem k_lenSetT {K : PySem.W.Frag} {ta : TE} {σ : L2.St} {H : Hp} {Q : VK} (q : ta σ H fun x H1 => rLenSetT K x H1 Q) : tLenSetT K ta σ H Q := q
theorem k_lenSetTx {K : PySem.W.Frag} {H : Hp} {Q : VK} {l : Addr} {ns : List Int} (h : SqT K H l (ns.map V.int)) (nd : ns.Nodup) (c : ns.length ≤ 4000) (q : Q (.int (ns.length : Nat)) H) : rLenSetT K (.ref l) H Q := ⟨l, ns, rfl, h, nd, c, q⟩
/-! count of data -/
def rCntL (K : PySem.W.Frag) : V → List V → Hp → VK → Prop := fun x xs H Q => ∃ (p : Addr) (y : V) (d : PyData) (ds : List PyData), x = .ref p ∧ xs = [y] ∧ Dp K H (.ref p) (.list ds) ∧ Dp K H y d ∧ PyData.plainAll ds = true ∧ d.plain = true ∧ PyData.depthAll ds ≤ 32 ∧
  Q (.int ((ds.countP fun z => PyData.eqv z d : Nat) : Int)) H
theorem mt_cntL {X : Cx} {k : Nat} {K : PySem.W.Frag} (h : X.K = K) (hr : Room k X.A) : MtR X "list.count" (rCntL K) := by
  subst h
  intro pins s σ H x xs v us Q I rx rxs h
  obtain ⟨p, y, d, ds, rfl, rfl, hl, hy, pl, pd, dp, q⟩ := h
  cases rx
  cases rxs with
  | cons ry rt =>
    rename_i uy ut
    cases rt
    obtain ⟨bs, r1⟩ := Dp.reads I d y uy hy ry
    cases hl with
    | lst hs ha =>
      obtain ⟨its, rv, pl2, hlen⟩ := I.list hs
      obtain ⟨as, h4⟩ := Dp.readsAll I ds _ its ha rv
      refine PySem.SeqAt.count_list_data pl2.isList (show ReadsAll s.heap its.toArray.toList ds as from h4) r1 pl pd (by have := hr.units; omega) ⟨.int ((ds.countP fun z => PyData.eqv z d : Nat) : Int), H, I.tok _, ⟨_, rfl⟩, q⟩
theorem k_cntL {H : Hp} {Q : VK} {K : PySem.W.Frag} {p : Addr} {y : V} {d : PyData} {ds : List PyData} (hl : Dp K H (.ref p) (.list ds)) (hy : Dp K H y d) (pl : PyData.plainAll ds = true) (pd : d.plain = true) (dp : PyData.depthAll ds ≤ 32)
    (q : Q (.int ((ds.countP fun z => PyData.eqv z d : Nat) : Int)) H) : rCntL K (.ref p) [y] H Q := ⟨p, y, d, ds, rfl, rfl, hl, hy, pl, pd, dp, q⟩
/-- a list, repeated -/
theorem k_mulR {H : Hp} {Q : VK} {K : PySem.W.Frag} {l : Addr} {k : Int} {xs : List V} (h : H l = some (.lst xs)) (c : -(2 ^ 63) ≤ k ∧ k < 2 ^ 63 ∧ xs.length * k.toNat ≤ sizeLine) (q : ∀ p H', H p = none → Same H H' → H' p = some (.lst (List.replicate k.toNat xs).flatten) → Q (.ref p) H') : rMulU K (.ref l) (.int k) H Q :=
  .inr (.inl ⟨l, k, xs, rfl, rfl, h, c.1, c.2.1, c.2.2, fun p hp => q p _ hp (same_new hp) upd_same⟩)
/-! ### walks that lay a new pair at each turn: enumerate, zip -/
structure PairIt (J : It) (n : Nat) (u v : Nat → V) (Ok : Hp → Prop) : Prop where
  go : ∀ i H, Ok H → i < n → J.go i H
  stop : ∀ H, Ok H → J.stop n H
  yld : ∀ i H x H', Ok H → i < n → J.yld i H x H' → ∃ T, x = .ref T ∧ H T = none ∧ H' = upd H T (.tup [u i, v i])
section
variable {σ : L2.St} {H : Hp} {Q : VK} {K : PySem.W.Frag} {g : TG} {tt : TT} {te : TE} {vs : List Nat} {J : It} {n : Nat} {u v : Nat → V} {Ok : Hp → Prop} {D : Ends} {tb : TS} {ta : TA}
theorem k_loopP (pi : PairIt J n u v Ok) (P : Nat → L2.St → Hp → Prop) (h0 : P 0 σ H) (hl : ∀ i σ' H', P i σ' H' → Ok H')
    (hs : ∀ (i : Nat) T σ' H1 H2, i < n → P i σ' H1 → H1 T = none → Same H1 H2 → H2 T = some (.tup [u i, v i]) → g (.ref T) σ' H2 fun σ2 H2 => tb { D with nx := P (i + 1), ct := P (i + 1), bk := D.nx } σ2 H2) (hd : ∀ σ' H', P n σ' H' → D.nx σ' H') : LoopI J g tb D σ H := by
  refine ⟨fun i m σ' H' => m = n - i ∧ i ≤ n ∧ P i σ' H', ⟨n, by simp, Nat.zero_le _, h0⟩, ?_⟩
  rintro i m σ' H' ⟨rfl, hi, p⟩
  have ok := hl i σ' H' p
  by_cases c : i < n
  · refine .inr ⟨pi.go i H' ok c, P (i + 1), fun σ2 H2 q => ⟨n - (i + 1), by omega, rfl, c, q⟩, fun x H2 y => ?_⟩
    obtain ⟨T, rfl, hT, rfl⟩ := pi.yld i H' x H2 ok c y
    exact hs i T σ' H' _ c p hT (same_new hT) upd_same
  · have e : i = n := by omega
    subst e
    exact .inl ⟨pi.stop H' ok, hd σ' H' p⟩
theorem k_lcP (pi : PairIt J n u v Ok) (P : Addr → Nat → List V → Hp → Prop) (h0 : ∀ D H', H D = none → Same H H' → H' D = some (.lst []) → P D 0 [] H') (hl : ∀ D i ys H', H D = none → P D i ys H' → Ok H')
    (hs : ∀ D (i : Nat) T ys H1 H2, H D = none → i < n → P D i ys H1 → H1 T = none → Same H1 H2 → H2 T = some (.tup [u i, v i]) → H2 D = some (.lst ys) → LcB D g tt te vs σ (.ref T) H2 fun H'' => ∃ zs, P D (i + 1) zs H'' ∧ H'' D = some (.lst zs))
    (hd : ∀ D ys H', H D = none → P D n ys H' → H' D = some (.lst ys) → Q (.ref D) H') : LcX J g tt te vs σ H Q := fun D hD => by
  refine ⟨fun i m H' => m = n - i ∧ i ≤ n ∧ ∃ ys, P D i ys H' ∧ H' D = some (.lst ys), ⟨n, by simp, Nat.zero_le _, [], h0 D _ hD (same_new hD) upd_same, upd_same⟩, ?_⟩
  rintro i m H' ⟨rfl, hi, ys, p, e⟩
  have ok := hl D i ys H' hD p
  by_cases c : i < n
  · refine .inr ⟨pi.go i H' ok c, fun H'' => ∃ zs, P D (i + 1) zs H'' ∧ H'' D = some (.lst zs), fun H2 ⟨zs, q, e2⟩ => ⟨n - (i + 1), by omega, rfl, c, zs, q, e2⟩, fun x H2 y => ?_⟩
    obtain ⟨T, rfl, hT, rfl⟩ := pi.yld i H' x H2 ok c y
    exact hs D i T ys H' _ hD c p hT (same_new hT) upd_same (same_new hT _ _ e)
  · have ei : i = n := by omega
    subst ei
    exact .inl ⟨pi.stop H' ok, hd D ys H' hD p e⟩
theorem get_some {xs : List V} {i : Nat} (h : i < xs.length) : xs[i]? = some (xs.getD i .non) := by
  rw [List.getElem?_eq_getElem h]
  simp [h]
theorem enum_it {a : Addr} {xs : List V} : PairIt (Ite K a) xs.length (fun i => .int (i : Nat)) (fun i => xs.getD i .non) (fun H => SqL K H a xs) where
  go := fun i H h c => ⟨xs, _, h, get_some c⟩
  stop := fun H h => ⟨xs, h, Nat.le_refl _⟩
  yld := fun i H x H' h c ⟨T, y, e, hT, eH, hy⟩ => ⟨T, e, hT, by
    have := hy xs h
    rw [get_some c] at this
    rw [eH, Option.some.inj this]⟩
theorem zip_it {a b : Addr} {xs ys : List V} (hl : xs.length = ys.length) : PairIt (Itz K a b) xs.length (fun i => xs.getD i .non) (fun i => ys.getD i .non) (fun H => SqL K H a xs ∧ SqL K H b ys) where
  go := fun i H h c => ⟨xs, ys, _, _, h.1, h.2, get_some c, get_some (by omega)⟩
  stop := fun H h => ⟨xs, ys, h.1, h.2, .inl (Nat.le_refl _)⟩
  yld := fun i H x H' h c ⟨T, y, z, e, hT, eH, hy, hz⟩ => ⟨T, e, hT, by
    have e1 := hy xs h.1
    have e2 := hz ys h.2
    rw [get_some c] at e1
    rw [get_some (by omega)] at e2
    rw [eH, Option.some.inj e1, Option.some.inj e2]⟩
def rEnum (K : PySem.W.Frag) (vs : List V) (H1 : Hp) (R : It → Hp → Prop) : Prop := ∃ a xs, vs = [.ref a] ∧ SqL K H1 a xs ∧ R (Ite K a) H1
theorem k_iEnum {R : It → Hp → Prop} (q : ta σ H fun vs H1 => rEnum K vs H1 R) : iEnum K ta σ H R := q
theorem k_enumx {a : Addr} {xs : List V} {R : It → Hp → Prop} (h : SqL K H a xs) (q : R (Ite K a) H) : rEnum K [.ref a] H R := ⟨a, xs, rfl, h, q⟩
end
/-! the written part by its name, in comprehensions too -/
section
variable {X : Cx} {K : PySem.W.Frag}
theorem callK {f : Value} {r : PySem.W.Frag → List V → Hp → VK → Prop} (h : X.K = K) (c : CallR X f (r X.K)) : CallR X f (r K) := h ▸ c
theorem pe_fldK {e : Expr} {ta : TE} {f : Str} {pos : Pos} (h : X.K = K) (he : PE X e ta) (hb : attributeBase e f X.env (eval e X.env) = eval e X.env) : PE X (.Attribute e f pos) (tFld K ta f) := h ▸ pe_fld he hb
theorem pe_bm0K {T id : String} {name : Str} {o : Expr} {to : TE} {r : V → List V → Hp → VK → Prop} {apos cpos : Pos} (h : X.K = K) (pa : PlainAttrs T) (slot : Slot T name id) (hty : typeOf (.builtin id) = pure (.type "method_descriptor")) (hm : MtR X id r) (ho : PE X o to)
    (hbase : attributeBase o name X.env (eval o X.env) = eval o X.env := by rfl) (hline : (apos.endLine == cpos.line) = true := by rfl) : PE X (.Call (.Attribute o name apos) [] [] cpos) (tBM0 K T r to) := h ▸ pe_bm0 pa slot hty hm ho hbase hline
theorem pe_bmK {T id : String} {name : Str} {o e : Expr} {es : List Expr} {to : TE} {t : TA} {r : V → List V → Hp → VK → Prop} {apos cpos : Pos} (h : X.K = K) (pa : PlainAttrs T) (slot : Slot T name id) (hty : typeOf (.builtin id) = pure (.type "method_descriptor")) (hm : MtR X id r) (ho : PE X o to) (ha : PA X (e :: es) t)
    (hbase : attributeBase o name X.env (eval o X.env) = eval o X.env := by rfl)
    (hfew : ((backTo cpos (starEach (e :: es) X.env)).all (fun x => !x.1) && (backToKw cpos (keywordEach [] X.env)).all (fun x => x.1.isSome)
      && decide ((e :: es).length + ([] : List Keyword).length + (if ([] : List Keyword).isEmpty then 0 else 1) < 30)) = true := by rfl)
    (hline : (apos.endLine == cpos.line) = true := by rfl) (hs : starEach (e :: es) X.env = (false, eval e X.env) :: starEach es X.env := by rfl) (hplain : (backTo cpos (starEach es X.env)).any (·.1) = false := by rfl) :
    PE X (.Call (.Attribute o name apos) (e :: es) [] cpos) (tBM K T r to t) := h ▸ pe_bm pa slot hty hm ho ha hbase hfew hline hs hplain
end
/-! X(e).f, X an exception with a field -/
section
variable {X : Cx} {e : Expr} {t : L2.St → Hp → XK → Prop} {C : Addr} {f : Str} {pos : Pos}
def tMkF (C : Addr) (f : Str) (t : L2.St → Hp → XK → Prop) : TE := fun σ H Q => t σ H fun cls d H1 => ∃ (dd : Addr) (fs : List (Str × V)) (v : V), cls = .ref C ∧ d = some dd ∧ H1 dd = some (.xd fs) ∧ fs.lookup f = some v ∧ Q v H1
theorem pe_mkF (T : XfC X.K C) (hno : PySem.W.findIn X.K (.ref C) f = some none) (he : PMk X e t) (hb : attributeBase e f X.env (eval e X.env) = eval e X.env := by rfl) : PE X (.Attribute e f pos) (tMkF C f t) := by
  refine ⟨fun pins s σ H Q I h => ?_⟩
  refine attr_of hb (thn (he pins s σ H _ I h) fun u s1 hh => ?_)
  obtain ⟨a, oe, vs, sI, H1, cls, d, ex, J, k, hne, ha, hz, hd, h1, na, os, ag, r, dd, fs, v, ec, ed, ea, l, q⟩ := hh
  subst ex
  subst ec
  subst ed
  have J2 := J.kept (h' := s1.heap) (t' := s1.toks) k
  have I1 : Inv X pins σ H1 s1 := ⟨J2.ok, os.trans J2.os, ag, J2.base, J2.loc, J2.cell, J2.free, J2.freeC, J2.pin, J2.hok, J2.len⟩
  have hx : ObjOk X.prog X.w H1 s1.heap dd (.xd fs) := I1.hok dd _ ea
  obtain ⟨mA, hns, hr⟩ := hx
  obtain ⟨od, ho, hl⟩ := lookIn_ns hns
  obtain ⟨u, hu, ru⟩ := RelO.some_of (v := v) (o := mA f) (by rw [← l]; exact hr f)
  have J : PySem.W.InstAt s1.heap a oe C (some od) := ⟨ha, hz.1, by unfold PySem.W.notCls; rw [hd] <;> rfl, by rw [hz.2]; exact ho⟩
  exact HandSPX.exc_get I1.kIn J T.ga T.gg T.exC (PySem.W.findObj_own T.hdC hno rfl (by rw [hl, hu])) (handed_of ru) ⟨v, H1, I1.tok _, ru, q⟩
theorem k_mkF {sp : Sp} {ta : TA} {σ : L2.St} {H : Hp} {Q : VK} (q : ta σ H fun vs H1 => rMkO C sp vs H1 fun cls d H1 => ∃ (dd : Addr) (fs : List (Str × V)) (v : V), cls = .ref C ∧ d = some dd ∧ H1 dd = some (.xd fs) ∧ fs.lookup f = some v ∧ Q v H1) : tMkF C f (tMkO C sp [] ta) σ H Q := q
theorem k_mkFx {v : V} {H1 : Hp} {Q : VK} (k : ∀ H2, Same H1 H2 → Q v H2) : rMkO C (spXI C f) [v] H1 fun cls d H1 => ∃ (dd : Addr) (fs : List (Str × V)) (v : V), cls = .ref C ∧ d = some dd ∧ H1 dd = some (.xd fs) ∧ fs.lookup f = some v ∧ Q v H1 :=
  k_mkx fun d H2 _ s hd => ⟨d, _, v, rfl, rfl, hd, by simp [List.lookup], k H2 s⟩
/-- tuples of ints, < -/
theorem op_ltTK {K : PySem.W.Frag} {k : Nat} (h : X.K = K) (hr : Room k X.A) : OpR X (compareOp .Lt) (rLtT K) := h ▸ op_ltT (by have := hr.units; omega)
theorem k_ltT {K : PySem.W.Frag} {H : Hp} {Q : VK} {a b : Addr} {ns ms : List Int} (ha : SqT K H a (ns.map V.int)) (hb : SqT K H b (ms.map V.int)) (q : Q (.bl (HT.lexLt ns ms)) H) : rLtT K (.ref a) (.ref b) H Q := ⟨a, b, ns, ms, rfl, rfl, ha, hb, q⟩
theorem k_clear {H : Hp} {Q : VK} {l : Addr} {xs : List V} (h : H l = some (.lst xs)) (q : ∀ H', But l H H' → H' l = some (.lst []) → Q .non H') : rClear (.ref l) [] H Q := ⟨l, xs, rfl, rfl, h, q _ But.upd upd_same⟩
end
/-- while, its test by what it gives -/
theorem k_whileT {tc : TT} {tb : TS} {D : Ends} {σ : L2.St} {H : Hp} (P : Nat → L2.St → Hp → Prop) (R : Nat → L2.St → Bool → Hp → Prop) (m : Nat) (h0 : P m σ H) (ht : ∀ m σ H, P m σ H → ∀ Q : Bool → Hp → Prop, (∀ b H', R m σ b H' → Q b H') → tc σ H Q)
    (hb : ∀ m σ H, R m σ true H → tb { D with nx := Less P m, ct := Less P m, bk := D.nx } σ H) (hd : ∀ m σ H, R m σ false H → D.nx σ H) : tWhile tc tb D σ H := k_while P m h0 fun m σ H p => ht m σ H p _ fun b H' r => by
  cases b with
  | true => exact k_ifT (k_wN (hb m σ H' r))
  | false => exact k_ifF (hd m σ H' r)
/-! a tuple and a list walked side by side -/
def Itm (K : PySem.W.Frag) (a b : Addr) : It where
  go i H := ∃ xs ys x y, SqT K H a xs ∧ SqL K H b ys ∧ xs[i]? = some x ∧ ys[i]? = some y
  yld i H v H' := ∃ T x y, v = .ref T ∧ H T = none ∧ H' = upd H T (.tup [x, y]) ∧ (∀ xs, SqT K H a xs → xs[i]? = some x) ∧ ∀ ys, SqL K H b ys → ys[i]? = some y
  stop i H := ∃ xs ys, SqT K H a xs ∧ SqL K H b ys ∧ xs.length = i ∧ ys.length = i
def ZmSt (z TI TO i1 i2 a b : Addr) (i : Nat) (h : Heap) : Prop := IsZip h z TI TO .none ∧ IsTupOf2 h TI (.ref i1) (.ref i2) ∧ (∃ x y, IsTupOf2 h TO x y) ∧ h.IsTupleIter i1 a i ∧ h.IsListIter i2 b i
theorem zm_obj {z TI TO i1 i2 a b : Addr} {i : Nat} {h : Heap} (st : ZmSt z TI TO i1 i2 a b i h) {c : Addr} (hc : c ∈ [z, TI, TO, i1, i2]) : ∃ o, h.get? c = some o ∧ ∀ v, o.data ≠ .cell v := by
  obtain ⟨s1, s2, ⟨_, _, s3⟩, ⟨o4, e4, _, d4⟩, ⟨o5, e5, _, d5⟩⟩ := st
  simp only [List.mem_cons, List.not_mem_nil, or_false] at hc
  rcases hc with rfl | rfl | rfl | rfl | rfl
  · exact ⟨_, s1, fun _ => nofun⟩
  · exact ⟨_, s2, fun _ => nofun⟩
  · exact ⟨_, s3, fun _ => nofun⟩
  · exact ⟨o4, e4, fun _ z => by rw [d4] at z; cases z⟩
  · exact ⟨o5, e5, fun _ z => by rw [d5] at z; cases z⟩
theorem turn_zipM {P : Program} {w : World} {K : PySem.W.Frag} {elts : List Expr} {kk : Nat} {tpos : Pos} {a b z TI TO i1 i2 : Addr} (S : ZipSep2 z TI TO i1 i2 [i1, a] [i2, b]) (ha : a ≠ i1) (hb : b ≠ i2) :
    Turn P w K (.Tuple elts kk tpos) (Itm K a b) [z, TI, TO, i1, i2] z (ZmSt z TI TO i1 i2 a b) where
  mem := by simp
  obj := fun i h st c hc => zm_obj st hc
  keep := fun i h h' st k => ⟨k z (by simp) _ st.1, k TI (by simp) _ st.2.1, (let ⟨x, y, e⟩ := st.2.2.1; ⟨x, y, k TO (by simp) _ e⟩), st.2.2.2.1.at fun o q => k i1 (by simp) o q, st.2.2.2.2.at fun o q => k i2 (by simp) o q⟩
  item := by
    intro X hP hw hK hc i pins s σ H E I hf st hg
    subst hP hw hK
    obtain ⟨xs, ys, x, y, qx, qy, ex, ey⟩ := hg
    obtain ⟨us, ru, pu, _⟩ := I.tuple qx
    obtain ⟨vs, rv, pv, _⟩ := I.list qy
    have hh : X.A.in1.handled = none := I.ok.hd hc
    have lu : i < us.length := by rw [← ru.length]; exact (List.getElem?_eq_some_iff.mp ex).1
    have lv : i < vs.length := by rw [← rv.length]; exact (List.getElem?_eq_some_iff.mp ey).1
    have W := WalksT.zipD2 (prog := X.prog) (w := X.w) (A := X.A) S (Draws.tuple hh i1 a ha us.toArray) (Draws.list hh i2 b hb vs.toArray)
    refine W.item i s _ E (by simp; omega) ⟨st.1, st.2.1, st.2.2.1, ⟨st.2.2.2.1, pu⟩, ⟨st.2.2.2.2, pv.isList⟩⟩ fun T vals h' tk hP hT ht hm hk => ?_
    obtain ⟨u, v, hu, hv, rfl⟩ := hP
    obtain ⟨u', hu', r1⟩ := ru.get ex
    obtain ⟨v', hv', r2⟩ := rv.get ey
    obtain rfl : u' = u := Option.some.inj (hu'.symm.trans (by simpa using hu))
    obtain rfl : v' = v := Option.some.inj (hv'.symm.trans (by simpa using hv))
    refine ⟨.ref T, rfl, W.go elts kk tpos i T { s with heap := h', toks := tk } _ E hm fun h2 st2 hk2 => ?_⟩
    have new : ObjOk X.prog X.w (upd H T (.tup [x, y])) h2 T (.tup [x, y]) := ⟨by show 2 ≤ sizeLine; decide, [u', v'], .cons r1 (.cons r2 .nil), ht.at fun o e => hk2 T o (W.apart i T h' hm) e⟩
    have I1 := I.turnedNew (t' := tk) (ch := [z, TI, TO, i1, i2]) (fun c o n e => hk2 c o (fun q => n (by simp at q ⊢; rcases q with h | h | h | h <;> simp [h])) (hk c o (fun q => n (by simp at q ⊢; rcases q with h | h | h | h <;> simp [h])) e)) hf hT new
    refine ⟨.ref T, _, I1, rfl, ⟨T, x, y, rfl, I.hok.fresh hT, rfl, fun l hl => by rw [I.tuple_inj hl qx]; exact ex, fun l hl => by rw [I.list_inj hl qy]; exact ey⟩, ⟨st2.1, st2.2.1, st2.2.2.1, st2.2.2.2.1.1, st2.2.2.2.2.1⟩, fun c hcm => ?_⟩
    obtain ⟨o, e, _⟩ := zm_obj st hcm
    rw [upd_ne (Nat.ne_of_lt (Nat.lt_of_lt_of_le (Heap.lt_size e) hT))]
    exact (hf c hcm).1
  done := by
    intro X hP hw hK hc i pins s σ H E I hf st hg
    subst hP hw hK
    obtain ⟨xs, ys, qx, qy, ex, ey⟩ := hg
    obtain ⟨us, ru, pu, _⟩ := I.tuple qx
    obtain ⟨vs, rv, pv, _⟩ := I.list qy
    have hh : X.A.in1.handled = none := I.ok.hd hc
    have lu : us.length = i := by rw [← ru.length]; exact ex
    have lv : vs.length = i := by rw [← rv.length]; exact ey
    have W := WalksT.zipD2 (prog := X.prog) (w := X.w) (A := X.A) S (Draws.tuple hh i1 a ha us.toArray) (Draws.list hh i2 b hb vs.toArray)
    rw [show min us.toArray.size vs.toArray.size = i by simp; omega] at W
    exact W.done s _ E ⟨st.1, st.2.1, st.2.2.1, ⟨st.2.2.2.1, pu⟩, ⟨st.2.2.2.2, pv.isList⟩⟩ fun h' tk hk => ⟨rfl, I.turnedL (t' := tk) (ch := [z, TI, TO, i1, i2]) (fun c o n e => hk c o (fun q => n (by simp at q ⊢; rcases q with h | h | h | h <;> simp [h])) e) hf⟩
  self := fun A i s Q E st h => wpAny_pyIter_zip st.1 h
def rZipM (K : PySem.W.Frag) (vs : List V) (H1 : Hp) (R : It → Hp → Prop) : Prop := ∃ a b xs ys, vs = [.ref a, .ref b] ∧ SqT K H1 a xs ∧ SqL K H1 b ys ∧ R (Itm K a b) H1
def iZipM (K : PySem.W.Frag) (ta : TA) : TI := fun σ H R => ta σ H fun vs H1 => rZipM K vs H1 R
theorem pi_zipM {X : Cx} {K : PySem.W.Frag} {e e2 : Expr} {ta : TA} {p pos tpos : Pos} {elts : List Expr} {kk : Nat} (h : X.K = K) (hg : Gl X "zip") (hm : X.mg "zip" = none) (ha : PA X [e, e2] ta)
    (hs : starEach [e, e2] X.env = (false, eval e X.env) :: starEach [e2] X.env := by rfl) (hpl : (backTo pos (starEach [e2] X.env)).any (·.1) = false := by rfl) :
    PI X (.Tuple elts kk tpos) (.Call (.Name "zip" p) [e, e2] [] pos) (iZipM K ta) := by
  subst h
  refine ⟨fun pins s σ H R I h => Call_ (ld_blt I hg hm PyProof.Rows.boot_zip (PyProof.Rows.callWith_type1 (thn (ha.run pos pins s σ H _ I h) fun us s1 z => ?_) hs hpl))⟩
  obtain ⟨vs, H1, I1, r1, a, b, xs, ys, rfl, qx, qy, q⟩ := z
  cases r1 with
  | cons ra rr =>
    obtain ⟨ub, rfl, rb⟩ := vals1 rr
    cases ra
    cases rb
    obtain ⟨us, ru, pu, _⟩ := I1.tuple qx
    obtain ⟨vs, rv, pv, _⟩ := I1.list qy
    have la : a < s1.heap.objs.size := by obtain ⟨_, e, _⟩ := id pu; exact Heap.lt_size e
    refine zip_begins2 (begins_tuple a us.toArray) (begins_list b vs.toArray) pu pv.isList fun h' hz hTI hTO g1 g2 hsz hk => wpAny_pyIter_zip hz ?_
    have S := zip_sep2 (N := s1.heap.objs.size) (fp1 := [a]) (fp2 := [b]) (fun c hc => by rw [List.mem_singleton.mp hc]; exact la) (fun c hc => by rw [List.mem_singleton.mp hc]; exact pv.lt)
    refine ⟨_, _, _, _, H1, rfl, I1.kept (t' := s1.toks) hk, turn_zipM S (Nat.ne_of_lt la) (Nat.ne_of_lt (Nat.lt_succ_of_lt pv.lt)), ⟨hz, hTI, ⟨_, _, hTO⟩, ⟨_, g1, rfl, rfl⟩, ⟨_, g2, rfl, rfl⟩⟩, fun c hc => ?_, q⟩
    have hle : s1.heap.objs.size ≤ c := by
      simp only [List.mem_cons, List.not_mem_nil, or_false] at hc
      rcases hc with rfl | rfl | rfl | rfl | rfl
      · exact Nat.le_add_right _ 4
      · exact Nat.le_add_right _ 2
      · exact Nat.le_add_right _ 3
      · exact Nat.le_refl _
      · exact Nat.le_add_right _ 1
    exact I1.fpOk hle (I1.hok.fresh hle)
theorem k_iZipM {K : PySem.W.Frag} {ta : TA} {σ : L2.St} {H : Hp} {R : It → Hp → Prop} (q : ta σ H fun vs H1 => rZipM K vs H1 R) : iZipM K ta σ H R := q
theorem k_zipMx {K : PySem.W.Frag} {H : Hp} {R : It → Hp → Prop} {a b : Addr} {xs ys : List V} (hx : SqT K H a xs) (hy : SqL K H b ys) (q : R (Itm K a b) H) : rZipM K [.ref a, .ref b] H R := ⟨a, b, xs, ys, rfl, hx, hy, q⟩
theorem zipM_it {K : PySem.W.Frag} {a b : Addr} {xs ys : List V} (hl : xs.length = ys.length) : PairIt (Itm K a b) xs.length (fun i => xs.getD i .non) (fun i => ys.getD i .non) (fun H => SqT K H a xs ∧ SqL K H b ys) where
  go := fun i H h c => ⟨xs, ys, _, _, h.1, h.2, get_some c, get_some (by omega)⟩
  stop := fun H h => ⟨xs, ys, h.1, h.2, rfl, hl.symm⟩
  yld := fun i H x H' h c ⟨T, y, z, e, hT, eH, hy, hz⟩ => ⟨T, e, hT, by
    have e1 := hy xs h.1
    have e2 := hz ys h.2
    rw [get_some c] at e1
    rw [get_some (by omega)] at e2
    rw [eH, Option.some.inj e1, Option.some.inj e2]⟩
/-! a list and a tuple walked side by side -/
def Itn (K : PySem.W.Frag) (a b : Addr) : It where
  go i H := ∃ xs ys x y, SqL K H a xs ∧ SqT K H b ys ∧ xs[i]? = some x ∧ ys[i]? = some y
  yld i H v H' := ∃ T x y, v = .ref T ∧ H T = none ∧ H' = upd H T (.tup [x, y]) ∧ (∀ xs, SqL K H a xs → xs[i]? = some x) ∧ ∀ ys, SqT K H b ys → ys[i]? = some y
  stop i H := ∃ xs ys, SqL K H a xs ∧ SqT K H b ys ∧ xs.length = i ∧ ys.length = i
def ZnSt (z TI TO i1 i2 a b : Addr) (i : Nat) (h : Heap) : Prop := IsZip h z TI TO .none ∧ IsTupOf2 h TI (.ref i1) (.ref i2) ∧ (∃ x y, IsTupOf2 h TO x y) ∧ h.IsListIter i1 a i ∧ h.IsTupleIter i2 b i
theorem zn_obj {z TI TO i1 i2 a b : Addr} {i : Nat} {h : Heap} (st : ZnSt z TI TO i1 i2 a b i h) {c : Addr} (hc : c ∈ [z, TI, TO, i1, i2]) : ∃ o, h.get? c = some o ∧ ∀ v, o.data ≠ .cell v := by
  obtain ⟨s1, s2, ⟨_, _, s3⟩, ⟨o4, e4, _, d4⟩, ⟨o5, e5, _, d5⟩⟩ := st
  simp only [List.mem_cons, List.not_mem_nil, or_false] at hc
  rcases hc with rfl | rfl | rfl | rfl | rfl
  · exact ⟨_, s1, fun _ => nofun⟩
  · exact ⟨_, s2, fun _ => nofun⟩
  · exact ⟨_, s3, fun _ => nofun⟩
  · exact ⟨o4, e4, fun _ z => by rw [d4] at z; cases z⟩
  · exact ⟨o5, e5, fun _ z => by rw [d5] at z; cases z⟩
theorem turn_zipN {P : Program} {w : World} {K : PySem.W.Frag} {elts : List Expr} {kk : Nat} {tpos : Pos} {a b z TI TO i1 i2 : Addr} (S : ZipSep2 z TI TO i1 i2 [i1, a] [i2, b]) (ha : a ≠ i1) (hb : b ≠ i2) :
    Turn P w K (.Tuple elts kk tpos) (Itn K a b) [z, TI, TO, i1, i2] z (ZnSt z TI TO i1 i2 a b) where
  mem := by simp
  obj := fun i h st c hc => zn_obj st hc
  keep := fun i h h' st k => ⟨k z (by simp) _ st.1, k TI (by simp) _ st.2.1, (let ⟨x, y, e⟩ := st.2.2.1; ⟨x, y, k TO (by simp) _ e⟩), st.2.2.2.1.at fun o q => k i1 (by simp) o q, st.2.2.2.2.at fun o q => k i2 (by simp) o q⟩
  item := by
    intro X hP hw hK hc i pins s σ H E I hf st hg
    subst hP hw hK
    obtain ⟨xs, ys, x, y, qx, qy, ex, ey⟩ := hg
    obtain ⟨us, ru, pu, _⟩ := I.list qx
    obtain ⟨vs, rv, pv, _⟩ := I.tuple qy
    have hh : X.A.in1.handled = none := I.ok.hd hc
    have lu : i < us.length := by rw [← ru.length]; exact (List.getElem?_eq_some_iff.mp ex).1
    have lv : i < vs.length := by rw [← rv.length]; exact (List.getElem?_eq_some_iff.mp ey).1
    have W := WalksT.zipD2 (prog := X.prog) (w := X.w) (A := X.A) S (Draws.list hh i1 a ha us.toArray) (Draws.tuple hh i2 b hb vs.toArray)
    refine W.item i s _ E (by simp; omega) ⟨st.1, st.2.1, st.2.2.1, ⟨st.2.2.2.1, pu.isList⟩, ⟨st.2.2.2.2, pv⟩⟩ fun T vals h' tk hP hT ht hm hk => ?_
    obtain ⟨u, v, hu, hv, rfl⟩ := hP
    obtain ⟨u', hu', r1⟩ := ru.get ex
    obtain ⟨v', hv', r2⟩ := rv.get ey
    obtain rfl : u' = u := Option.some.inj (hu'.symm.trans (by simpa using hu))
    obtain rfl : v' = v := Option.some.inj (hv'.symm.trans (by simpa using hv))
    refine ⟨.ref T, rfl, W.go elts kk tpos i T { s with heap := h', toks := tk } _ E hm fun h2 st2 hk2 => ?_⟩
    have new : ObjOk X.prog X.w (upd H T (.tup [x, y])) h2 T (.tup [x, y]) := ⟨by show 2 ≤ sizeLine; decide, [u', v'], .cons r1 (.cons r2 .nil), ht.at fun o e => hk2 T o (W.apart i T h' hm) e⟩
    have I1 := I.turnedNew (t' := tk) (ch := [z, TI, TO, i1, i2]) (fun c o n e => hk2 c o (fun q => n (by simp at q ⊢; rcases q with h | h | h | h <;> simp [h])) (hk c o (fun q => n (by simp at q ⊢; rcases q with h | h | h | h <;> simp [h])) e)) hf hT new
    refine ⟨.ref T, _, I1, rfl, ⟨T, x, y, rfl, I.hok.fresh hT, rfl, fun l hl => by rw [I.list_inj hl qx]; exact ex, fun l hl => by rw [I.tuple_inj hl qy]; exact ey⟩, ⟨st2.1, st2.2.1, st2.2.2.1, st2.2.2.2.1.1, st2.2.2.2.2.1⟩, fun c hcm => ?_⟩
    obtain ⟨o, e, _⟩ := zn_obj st hcm
    rw [upd_ne (Nat.ne_of_lt (Nat.lt_of_lt_of_le (Heap.lt_size e) hT))]
    exact (hf c hcm).1
  done := by
    intro X hP hw hK hc i pins s σ H E I hf st hg
    subst hP hw hK
    obtain ⟨xs, ys, qx, qy, ex, ey⟩ := hg
    obtain ⟨us, ru, pu, _⟩ := I.list qx
    obtain ⟨vs, rv, pv, _⟩ := I.tuple qy
    have hh : X.A.in1.handled = none := I.ok.hd hc
    have lu : us.length = i := by rw [← ru.length]; exact ex
    have lv : vs.length = i := by rw [← rv.length]; exact ey
    have W := WalksT.zipD2 (prog := X.prog) (w := X.w) (A := X.A) S (Draws.list hh i1 a ha us.toArray) (Draws.tuple hh i2 b hb vs.toArray)
    rw [show min us.toArray.size vs.toArray.size = i by simp; omega] at W
    exact W.done s _ E ⟨st.1, st.2.1, st.2.2.1, ⟨st.2.2.2.1, pu.isList⟩, ⟨st.2.2.2.2, pv⟩⟩ fun h' tk hk => ⟨rfl, I.turnedL (t' := tk) (ch := [z, TI, TO, i1, i2]) (fun c o n e => hk c o (fun q => n (by simp at q ⊢; rcases q with h | h | h | h <;> simp [h])) e) hf⟩
  self := fun A i s Q E st h => wpAny_pyIter_zip st.1 h
def rZipN (K : PySem.W.Frag) (vs : List V) (H1 : Hp) (R : It → Hp → Prop) : Prop := ∃ a b xs ys, vs = [.ref a, .ref b] ∧ SqL K H1 a xs ∧ SqT K H1 b ys ∧ R (Itn K a b) H1
def iZipN (K : PySem.W.Frag) (ta : TA) : TI := fun σ H R => ta σ H fun vs H1 => rZipN K vs H1 R
theorem pi_zipN {X : Cx} {K : PySem.W.Frag} {e e2 : Expr} {ta : TA} {p pos tpos : Pos} {elts : List Expr} {kk : Nat} (h : X.K = K) (hg : Gl X "zip") (hm : X.mg "zip" = none) (ha : PA X [e, e2] ta)
    (hs : starEach [e, e2] X.env = (false, eval e X.env) :: starEach [e2] X.env := by rfl) (hpl : (backTo pos (starEach [e2] X.env)).any (·.1) = false := by rfl) :
    PI X (.Tuple elts kk tpos) (.Call (.Name "zip" p) [e, e2] [] pos) (iZipN K ta) := by
  subst h
  refine ⟨fun pins s σ H R I h => Call_ (ld_blt I hg hm PyProof.Rows.boot_zip (PyProof.Rows.callWith_type1 (thn (ha.run pos pins s σ H _ I h) fun us s1 z => ?_) hs hpl))⟩
  obtain ⟨vs, H1, I1, r1, a, b, xs, ys, rfl, qx, qy, q⟩ := z
  cases r1 with
  | cons ra rr =>
    obtain ⟨ub, rfl, rb⟩ := vals1 rr
    cases ra
    cases rb
    obtain ⟨us, ru, pu, _⟩ := I1.list qx
    obtain ⟨vs, rv, pv, _⟩ := I1.tuple qy
    have lb : b < s1.heap.objs.size := by obtain ⟨_, e, _⟩ := id pv; exact Heap.lt_size e
    refine zip_begins2 (begins_list a us.toArray) (begins_tuple b vs.toArray) pu.isList pv fun h' hz hTI hTO g1 g2 hsz hk => wpAny_pyIter_zip hz ?_
    have S := zip_sep2 (N := s1.heap.objs.size) (fp1 := [a]) (fp2 := [b]) (fun c hc => by rw [List.mem_singleton.mp hc]; exact pu.lt) (fun c hc => by rw [List.mem_singleton.mp hc]; exact lb)
    refine ⟨_, _, _, _, H1, rfl, I1.kept (t' := s1.toks) hk, turn_zipN S (Nat.ne_of_lt pu.lt) (Nat.ne_of_lt (Nat.lt_succ_of_lt lb)), ⟨hz, hTI, ⟨_, _, hTO⟩, ⟨_, g1, rfl, rfl⟩, ⟨_, g2, rfl, rfl⟩⟩, fun c hc => ?_, q⟩
    have hle : s1.heap.objs.size ≤ c := by
      simp only [List.mem_cons, List.not_mem_nil, or_false] at hc
      rcases hc with rfl | rfl | rfl | rfl | rfl
      · exact Nat.le_add_right _ 4
      · exact Nat.le_add_right _ 2
      · exact Nat.le_add_right _ 3
      · exact Nat.le_refl _
      · exact Nat.le_add_right _ 1
    exact I1.fpOk hle (I1.hok.fresh hle)
theorem k_iZipN {K : PySem.W.Frag} {ta : TA} {σ : L2.St} {H : Hp} {R : It → Hp → Prop} (q : ta σ H fun vs H1 => rZipN K vs H1 R) : iZipN K ta σ H R := q
theorem k_zipNx {K : PySem.W.Frag} {H : Hp} {R : It → Hp → Prop} {a b : Addr} {xs ys : List V} (hx : SqL K H a xs) (hy : SqT K H b ys) (q : R (Itn K a b) H) : rZipN K [.ref a, .ref b] H R := ⟨a, b, xs, ys, rfl, hx, hy, q⟩
theorem zipN_it {K : PySem.W.Frag} {a b : Addr} {xs ys : List V} (hl : xs.length = ys.length) : PairIt (Itn K a b) xs.length (fun i => xs.getD i .non) (fun i => ys.getD i .non) (fun H => SqL K H a xs ∧ SqT K H b ys) where
  go := fun i H h c => ⟨xs, ys, _, _, h.1, h.2, get_some c, get_some (by omega)⟩
  stop := fun H h => ⟨xs, ys, h.1, h.2, rfl, hl.symm⟩
  yld := fun i H x H' h c ⟨T, y, z, e, hT, eH, hy, hz⟩ => ⟨T, e, hT, by
    have e1 := hy xs h.1
    have e2 := hz ys h.2
    rw [get_some c] at e1
    rw [get_some (by omega)] at e2
    rw [eH, Option.some.inj e1, Option.some.inj e2]⟩
/-! a tuple made of a list, known to be bare; its count -/
def SqF (H : Hp) (a : Addr) (xs : List V) : Prop := ∃ o, H a = some (.frz o (.tup xs)) ∧ o.dict = none
theorem SqF.sq {K : PySem.W.Frag} {H : Hp} {a : Addr} {xs : List V} (h : SqF H a xs) : SqT K H a xs := let ⟨o, e, _⟩ := h; .inl (.inr ⟨o, e⟩)
theorem SqF.same {H H' : Hp} (e : Same H H') {a : Addr} {xs : List V} (h : SqF H a xs) : SqF H' a xs := let ⟨o, g, d⟩ := h; ⟨o, e _ _ g, d⟩
theorem SqF.but {H H' : Hp} {l : Addr} {ys : List V} (e : But l H H') (hl : H l = some (.lst ys)) {a : Addr} {xs : List V} (h : SqF H a xs) : SqF H' a xs := let ⟨o, g, d⟩ := h; ⟨o, e _ _ (ne_of g hl (by intro z; cases z)) g, d⟩
def rTupF (K : PySem.W.Frag) : List V → Hp → VK → Prop := fun xs H Q => ∃ p ys, xs = [.ref p] ∧ SqL K H p ys ∧ ∀ l o, H l = none → o.dict = none → Q (.ref l) (upd H l (.frz o (.tup ys)))
theorem call_tupF {X : Cx} : CallR X (.type "tuple") (rTupF X.K) := by
  rintro pins s σ H xs us Q I r ⟨p, ys, rfl, hq, q⟩
  obtain ⟨u, rfl, rx⟩ := vals1 r
  cases rx
  obtain ⟨its, ri, pl, hz⟩ := I.list hq
  have hlen := ri.length
  refine call_tuple_list pl.isList (fun h' kp => ?_) (by simp only [List.size_toArray]; omega)
  have I1 := I.kept (t' := s.toks) kp
  have e := Heap.get?_push_size h' (o := { cls := .type "tuple", data := .seq its.toArray }) rfl
  exact ⟨.ref h'.objs.size, _, I1.laid (t' := s.toks) (fun b o e => Heap.get?_push_of_some _ e) (Nat.le_refl _) (show ObjOk X.prog X.w _ _ _ (.frz _ (.tup ys)) from ⟨e, hz, its, ri, IsTup.new _ _⟩), rfl, q _ _ (I1.hok.fresh (Nat.le_refl _)) rfl⟩
def rTupV (K : PySem.W.Frag) : List V → Hp → VK → Prop := fun xs H Q => rTupU K xs H Q ∨ rTupF K xs H Q
theorem call_tupV {X : Cx} : CallR X (.type "tuple") (rTupV X.K) := fun pins s σ H xs us Q I r h => h.elim (call_tupU pins s σ H xs us Q I r) (call_tupF pins s σ H xs us Q I r)
theorem k_tupF {K : PySem.W.Frag} {H : Hp} {Q : VK} {p : Addr} {xs : List V} (h : SqL K H p xs) (q : ∀ l H', H l = none → Same H H' → SqF H' l xs → Q (.ref l) H') : rTupV K [.ref p] H Q := .inr ⟨p, xs, rfl, h, fun l o hl d => q l _ hl (same_new hl) ⟨o, upd_same, d⟩⟩
theorem k_tupL {K : PySem.W.Frag} {H : Hp} {Q : VK} {p : Addr} {xs : List V} (h : SqL K H p xs) (q : ∀ l H', H l = none → Same H H' → H' l = some (.tup xs) → Q (.ref l) H') : rTupV K [.ref p] H Q := .inl ⟨p, xs, rfl, .inl ⟨h, fun l hl => q l _ hl (same_new hl) upd_same⟩⟩
theorem k_tupT {K : PySem.W.Frag} {H : Hp} {Q : VK} {p : Addr} {xs : List V} (h : SqT K H p xs) (q : Q (.ref p) H) : rTupV K [.ref p] H Q := .inl ⟨p, xs, rfl, .inr ⟨h, q⟩⟩
def rCntT (K : PySem.W.Frag) (x y : V) (H : Hp) (Q : VK) : Prop := ∃ p xs d ds, x = .ref p ∧ SqT K H p xs ∧ DpAll K H xs ds ∧ Dp K H y d ∧ PyData.plainAll ds = true ∧ d.plain = true ∧ PyData.depthAll ds ≤ 32 ∧ Q (.int ((ds.countP fun z => PyData.eqv z d : Nat) : Int)) H
def rBare (x : V) (H : Hp) (P : Prop) : Prop := (∃ p xs, x = .ref p ∧ SqF H p xs) ∧ P
def tCntT (K : PySem.W.Frag) (to te : TE) : TE := fun σ H Q => to σ H fun x H1 => rBare x H1 (te σ H1 fun y H2 => rCntT K x y H2 Q)
theorem pe_cntT {X : Cx} {K : PySem.W.Frag} {k : Nat} {o e : Expr} {to te : TE} {apos cpos : Pos} (h : X.K = K) (hr : Room k X.A) (ho : PE X o to) (he : PE X e te)
    (hb : attributeBase o "count" X.env (eval o X.env) = eval o X.env := by rfl)
    (hw : ((backTo cpos (starEach [e] X.env)).all (fun x => !x.1) && (backToKw cpos (keywordEach [] X.env)).all (fun x => x.1.isSome) && decide ([e].length + ([] : List Keyword).length + (if ([] : List Keyword).isEmpty then 0 else 1) < 30)) = true := by rfl)
    (hn : (apos.endLine == cpos.line) = true := by rfl) (hs : starEach [e] X.env = (false, eval e X.env) :: starEach [] X.env := by rfl) :
    PE X (.Call (.Attribute o "count" apos) [e] [] cpos) (tCntT K to te) := by
  subst h
  refine ⟨fun pins s σ H Q I h => wpAny_Call_method_late hb hw hn rfl (thn (ho.run pins s σ H _ I h) fun v s1 z => ?_)⟩
  obtain ⟨x, H1, I1, r1, ⟨p, xs, rfl, ob, ep, dn⟩, q⟩ := z
  cases r1
  obtain ⟨hp, _, its, _, o2, e2, c2, _⟩ := I1.hok p _ ep
  obtain rfl : ob = o2 := Option.some.inj (hp.symm.trans e2)
  refine ⟨"tuple", "tuple.count", PySem.F.plainAttrs_tuple, PySem.F.slot_tuple_count, PySem.F.type_tuple_count, ⟨_, hp, c2⟩, fun a ea => ?_, ?_⟩
  · cases ea
    exact ⟨_, hp, dn⟩
  rw [hs]
  refine Calls.callWith_builtin rfl (Calls.evalArgs_plain (Calls.spliced_cons (thn (he.run pins s1 σ H1 _ I1 q) fun u s2 z => Calls.spliced_nil ?_)))
  obtain ⟨y, H2, I2, r2, p2, ys, d, ds, ex, hq, da, dy, pl, pd, dp, q2⟩ := z
  cases ex
  obtain ⟨vs, rv, pt, _⟩ := I2.tuple hq
  obtain ⟨as, h4⟩ := Dp.readsAll I2 ds _ vs da rv
  obtain ⟨bs, h5⟩ := Dp.reads I2 d y u dy r2
  exact PySem.SeqAt.count_tuple_data pt (show ReadsAll s2.heap vs.toArray.toList ds as from h4) h5 pl pd (by have := hr.units; omega) ⟨.int ((ds.countP fun z => PyData.eqv z d : Nat) : Int), H2, I2.tok _, ⟨_, rfl⟩, q2⟩
theorem k_cntT {K : PySem.W.Frag} {to te : TE} {σ : L2.St} {H : Hp} {Q : VK} (q : to σ H fun x H1 => rBare x H1 (te σ H1 fun y H2 => rCntT K x y H2 Q)) : tCntT K to te σ H Q := q
theorem k_bare {p : Addr} {xs : List V} {H : Hp} {P : Prop} (h : SqF H p xs) (q : P) : rBare (.ref p) H P := ⟨⟨p, xs, rfl, h⟩, q⟩
theorem k_cntTx {K : PySem.W.Frag} {H : Hp} {Q : VK} {p : Addr} {xs : List V} {y : V} {d : PyData} {ds : List PyData} (hq : SqT K H p xs) (da : DpAll K H xs ds) (dy : Dp K H y d) (pl : PyData.plainAll ds = true) (pd : d.plain = true) (dp : PyData.depthAll ds ≤ 32)
    (q : Q (.int ((ds.countP fun z => PyData.eqv z d : Nat) : Int)) H) : rCntT K (.ref p) y H Q := ⟨p, xs, d, ds, rfl, hq, da, dy, pl, pd, dp, q⟩
/-! sorted, insert -/
def rSortU (K : PySem.W.Frag) : List V → Hp → VK → Prop := rSorted K
theorem k_sorted {K : PySem.W.Frag} {H : Hp} {Q : VK} {a : Addr} {ns : List Int} (h : SqL K H a (ns.map V.int)) (c : ns.length < 64) (q : ∀ (ms : List Int) p H', H p = none → Same H H' → ms.Perm ns → ms.Pairwise (· ≤ ·) → H' p = some (.lst (ms.map V.int)) → Q (.ref p) H') : rSorted K [.ref a] H Q :=
  ⟨a, ns, rfl, h, c, fun ms p pm pw hp => q ms p _ hp (same_new hp) pm pw upd_same⟩
def rIns : V → List V → Hp → VK → Prop := fun x vs H Q => ∃ (l : Addr) (xs : List V) (i : Int) (y : V), x = .ref l ∧ vs = [.int i, y] ∧ H l = some (.lst xs) ∧ xs.length < sizeLine ∧ 0 ≤ i ∧ i < 2 ^ 63 ∧ Q .non (upd H l (.lst (xs.take i.toNat ++ [y] ++ xs.drop i.toNat)))
theorem mt_insU {X : Cx} : MtR X "list.insert" rIns := mt_insert
theorem k_ins {l : Addr} {xs : List V} {i : Int} {y : V} {H : Hp} {Q : VK} (h : H l = some (.lst xs)) (c : xs.length < sizeLine) (i0 : 0 ≤ i) (i1 : i < 2 ^ 63) (q : ∀ H', But l H H' → H' l = some (.lst (xs.take i.toNat ++ [y] ++ xs.drop i.toNat)) → Q .non H') : rIns (.ref l) [.int i, y] H Q := ⟨l, xs, i, y, rfl, rfl, h, c, i0, i1, q _ But.upd upd_same⟩
theorem pmkOK {X : Cx} {K : PySem.W.Frag} {e : Expr} {es : List Expr} {ta : TA} {p pos : Pos} {x : Str} {ps : List Str} {sp : Sp} {j k : Nat} (hK : X.K = K) (c : XCl X.prog X.w K X.mg X.base k x ps sp) (hr : Room j X.A) (hk : k + 1 ≤ j) (ha : PA X (e :: es) ta) (hg : Gl X x := by rfl)
    (hdb : (x == ("__debug__" : Str)) = false := by decide) (hs : starEach (e :: es) X.env = (false, eval e X.env) :: starEach es X.env := by rfl) (hpl : (backTo pos (starEach es X.env)).any (·.1) = false := by rfl) :
    PMk X (.Call (.Name x p) (e :: es) [] pos) (tMkO (He.ga K x) sp [] ta) := by
  subst hK
  exact pmkO c hr hk ha hg hdb hs hpl
/-! the head's hook: what the names reach, the interpreter's statics (a class's own attributes are read by them), and a word more -/
def reachS (g : Addr → Option Obj) (n : Nat) : List Addr := He.asD g n ++ [PySem.cStatics]
def obsS (n : Nat) (fa : List He.Fa) (fn : List He.DefD) (ex : PySem.W.Frag → Bool) (g : Addr → Option Obj) : He.AlD × Bool := (He.obsD fa fn (He.frT g (reachS g n)), ex (He.frT g (reachS g n)))
def hookS (n : Nat) (fa : List He.Fa) (fn : List He.DefD) (ex : PySem.W.Frag → Bool) : PySem.W.Hook where
  α := He.AlD × Bool
  obs s := obsS n fa fn ex s.heap.get?
  val _ := (He.valD fn, true)
  says _ h := ∃ K : PySem.W.Frag, K.In h ∧ He.SaysD fa fn K ∧ ex K = true
  of _ _ e := ⟨_, He.frT_in, congrArg (fun z : He.AlD × Bool => z.1) e, congrArg (fun z : He.AlD × Bool => z.2) e⟩
  keeps := fun _ _ _ ⟨K, hK, c⟩ k => ⟨K, PySem.W.Frag.In.keeps hK k, c⟩
theorem obsS_eq {n : Nat} {fa : List He.Fa} {fn : List He.DefD} {ex : PySem.W.Frag → Bool} {g : Addr → Option Obj} {s : Shared} (h : ∀ a, g a = s.heap.get? a) : obsS n fa fn ex g = (hookS n fa fn ex).obs s := by
  obtain rfl : g = s.heap.get? := funext h
  rfl
/-- the same, its addresses given -/
def obsA (as : List Addr) (fa : List He.Fa) (fn : List He.DefD) (ex : PySem.W.Frag → Bool) (g : Addr → Option Obj) : He.AlD × Bool := (He.obsD fa fn (He.frT g as), ex (He.frT g as))
def hookA (as : List Addr) (fa : List He.Fa) (fn : List He.DefD) (ex : PySem.W.Frag → Bool) : PySem.W.Hook where
  α := He.AlD × Bool
  obs s := obsA as fa fn ex s.heap.get?
  val _ := (He.valD fn, true)
  says _ h := ∃ K : PySem.W.Frag, K.In h ∧ He.SaysD fa fn K ∧ ex K = true
  of _ _ e := ⟨_, He.frT_in, congrArg (fun z : He.AlD × Bool => z.1) e, congrArg (fun z : He.AlD × Bool => z.2) e⟩
  keeps := fun _ _ _ ⟨K, hK, c⟩ k => ⟨K, PySem.W.Frag.In.keeps hK k, c⟩
theorem obsA_eq {as : List Addr} {fa : List He.Fa} {fn : List He.DefD} {ex : PySem.W.Frag → Bool} {g : Addr → Option Obj} {s : Shared} (h : ∀ a, g a = s.heap.get? a) : obsA as fa fn ex g = (hookA as fa fn ex).obs s := by
  obtain rfl : g = s.heap.get? := funext h
  rfl
/-! is None, of what is known -/
section
variable {A B : Prop} {a : Addr} {x : Str}
theorem k_nonT (h : A) : if decide (V.non = V.non) = true then A else B := by simpa using h
theorem k_nonF (h : B) : if (!decide (V.non = V.non)) = true then A else B := by simpa using h
theorem k_refT (h : B) : if decide (V.ref a = V.non) = true then A else B := by simpa using h
theorem k_refF (h : A) : if (!decide (V.ref a = V.non)) = true then A else B := by simpa using h
theorem k_blT {b : Bool} (h : B) : if decide (V.bl b = V.non) = true then A else B := by simpa using h
theorem k_blF {b : Bool} (h : A) : if (!decide (V.bl b = V.non)) = true then A else B := by simpa using h
theorem k_strT (h : B) : if decide (V.str x = V.non) = true then A else B := by simpa using h
theorem k_strF (h : A) : if (!decide (V.str x = V.non)) = true then A else B := by simpa using h
end
/-! isinstance of instances, popping at a place -/
structure InsT (K : PySem.W.Frag) (C : Addr) : Prop where
  ha : PySem.W.findIn K (.ref C) "__class__" = some (some (.builtin "object.__class__"))
  hn : PySem.W.specialIn K (.builtin "object.__class__") "__get__" = some (some (.builtin "getset_descriptor.__get__"))
  ht : PySem.W.takesIn K (.builtin "object.__class__") = some true
  hm : PySem.W.mroIn K C (.type "object") = some true
def insB (K : PySem.W.Frag) (x : Str) : Bool := He.eqO (PySem.W.findIn K (.ref (He.ga K x)) "__class__") (some (some (.builtin "object.__class__"))) && (He.eqO (PySem.W.specialIn K (.builtin "object.__class__") "__get__") (some (some (.builtin "getset_descriptor.__get__"))) &&
  (decide (PySem.W.takesIn K (.builtin "object.__class__") = some true) && decide (PySem.W.mroIn K (He.ga K x) (.type "object") = some true)))
theorem insB_ok {K : PySem.W.Frag} {x : Str} (h : insB K x = true) : InsT K (He.ga K x) := by
  obtain ⟨h1, h⟩ := He.ba h
  obtain ⟨h2, h⟩ := He.ba h
  obtain ⟨h3, h4⟩ := He.ba h
  exact ⟨He.eqO_ok h1, He.eqO_ok h2, of_decide_eq_true h3, of_decide_eq_true h4⟩
theorem k_isIns {K : PySem.W.Frag} {H : Hp} {Q : VK} {a C D dx : Addr} {fs : List (Str × V)} {b : Bool} (h : H a = some (.ins C dx fs)) (cl : Cls K C) (t : InsT K C) (hk : PySem.W.kitOne K (.ref C) (.ref D) = some b) (q : Q (.bl b) H) : rIsi K [.ref a, .ref D] H Q :=
  k_isi (.own D) (.base (.ins h cl t.ha t.hn t.ht t.hm)) hk q
theorem k_popAt {l : Addr} {xs : List V} {y : V} {j : Nat} {H : Hp} {Q : VK} (h : H l = some (.lst xs)) (hj : xs[j]? = some y) (c : xs.length ≤ 1000000) (q : ∀ H', But l H H' → H' l = some (.lst (xs.eraseIdx j)) → Q y H') : rPopAt (.ref l) [.int (j : Int)] H Q := by
  have hlt := (List.getElem?_eq_some_iff.mp hj).1
  refine ⟨l, xs, (j : Int), j, y, rfl, rfl, h, by omega, by omega, ?_, hj, q _ But.upd upd_same⟩
  unfold seqIndex?
  rw [if_neg (show ¬ ((j : Int) < 0) by omega)]
  simp [hlt]
/-! zip of two lists, of two tuples -/
def rZipU (K : PySem.W.Frag) (vs : List V) (H1 : Hp) (R : It → Hp → Prop) : Prop := ∃ a b xs ys, vs = [.ref a, .ref b] ∧ ((SqL K H1 a xs ∧ SqL K H1 b ys ∧ R (Itz K a b) H1) ∨ (SqT K H1 a xs ∧ SqT K H1 b ys ∧ R (RZ.ItzT K a b) H1))
def iZipU (K : PySem.W.Frag) (ta : TA) : TI := fun σ H R => ta σ H fun vs H1 => rZipU K vs H1 R
theorem pi_zipU {X : Cx} {K : PySem.W.Frag} {e e2 : Expr} {ta : TA} {p pos tpos : Pos} {elts : List Expr} {kk : Nat} (h : X.K = K) (hg : Gl X "zip") (hm : X.mg "zip" = none) (ha : PA X [e, e2] ta)
    (hs : starEach [e, e2] X.env = (false, eval e X.env) :: starEach [e2] X.env := by rfl) (hpl : (backTo pos (starEach [e2] X.env)).any (·.1) = false := by rfl) :
    PI X (.Tuple elts kk tpos) (.Call (.Name "zip" p) [e, e2] [] pos) (iZipU K ta) := h ▸ RZ.pi_zipA hg hm ha hs hpl
theorem k_iZipU {K : PySem.W.Frag} {ta : TA} {σ : L2.St} {H : Hp} {R : It → Hp → Prop} (q : ta σ H fun vs H1 => rZipU K vs H1 R) : iZipU K ta σ H R := q
theorem k_zipLx {K : PySem.W.Frag} {H : Hp} {R : It → Hp → Prop} {a b : Addr} {xs ys : List V} (hx : SqL K H a xs) (hy : SqL K H b ys) (q : R (Itz K a b) H) : rZipU K [.ref a, .ref b] H R := ⟨a, b, xs, ys, rfl, .inl ⟨hx, hy, q⟩⟩
theorem k_zipTx {K : PySem.W.Frag} {H : Hp} {R : It → Hp → Prop} {a b : Addr} {xs ys : List V} (hx : SqT K H a xs) (hy : SqT K H b ys) (q : R (RZ.ItzT K a b) H) : rZipU K [.ref a, .ref b] H R := ⟨a, b, xs, ys, rfl, .inr ⟨hx, hy, q⟩⟩
theorem zipT_it {K : PySem.W.Frag} {a b : Addr} {xs ys : List V} (hl : xs.length = ys.length) : PairIt (RZ.ItzT K a b) xs.length (fun i => xs.getD i .non) (fun i => ys.getD i .non) (fun H => SqT K H a xs ∧ SqT K H b ys) where
  go := fun i H h c => ⟨xs, ys, _, _, h.1, h.2, get_some c, get_some (by omega)⟩
  stop := fun H h => ⟨xs, ys, h.1, h.2, .inl (Nat.le_refl _)⟩
  yld := fun i H x H' h c ⟨T, y, z, e, hT, eH, hy, hz⟩ => ⟨T, e, hT, by
    have e1 := hy xs h.1
    have e2 := hz ys h.2
    rw [get_some c] at e1
    rw [get_some (by omega)] at e2
    rw [eH, Option.some.inj e1, Option.some.inj e2]⟩
/-! texts: walked, cut at a sign, begun by one -/
section
variable {X : Cx} {σ : L2.St} {H : Hp} {Q : VK} {K : PySem.W.Frag} {g : TG} {tt : TT} {te : TE} {vs : List Nat} {tb : TS} {D : Ends}
def rItS (v : V) (H1 : Hp) (R : It → Hp → Prop) : Prop := ∃ x, v = .str x ∧ R (Its x) H1
theorem k_iStr {R : It → Hp → Prop} (q : te σ H fun v H1 => rItS v H1 R) : iStr te σ H R := q
theorem k_itS {x : Str} {R : It → Hp → Prop} (q : R (Its x) H) : rItS (.str x) H R := ⟨x, rfl, q⟩
theorem k_lcS {z : List Nat} (P : Addr → Nat → List V → Hp → Prop) (h0 : ∀ D H', H D = none → Same H H' → H' D = some (.lst []) → P D 0 [] H')
    (hs : ∀ D (i : Nat) c ys H', H D = none → z[i]? = some c → P D i ys H' → H' D = some (.lst ys) → LcB D g tt te vs σ (.str (SX.S [c])) H' fun H'' => ∃ zs, P D (i + 1) zs H'' ∧ H'' D = some (.lst zs))
    (hd : ∀ D ys H', H D = none → P D z.length ys H' → H' D = some (.lst ys) → Q (.ref D) H') : LcX (Its (SX.S z)) g tt te vs σ H Q := fun D hD => by
  refine ⟨fun i m H' => m = z.length - i ∧ i ≤ z.length ∧ ∃ ys, P D i ys H' ∧ H' D = some (.lst ys), ⟨z.length, by simp, Nat.zero_le _, [], h0 D _ hD (same_new hD) upd_same, upd_same⟩, ?_⟩
  rintro i m H' ⟨rfl, hi, ys, p, e⟩
  by_cases c : i < z.length
  · refine .inr ⟨by show i < (SX.S z).cps.size; simpa using c, fun H'' => ∃ zs, P D (i + 1) zs H'' ∧ H'' D = some (.lst zs), fun H2 ⟨zs, q, e2⟩ => ⟨z.length - (i + 1), by omega, rfl, c, zs, q, e2⟩, fun x H2 y => ?_⟩
    obtain ⟨rfl, d, hd, rfl⟩ := y
    exact hs D i d ys H2 hD (by simpa using hd) p e
  · have ei : i = z.length := by omega
    subst ei
    exact .inl ⟨by show (SX.S z).cps.size ≤ _; simp, hd D ys H' hD p e⟩
theorem k_loopS {z : List Nat} (P : Nat → L2.St → Hp → Prop) (h0 : P 0 σ H) (hs : ∀ (i : Nat) c σ H, z[i]? = some c → P i σ H → g (.str (SX.S [c])) σ H fun σ2 H2 => tb { D with nx := P (i + 1), ct := P (i + 1), bk := D.nx } σ2 H2) (hd : ∀ σ H, P z.length σ H → D.nx σ H) : LoopI (Its (SX.S z)) g tb D σ H := by
  refine ⟨fun i m σ' H' => m = z.length - i ∧ i ≤ z.length ∧ P i σ' H', ⟨z.length, by simp, Nat.zero_le _, h0⟩, ?_⟩
  rintro i m σ' H' ⟨rfl, hi, p⟩
  by_cases c : i < z.length
  · refine .inr ⟨by show i < (SX.S z).cps.size; simpa using c, P (i + 1), fun σ2 H2 q => ⟨z.length - (i + 1), by omega, rfl, c, q⟩, fun x H2 y => ?_⟩
    obtain ⟨rfl, d, hd, rfl⟩ := y
    exact hs i d σ' H2 (by simpa using hd) p
  · have ei : i = z.length := by omega
    subst ei
    exact .inl ⟨by show (SX.S z).cps.size ≤ _; simp, hd σ' H' p⟩
def rSplit : V → List V → Hp → VK → Prop := fun x xs H Q => ∃ a b, x = .str a ∧ xs = [.str b] ∧ (b.length == 0) = false ∧ a.length + 2 ≤ sizeLine ∧ rNewStrs (Txt.split a b) H Q
theorem mt_splitU : MtR X "str.split" rSplit := mt_split
theorem k_split {a : List Nat} {c : Nat} (hc : c < 256) (h : a.length + 2 ≤ sizeLine) (q : ∀ p H', H p = none → Same H H' → H' p = some (.lst ((TL.spl [c] 0 [] a).map fun z => V.str (SX.S z))) → Q (.ref p) H') : rSplit (.str (SX.S a)) [.str (SX.S [c])] H Q := by
  refine ⟨_, _, rfl, rfl, rfl, by rw [SX.S_len]; exact h, fun p hp => q p _ hp (same_new hp) ?_⟩
  rw [upd_same, SX.split_S (by simp) (by simp [hc]), List.map_map]
  rfl
def rStarts : V → List V → Hp → VK → Prop := fun x xs H Q => ∃ a b, x = .str a ∧ xs = [.str b] ∧ Q (.bl (Txt.startswith a b)) H
theorem mt_startsU : MtR X "str.startswith" rStarts := mt_startswith
theorem starts_one (a : List Nat) (c : Nat) : Txt.startswith (SX.S a) (SX.S [c]) = decide (a.head? = some c) := by
  rw [Bool.eq_iff_iff, decide_eq_true_eq]
  have h := PySem.StrLaws.subAt_one (SX.S a) c 0
  show (decide (0 + (SX.S [c]).length ≤ (SX.S a).length) && Builtin.Str.subAt (SX.S a) (SX.S [c]) 0) = true ↔ _
  rw [Bool.and_eq_true, decide_eq_true_eq]
  refine Iff.trans h ?_
  show a[0]? = some c ↔ _
  rw [List.head?_eq_getElem?]
theorem k_starts {a : List Nat} {c : Nat} (q : Q (.bl (decide (a.head? = some c))) H) : rStarts (.str (SX.S a)) [.str (SX.S [c])] H Q := ⟨_, _, rfl, rfl, by rw [starts_one]; exact q⟩
theorem k_all {a : Addr} {bs : List Bool} (h : SqL K H a (bs.map V.bl)) (q : Q (.bl (bs.all id)) H) : rAll K [.ref a] H Q := ⟨a, bs, rfl, h, q⟩
theorem k_inC {c : Nat} {a : List Nat} (q : Q (.bl (decide (c ∈ a))) H) : rInU K (.str (SX.S [c])) (.str (SX.S a)) H Q := k_inS (by rw [SX.in_one]; exact q)
theorem k_niC {c : Nat} {a : List Nat} (q : Q (.bl (!decide (c ∈ a))) H) : rNiU K (.str (SX.S [c])) (.str (SX.S a)) H Q := k_niS (by rw [SX.in_one]; exact q)
/-- text slices -/
theorem k_slFrom {a : List Nat} {i : Nat} (c : a.length ≤ sizeLine) (q : Q (.str (SX.S (a.drop i))) H) : rSlU K (.str (SX.S a)) (some (i : Int)) none H Q := k_slS (by rw [C8.cutS_slice, SX.slice_from (by omega)]; exact q) (by rw [SX.S_len]; exact c)
theorem k_slTo {a : List Nat} {i : Nat} (c : a.length ≤ sizeLine) (q : Q (.str (SX.S (a.take i))) H) : rSlU K (.str (SX.S a)) none (some (i : Int)) H Q := k_slS (by rw [C8.cutS_slice, SX.slice_to (by omega)]; exact q) (by rw [SX.S_len]; exact c)
end
/-! how often, and where, a sign stands in a text -/
section
variable {X : Cx} {H : Hp} {Q : VK} {K : PySem.W.Frag}
def rCntS : V → List V → Hp → VK → Prop := fun x xs H Q => ∃ a b, x = .str a ∧ xs = [.str b] ∧ Q (.int (Txt.count a b)) H
theorem mt_cntS : MtR X "str.count" rCntS := mt_count
theorem cnt_is (c : Nat) : ∀ l : List Nat, PyProof.Rows.cnt c l = (l.countP (· == c) : Int)
  | [] => rfl
  | n :: r => by
    rw [PyProof.Rows.cnt_cons, cnt_is c r, List.countP_cons]
    by_cases h : n = c <;> simp [h] <;> omega
theorem k_cntS {a : List Nat} {c : Nat} (q : Q (.int (a.countP (· == c) : Int)) H) : rCntS (.str (SX.S a)) [.str (SX.S [c])] H Q := ⟨_, _, rfl, rfl, by
  have e : Txt.count (SX.S a) (SX.S [c]) = (a.countP (· == c) : Int) := (PyProof.Rows.count_cnt (SX.S a) c).trans (cnt_is c a)
  rw [e]
  exact q⟩
def rIdxS : V → List V → Hp → VK → Prop := fun x xs H Q => ∃ a b i rest, x = .str a ∧ xs = [.str b] ∧ Builtin.Str.occurrences a b 0 a.length 1 = i :: rest ∧ Q (.int (i : Nat)) H
theorem mt_idxS : MtR X "str.index" rIdxS := mt_sindex
theorem fig_occ {c : Nat} (h : 48 ≤ c ∧ c ≤ 57) : Builtin.Str.occurrences (Str.ofString "0123456789") (SX.S [c]) 0 (Str.ofString "0123456789").length 1 = [c - 48] := by
  have k : ∀ d : Fin 10, Builtin.Str.occurrences (Str.ofString "0123456789") (SX.S [48 + d.1]) 0 (Str.ofString "0123456789").length 1 = [d.1] := by decide +kernel
  have := k ⟨c - 48, by omega⟩
  rwa [show 48 + (⟨c - 48, by omega⟩ : Fin 10).1 = c by show 48 + (c - 48) = c; omega] at this
theorem k_idxFig {c : Nat} (h : 48 ≤ c ∧ c ≤ 57) (q : Q (.int ((c - 48 : Nat) : Int)) H) : rIdxS (.str (Str.ofString "0123456789")) [.str (SX.S [c])] H Q := ⟨_, _, _, _, rfl, rfl, fig_occ h, q⟩
end
/-! a dict that is asked for None, too -/
def optIs : Option Key → Value → Bool
  | none, .none => true
  | none, _ => false
  | some k, v => keyIs k v
theorem optIs_none {v : Value} (h : optIs none v = true) : v = .none := by
  cases v <;> first | rfl | exact absurd h Bool.false_ne_true
theorem optIs_some {k : Key} {v : Value} (h : optIs (some k) v = true) : keyIs k v = true := h
theorem key_none {k : Key} (h : keyIs k Value.none = true) : False := by
  rcases keyIs_shape h with ⟨i, t, _, e⟩ | ⟨x, t, _, e⟩ <;> cases e
def optH (w : World) : Option Key → Int
  | none => NestedKey.hash w .none
  | some k => keyH w k
theorem hash_none {prog : Program} {w : World} {A : Around} {E : Value → Shared → Prop} {s : Shared} {Q : Int → Shared → Prop} (h : Q (optH w none) { s with toks := s.toks + 1 }) : wpAny (model prog w) A (pyHash .none) Q E s :=
  PySem.W.pyHash_slot (T := "NoneType") rfl PySem.F.slot_NoneType_hash PySem.F.entry_NoneType_hash (PySem.F.args_NoneType_hash_1 _) (beq_builtin_none _) (.inl rfl) (wpAny_bind (wpAny_pure (wpAny_bind (wpAny_mkInt (wpAny_pure ⟨_, _, rfl, h⟩)))))
theorem eq_opt {prog : Program} {w : World} {A : Around} {E : Value → Shared → Prop} {s : Shared} : ∀ {a b : Option Key} {u v : Value} {Q : Bool → Shared → Prop}, optIs a u = true → optIs b v = true → Q (decide (a = b)) s → wpAny (model prog w) A (PySem.eqBool u v) Q E s
  | none, none, u, v, Q, hu, hv, h => by
    rw [optIs_none hu, optIs_none hv]
    exact SeqAt.EqAt.same _ _ _ _ _ h
  | none, some k, u, v, Q, hu, hv, h => by
    rw [optIs_none hu]
    rcases keyIs_shape (optIs_some hv) with ⟨i, t, _, e⟩ | ⟨x, t, _, e⟩ <;> subst e
    · exact SeqAt.EqAt.none_int i t _ _ _ _ h
    · exact SeqAt.EqAt.none_str x t _ _ _ _ h
  | some k, none, u, v, Q, hu, hv, h => by
    rw [optIs_none hv]
    rcases keyIs_shape (optIs_some hu) with ⟨i, t, _, e⟩ | ⟨x, t, _, e⟩ <;> subst e
    · exact SeqAt.EqAt.int_none i t _ _ _ _ h
    · exact SeqAt.EqAt.str_none x t _ _ _ _ h
  | some a, some b, u, v, Q, hu, hv, h => (mixKind prog w).eqBool (a := a) (b := b) (optIs_some hu) (optIs_some hv) (by
    have e : decide (a = b) = decide (some a = some b) := by by_cases c : a = b <;> simp [c]
    rw [e]
    exact h)
def optKind (prog : Program) (w : World) : PySem.KeyKind prog w (Option Key) where
  is := optIs
  hash := optH w
  inj := fun v a b ha hb => by
    cases a with
    | none =>
      cases b with
      | none => rfl
      | some k => rw [optIs_none ha] at hb; exact (key_none hb).elim
    | some j =>
      cases b with
      | none => rw [optIs_none hb] at ha; exact (key_none ha).elim
      | some k => exact congrArg some ((mixKind prog w).inj v j k ha hb)
  byValue := fun k v h => by
    cases k with
    | none => rw [optIs_none h]; rfl
    | some k => exact (mixKind prog w).byValue k v h
  pyHash := fun {A E s k v Q} hv h => by
    cases k with
    | none => rw [optIs_none hv]; exact hash_none h
    | some k => exact (mixKind prog w).pyHash (k := k) hv h
  eqBool := fun hu hv h => eq_opt hu hv h
  «strs» := fun k x t v h => by
    cases k with
    | none => exact absurd h Bool.false_ne_true
    | some k => exact (mixKind prog w).strs k x t v h
theorem map_opt {prog : Program} {w : World} {h : Heap} {a : Addr} {f : Key → Option Value} (m : h.MapOf (mixKind prog w) a f) : h.MapOf (optKind prog w) a (fun k => k.bind f) := by
  obtain ⟨o, es, ep, ho, hc, hd, hk, hf⟩ := m
  refine ⟨o, es, ep, ho, hc, hd, fun e he => let ⟨k, h1, h2⟩ := hk e he; ⟨some k, h1, h2⟩, fun k => ?_⟩
  cases k with
  | some k => exact hf k
  | none =>
    show findBy optIs es none = none
    unfold findBy
    rw [Array.find?_eq_none.mpr, Option.map_none]
    intro e he q
    obtain ⟨k, h1, _⟩ := hk e he
    rw [optIs_none q] at h1
    exact key_none h1
def rGetN (x y z : V) (H : Hp) (Q : VK) : Prop := ∃ a kvs, x = .ref a ∧ H a = some (.dK kvs) ∧ ((y = .non ∧ Q z H) ∨ ∃ k, y = kV k ∧ Q ((valV kvs k).getD z) H)
def tGetN (td ty tx : TE) : TE := fun σ H Q => td σ H fun x H1 => ∃ a, x = .ref a ∧ IsD H1 a ∧ ty σ H1 fun y H2 => tx σ H2 fun z H3 => rGetN x y z H3 Q
theorem pe_getN {X : Cx} {k : Nat} {o e f : Expr} {td ty tx : TE} {apos cpos : Pos} (hr : Room k X.A) (ho : PE X o td) (he : PE X e ty) (hf : PE X f tx)
    (m1 : attributeBase o "get" X.env (eval o X.env) = eval o X.env := by rfl)
    (m2 : ((backTo cpos (starEach [e, f] X.env)).all (fun x => !x.1) && (backToKw cpos (keywordEach [] X.env)).all (fun x => x.1.isSome) && decide (([e, f] : List Expr).length + ([] : List Keyword).length + (if ([] : List Keyword).isEmpty then 0 else 1) < 30)) = true := by rfl)
    (m3 : (apos.endLine == cpos.line) = true := by rfl) (m4 : backTo cpos (starEach [e, f] X.env) = [(false, eval e X.env), (false, eval f X.env)] := by rfl) :
    PE X (.Call (.Attribute o "get" apos) [e, f] [] cpos) (tGetN td ty tx) := by
  refine ⟨fun pins s σ H Q I h => ?_⟩
  refine wpAny_Call_method m1 m2 m3 PySem.F.plainAttrs_dict PySem.F.slot_dict_get PySem.F.type_dict_get (thn (ho.run pins s σ H _ I h) fun u s1 ⟨x, H1, I1, rx, a, ex, d, q1⟩ => ?_)
  subst ex
  obtain rfl : u = Value.ref a := rx
  obtain ⟨t1, t2, _⟩ := isD_at I1 d
  refine ⟨t1, t2, ?_⟩
  rw [m4]
  refine Calls.callWith_builtin rfl (Calls.evalArgs_plain (Calls.spliced_cons (thn (he.run pins s1 σ H1 _ I1 q1) fun iv s2 ⟨y, H2, I2, ry, q2⟩ =>
    Calls.spliced_cons (thn (hf.run pins s2 σ H2 _ I2 q2) fun fv s3 ⟨z, H3, I3, rz, b, kvs, eb, eh, q3⟩ => Calls.spliced_nil ?_))))
  obtain rfl : a = b := V.ref.inj eb
  rcases q3 with ⟨ey, q3⟩ | ⟨k, ey, q3⟩
  · subst ey
    obtain rfl : iv = Value.none := ry
    obtain ⟨_, hd, vs, _, dd⟩ := dk_rd I3.hok (.inl eh)
    exact call_meetsIn PySem.F.slot_dict_get dd.typeIs PySem.F.entry_dict_get (PySem.F.args_dict_get_3 _ _ _) (meets_dict_get_default (optKind X.prog X.w) (k := none) (key := .none) a rfl hd fv) ⟨_, map_opt dd.mapOf, ⟨z, H3, I3.tok _, rz, q3⟩⟩
  · exact d_get2 (by have := hr.units; omega) I3 (.inl ⟨kvs, k, .inl eh, ey, rfl⟩) ry rz fun w' s4 I4 rw' => ⟨_, H3, I4, rw', q3⟩
theorem k_getN {td ty tx : TE} {σ : L2.St} {H : Hp} {Q : VK} (q : td σ H fun x H1 => ∃ a, x = .ref a ∧ IsD H1 a ∧ ty σ H1 fun y H2 => tx σ H2 fun z H3 => rGetN x y z H3 Q) : tGetN td ty tx σ H Q := q
theorem k_getD {a : Addr} {kvs : List (Key × V)} {H : Hp} {P : Prop} (h : H a = some (.dK kvs)) (q : P) : ∃ b, V.ref a = .ref b ∧ IsD H b ∧ P := ⟨a, rfl, .inl ⟨kvs, .inl h⟩, q⟩
theorem k_getNone {a : Addr} {kvs : List (Key × V)} {z : V} {H : Hp} {Q : VK} (h : H a = some (.dK kvs)) (q : Q z H) : rGetN (.ref a) .non z H Q := ⟨a, kvs, rfl, h, .inl ⟨rfl, q⟩⟩
theorem k_getStr {a : Addr} {kvs : List (Key × V)} {z : V} {t : Str} {H : Hp} {Q : VK} (h : H a = some (.dK kvs)) (q : Q ((valV kvs (.inr t)).getD z) H) : rGetN (.ref a) (.str t) z H Q := ⟨a, kvs, rfl, h, .inr ⟨.inr t, rfl, q⟩⟩
/-- a dict of two pairs, their keys texts -/
def rDisp2 (p : Addr) (x y x2 y2 : V) (H : Hp) (Q : VK) : Prop := H p = some (.dK []) ∧ ∃ kvs : List (Key × V), [(x, y), (x2, y2)] = kvs.map (fun kv => (kV kv.1, kv.2)) ∧ kvs.length ≤ 15 ∧ Q (.ref p) (upd H p (.dK (mergeK [] kvs)))
theorem k_disp2 {σ : L2.St} {H : Hp} {Q : VK} {tk tv tk2 tv2 : TE} (q : ∀ p H1, H p = none → Same H H1 → H1 p = some (.dK []) → tk σ H1 fun x H2 => tv σ H2 fun y H3 => tk2 σ H3 fun x2 H4 => tv2 σ H4 fun y2 H5 => rDisp2 p x y x2 y2 H5 Q) : tDisp [(tk, tv), (tk2, tv2)] σ H Q := fun p hp => q p _ hp (same_new hp) upd_same
theorem k_disp2x {p : Addr} {z z2 : Str} {y y2 : V} {H : Hp} {Q : VK} (h : H p = some (.dK [])) (n : z2 ≠ z) (q : ∀ H', But p H H' → H' p = some (.dK [(.inr z, y), (.inr z2, y2)]) → Q (.ref p) H') : rDisp2 p (.str z) y (.str z2) y2 H Q := ⟨h, [(.inr z, y), (.inr z2, y2)], rfl, by simp, q _ But.upd (by
  have n2 : ¬ z = z2 := fun e => n e.symm
  rw [upd_same]
  simp [mergeK, putK, n2])⟩
theorem k_addG {K : PySem.W.Frag} {H : Hp} {Q : VK} {a b : Addr} {xs ys : List V} (ha : SqL K H a xs) (hb : SqL K H b ys) (q : ∀ p H', H p = none → Same H H' → H' p = some (.lst (xs ++ ys)) → Q (.ref p) H') (c : xs.length + ys.length ≤ sizeLine) : rAddU K (.ref a) (.ref b) H Q :=
  .inr (.inr (.inr (.inr ⟨a, b, xs, ys, rfl, rfl, ha, hb, c, fun p hp => q p _ hp (same_new hp) upd_same⟩)))
/-! C(..) whose __init__ may raise -/
section
variable {X : Cx} {W : WX} {e : Expr} {es : List Expr} {p pos : Pos} {t : TA} {C x : Str} {ps : List Str} {sp : Sp} {j k : Nat}
def tMakeS (C : Addr) (sp : Sp) (E : L2.St → XK) (t : TA) : TE := fun σ H Q => t σ H fun vs H1 => rMake C sp vs H1 Q (E σ)
theorem pmakeS {K : PySem.W.Frag} (hK : X.K = K) (c : KCl X.prog X.w K X.mg X.base k C ps sp) (hr : Room j X.A) (hk : k + 1 ≤ j) (tk : Takes X W) (ha : PA X (e :: es) t) (hg : Gl X C := by rfl)
    (hdb : (C == ("__debug__" : Str)) = false := by decide) (hst : starEach (e :: es) X.env = (false, eval e X.env) :: starEach es X.env := by rfl) (hpl : (backTo pos (starEach es X.env)).any (·.1) = false := by rfl) :
    PE X (.Call (.Name C p) (e :: es) [] pos) (tMakeS (He.ga K C) sp (WE W) t) := by
  subst hK
  obtain ⟨f, fd, M, F, hm, b⟩ := c.ex
  refine ⟨fun pins s σ H Q I h => wpAny_Call_Name_kw (ld_glob I hg hm ?_ hdb)⟩
  refine PySem.W.callWith_K (h₀ := X.base) I.ok.mod.kin M.kp (thn (ha.run pos pins s σ H _ I h) fun us s1 ⟨vs, H1, I1, r, q⟩ => ⟨I1.kIn, ?_⟩) hst hpl
  have q2 := q (s1.heap.objs.size + 1) s1.heap.objs.size (I1.hok.fresh (Nat.le_succ _)) (I1.hok.fresh (Nat.le_refl _)) (Nat.ne_of_lt (Nat.lt_succ_self _))
  have J := Inv.made (C := He.ga X.K C) I1
  have r2 : Vals (V.ref (s1.heap.objs.size + 1) :: vs) (Value.ref (s1.heap.objs.size + 1) :: us) := .cons rfl r
  have hl : (Value.ref (s1.heap.objs.size + 1) :: us).length = ps.length := by
    rw [← r2.length]
    exact F.len _ _ _ _ q2
  have bb := b _ (Value.ref (s1.heap.objs.size + 1) :: us) J.kIn (by rw [List.append_nil]; exact hl)
  rw [List.append_nil] at bb
  refine wpAny_call (make_map (f := f) I1.kIn M.makes M.init (beq_iff_eq.mp M.fn) (codeAny_mono (F.run _ X.stack _ _ ⟨Value.ref (s1.heap.objs.size + 1) :: us, []⟩ _ _ _ _ ((hr.mono hk).make (He.ga X.K C) us []) (J.env0.make (He.ga X.K C) us []) bb r2 q2) fun rr s' z => ?_))
  cases rr with
  | error er => exact passAt tk σ pins _ _ er s' J z
  | ok fl =>
    cases fl with
    | ret u =>
      obtain ⟨v, H', I3, rv, ev, q3⟩ := J.after z
      subst ev
      exact ⟨rv, ⟨V.ref (s1.heap.objs.size + 1), H', I3, rfl, q3⟩⟩
    | next => exact z.elim
    | brk => exact z.elim
    | cont => exact z.elim
theorem k_makeS {σ : L2.St} {H : Hp} {Q : VK} {C : Addr} (q : t σ H fun vs H1 => rMake C sp vs H1 Q (WE W σ)) : tMakeS C sp (WE W) t σ H Q := q
end
/-- tuples stay while an instance changes -/
theorem seqT_butI {K : PySem.W.Frag} {H H' : Hp} {l C dx : Addr} {fs : List (Str × V)} (e : But l H H') (hl : H l = some (.ins C dx fs)) {a : Addr} {xs : List V} (h : SqT K H a xs) : SqT K H' a xs := by
  rcases h with (h | ⟨o, h⟩) | h
  · exact .inl (.inl (e _ _ (ne_of h hl (by intro z; cases z)) h))
  · exact .inl (.inr ⟨o, e _ _ (ne_of h hl (by intro z; cases z)) h⟩)
  · exact .inr h
/-! reversed(range(n)) -/
def rRevR (x : V) (H1 : Hp) (R : It → Hp → Prop) : Prop := ∃ n : Int, x = .int n ∧ (-(2 ^ 62) ≤ (0 : Int) ∧ (0 : Int) < 2 ^ 62 ∧ -(2 ^ 62) ≤ n ∧ n < 2 ^ 62 ∧ R (Itc (0 + (((n - 0).toNat : Nat) : Int) - 1) (-1) (n - 0).toNat) H1)
theorem k_revR {te : TE} {σ : L2.St} {H : Hp} {R : It → Hp → Prop} (q : te σ H fun x H1 => rRevR x H1 R) : iRevR (tRg1 te) σ H R := q
theorem k_revX {n : Nat} {H : Hp} {R : It → Hp → Prop} (c : n < 1000000) (q : R (Itc ((n : Int) - 1) (-1) n) H) : rRevR (.int (n : Int)) H R := by
  refine ⟨n, rfl, by omega, by omega, by omega, by omega, ?_⟩
  rw [Int.sub_zero, Int.toNat_natCast, Int.zero_add]
  exact q
theorem k_loopRev {σ : L2.St} {H : Hp} {D : Ends} {tb : TS} {j n : Nat} (P : Nat → L2.St → Hp → Prop) (h0 : P 0 σ H) (hs : ∀ (i : Nat) σ H, i < n → P i σ H → tb { D with nx := P (i + 1), ct := P (i + 1), bk := D.nx } (σ.set j (some (.int ((n - 1 - i : Nat) : Int)))) H)
    (hd : ∀ σ H, P n σ H → D.nx σ H) : LoopI (Itc ((n : Int) - 1) (-1) n) (gName j) tb D σ H := for_rangeC P h0 (fun i σ H hi p => by
      show tb _ (σ.set j (some (.int ((n : Int) - 1 + (i : Nat) * (-1))))) H
      rw [show (n : Int) - 1 + (i : Nat) * (-1) = ((n - 1 - i : Nat) : Int) by omega]
      exact hs i σ H hi p) hd
/-! a tuple's things, numbered -/
def Iet (K : PySem.W.Frag) (a : Addr) : It where
  go i H := ∃ xs x, SqT K H a xs ∧ xs[i]? = some x
  yld i H v H' := ∃ T x, v = .ref T ∧ H T = none ∧ H' = upd H T (.tup [.int (i : Nat), x]) ∧ ∀ xs, SqT K H a xs → xs[i]? = some x
  stop i H := ∃ xs, SqT K H a xs ∧ xs.length = i
def EtSt (e it a : Addr) (i : Nat) (h : Heap) : Prop := (∃ old, IsEnum h e it (i : Int) old) ∧ h.IsTupleIter it a i ∧ e ≠ it
theorem et_obj {e it a : Addr} {i : Nat} {h : Heap} (st : EtSt e it a i h) {c : Addr} (hc : c ∈ [e, it]) : ∃ o, h.get? c = some o ∧ ∀ v, o.data ≠ .cell v := by
  obtain ⟨⟨_, s1⟩, ⟨o4, e4, _, d4⟩, _⟩ := st
  simp only [List.mem_cons, List.not_mem_nil, or_false] at hc
  rcases hc with rfl | rfl
  · exact ⟨_, s1, fun _ => nofun⟩
  · exact ⟨o4, e4, fun _ z => by rw [d4] at z; cases z⟩
theorem turn_enumT {P : Program} {w : World} {K : PySem.W.Frag} {elts : List Expr} {kk : Nat} {tpos : Pos} {a e it : Addr} (ne : e ≠ it) (nea : e ≠ a) (ha : a ≠ it) :
    Turn P w K (.Tuple elts kk tpos) (Iet K a) [e, it] e (EtSt e it a) where
  mem := by simp
  obj := fun i h st c hc => et_obj st hc
  keep := fun i h h' st k => ⟨(let ⟨old, z⟩ := st.1; ⟨old, k e (by simp) _ z⟩), st.2.1.at fun o q => k it (by simp) o q, st.2.2⟩
  item := by
    intro X hP hw hK hc i pins s σ H E I hf st hg
    subst hP hw hK
    obtain ⟨xs, x, qx, ex⟩ := hg
    obtain ⟨us, ru, pu, _⟩ := I.tuple qx
    have hh : X.A.in1.handled = none := I.ok.hd hc
    have lu : i < us.length := by rw [← ru.length]; exact (List.getElem?_eq_some_iff.mp ex).1
    have W := WalksT.enumerateD (prog := X.prog) (w := X.w) (A := X.A) (Draws.tuple hh it a ha us.toArray) e ne (by simp [ne, nea]) (by simp)
    refine W.item i s _ E (by simpa using lu) ⟨st.1, st.2.1, pu⟩ fun T vals h' tk hP hT ht hm hk => ?_
    obtain ⟨t, u, hu, rfl⟩ := hP
    obtain ⟨u', hu', r1⟩ := ru.get ex
    obtain rfl : u' = u := Option.some.inj (hu'.symm.trans (by simpa using hu))
    refine ⟨.ref T, rfl, W.go elts kk tpos i T { s with heap := h', toks := tk } _ E hm fun h2 st2 hk2 => ?_⟩
    have new : ObjOk X.prog X.w (upd H T (.tup [.int (i : Nat), x])) h2 T (.tup [.int (i : Nat), x]) := ⟨by show 2 ≤ sizeLine; decide, [.int i t, u'], .cons ⟨_, rfl⟩ (.cons r1 .nil), ht.at fun o e => hk2 T o (W.apart i T h' hm) e⟩
    have I1 := I.turnedNew (t' := tk) (ch := [e, it]) (fun c o n e => hk2 c o n (hk c o n e)) hf hT new
    refine ⟨.ref T, _, I1, rfl, ⟨T, x, rfl, I.hok.fresh hT, rfl, fun l hl => by rw [I.tuple_inj hl qx]; exact ex⟩, ⟨?_, st2.2.1, st.2.2⟩, fun c hcm => ?_⟩
    · obtain ⟨old, z⟩ := st2.1
      exact ⟨old, by rw [show ((i + 1 : Nat) : Int) = ((i : Nat) : Int) + 1 by omega]; simpa using z⟩
    obtain ⟨o, e, _⟩ := et_obj st hcm
    rw [upd_ne (Nat.ne_of_lt (Nat.lt_of_lt_of_le (Heap.lt_size e) hT))]
    exact (hf c hcm).1
  done := by
    intro X hP hw hK hc i pins s σ H E I hf st hg
    subst hP hw hK
    obtain ⟨xs, qx, ex⟩ := hg
    obtain ⟨us, ru, pu, _⟩ := I.tuple qx
    have hh : X.A.in1.handled = none := I.ok.hd hc
    have lu : us.length = i := by rw [← ru.length]; exact ex
    have W := WalksT.enumerateD (prog := X.prog) (w := X.w) (A := X.A) (Draws.tuple hh it a ha us.toArray) e ne (by simp [ne, nea]) (by simp)
    rw [show us.toArray.size = i by simpa using lu] at W
    exact W.done s _ E ⟨st.1, st.2.1, pu⟩ fun h' tk hk => ⟨rfl, I.turnedL (t' := tk) (ch := [e, it]) (fun c o n z => hk c o n z) hf⟩
  self := fun A i s Q E st h => let ⟨⟨_, z⟩, _⟩ := st; wpAny_pyIter_enum z h
set_option maxHeartbeats 1000000 in
theorem enum_new {v : Value} {ob : Obj} {Bh : Heap → Prop} (B : Begins v ob Bh) :
    Meets (Builtin.«enumerate.__new__» ⟨[.type "enumerate", v], []⟩) (fun _ R z => Bh z.heap ∧
      R (.ok (.ret (.ref (z.heap.push ob).objs.size))) { z with heap := (z.heap.push ob).push { cls := .type "enumerate", data := .fields #[.none, .bool false, .ref z.heap.objs.size, rawInt 0, .none, .none] } }) :=
  .of_wp fun P w A R z g => by
    obtain ⟨hp, gs, dp, tk, os⟩ := z
    obtain ⟨b, g⟩ := g
    have _u := sub_enumerate
    have begun : ∀ {A2 : Around} {X : Value → Shared → Prop} {Y : Value → Shared → Prop}, Y (.ref hp.objs.size) ⟨hp.push ob, gs, dp, tk, os⟩ → wpAny (model P w) A2 (pyIter v) Y X ⟨hp, gs, dp, tk, os⟩ := fun q => B.iter P w _ _ ⟨hp, gs, dp, tk, os⟩ _ b q
    wp_walk using begun
    refine wpAny_stack_any fun _ => wpAny_pure ?_
    split
    · rename_i c _ _ _ _ _
      cases (c == Value.type "enumerate") <;> (wp_walk using begun; exact ⟨_, rfl, g⟩)
    · wp_walk using begun
      exact ⟨_, rfl, g⟩
theorem enum_made {P : Program} {w : World} {A : Around} {E : Value → Shared → Prop} {z : Shared} {v : Value} {ob : Obj} {Bh : Heap → Prop} {Q : Value → Shared → Prop} (B : Begins v ob Bh) (b : Bh z.heap)
    (q : ∀ h', IsEnum h' (z.heap.objs.size + 1) z.heap.objs.size 0 .none → h'.get? z.heap.objs.size = some ob → (∀ c o, z.heap.get? c = some o → h'.get? c = some o) → Q (.ref (z.heap.objs.size + 1)) { z with heap := h' }) :
    wpAny (model P w) A (call (.type "enumerate") [v]) Q E z := by
  refine callType_new F.called_enumerate (by decide) (F.typeCall_enumerate_1 _) (F.newCall_enumerate_1 _) (fun o => F.args_object_init_2 o _) F.entry_enumerate_new (enum_new B) ⟨b, ?_⟩
  have n1 : (z.heap.push ob).objs.size = z.heap.objs.size + 1 := Heap.size_push ..
  show _ ∧ _
  rw [n1]
  have he : IsEnum ((z.heap.push ob).push { cls := .type "enumerate", data := .fields #[.none, .bool false, .ref z.heap.objs.size, rawInt 0, .none, .none] }) (z.heap.objs.size + 1) z.heap.objs.size 0 .none := by
    have t := Heap.get?_push_size (z.heap.push ob) (o := { cls := .type "enumerate", data := .fields #[.none, .bool false, .ref z.heap.objs.size, rawInt 0, .none, .none] }) rfl
    rwa [n1] at t
  exact ⟨⟨_, he, rfl⟩, q _ he (Heap.get?_push_of_some _ (Heap.get?_push_size _ B.free)) fun c o x => Heap.get?_push_of_some _ (Heap.get?_push_of_some _ x)⟩
def rEnumT (K : PySem.W.Frag) (vs : List V) (H1 : Hp) (R : It → Hp → Prop) : Prop := ∃ a xs, vs = [.ref a] ∧ SqT K H1 a xs ∧ R (Iet K a) H1
def iEnumT (K : PySem.W.Frag) (ta : TA) : TI := fun σ H R => ta σ H fun vs H1 => rEnumT K vs H1 R
theorem pi_enumT {X : Cx} {K : PySem.W.Frag} {e : Expr} {ta : TA} {p pos tpos : Pos} {elts : List Expr} {kk : Nat} (h : X.K = K) (hg : Gl X "enumerate") (hm : X.mg "enumerate" = none) (ha : PA X [e] ta) (hs : starEach [e] X.env = [(false, eval e X.env)] := by rfl) :
    PI X (.Tuple elts kk tpos) (.Call (.Name "enumerate" p) [e] [] pos) (iEnumT K ta) := by
  subst h
  refine ⟨fun pins s σ H R I h => Call_ (ld_blt I hg hm boot_enumerate (PyProof.Rows.callWith_type1 (thn (ha.run pos pins s σ H _ I h) fun us s1 z => ?_) hs rfl))⟩
  obtain ⟨vs, H1, I1, r1, a, xs, rfl, qx, q⟩ := z
  obtain ⟨ua, rfl, ra⟩ := vals1 r1
  cases ra
  obtain ⟨us, ru, pu, _⟩ := I1.tuple qx
  have la : a < s1.heap.objs.size := by obtain ⟨_, e, _⟩ := id pu; exact Heap.lt_size e
  refine enum_made (begins_tuple a us.toArray) pu fun h' he g1 hk => wpAny_pyIter_enum he ?_
  refine ⟨_, _, _, _, H1, rfl, I1.kept (t' := s1.toks) hk, turn_enumT (Nat.succ_ne_self _) (Nat.ne_of_gt (Nat.lt_succ_of_lt la)) (Nat.ne_of_lt la), ⟨⟨_, he⟩, ⟨_, g1, rfl, rfl⟩, Nat.succ_ne_self _⟩, fun c hc => ?_, q⟩
  have hle : s1.heap.objs.size ≤ c := by
    simp only [List.mem_cons, List.not_mem_nil, or_false] at hc
    rcases hc with rfl | rfl
    · exact Nat.le_add_right _ 1
    · exact Nat.le_refl _
  exact I1.fpOk hle (I1.hok.fresh hle)
theorem k_iEnumT {K : PySem.W.Frag} {ta : TA} {σ : L2.St} {H : Hp} {R : It → Hp → Prop} (q : ta σ H fun vs H1 => rEnumT K vs H1 R) : iEnumT K ta σ H R := q
theorem k_enumTx {K : PySem.W.Frag} {H : Hp} {R : It → Hp → Prop} {a : Addr} {xs : List V} (hx : SqT K H a xs) (q : R (Iet K a) H) : rEnumT K [.ref a] H R := ⟨a, xs, rfl, hx, q⟩
theorem enumT_it {K : PySem.W.Frag} {a : Addr} {xs : List V} : PairIt (Iet K a) xs.length (fun i => .int (i : Nat)) (fun i => xs.getD i .non) (fun H => SqT K H a xs) where
  go := fun i H h c => ⟨xs, _, h, get_some c⟩
  stop := fun H h => ⟨xs, h, rfl⟩
  yld := fun i H x H' h c ⟨T, y, e, hT, eH, hy⟩ => ⟨T, e, hT, by
    have := hy xs h
    rw [get_some c] at this
    rw [eH, Option.some.inj this]⟩
end Gx
/-! what never changes stays: tuples, things known, functions -/
namespace Gx
open PySem PySem.Spec PyProof.Rows L2
def Fixt : HO → Prop
  | .tup _ => True
  | .frz _ _ => True
  | .ext _ => True
  | _ => False
def Imm (H H' : Hp) : Prop := ∀ a o, H a = some o → Fixt o → H' a = some o
theorem Imm.refl (H : Hp) : Imm H H := fun _ _ h _ => h
theorem Imm.trans {H H1 H2 : Hp} (a : Imm H H1) (b : Imm H1 H2) : Imm H H2 := fun c o h f => b c o (a c o h f) f
theorem imm_same {H H' : Hp} (e : Same H H') : Imm H H' := fun a o h _ => e a o h
theorem imm_but {H H' : Hp} {l : Addr} {ys : List V} (e : But l H H') (hl : H l = some (.lst ys)) : Imm H H' := fun a o h f => e a o (ne_of h hl (by rintro rfl; exact f)) h
theorem imm_butI {H H' : Hp} {l C dx : Addr} {fs : List (Str × V)} (e : But l H H') (hl : H l = some (.ins C dx fs)) : Imm H H' := fun a o h f => e a o (ne_of h hl (by rintro rfl; exact f)) h
theorem seqT_imm {K : PySem.W.Frag} {H H' : Hp} (e : Imm H H') {a : Addr} {xs : List V} (h : SqT K H a xs) : SqT K H' a xs := by
  rcases h with (h | ⟨o, h⟩) | h
  · exact .inl (.inl (e _ _ h trivial))
  · exact .inl (.inr ⟨o, e _ _ h trivial⟩)
  · exact .inr h
/-- all but two stay -/
def But2 (l m : Addr) (H H' : Hp) : Prop := ∀ a o, a ≠ l → a ≠ m → H a = some o → H' a = some o
theorem But2.refl (l m : Addr) (H : Hp) : But2 l m H H := fun _ _ _ _ h => h
theorem But2.of {H H' : Hp} {l m : Addr} (e : Same H H') : But2 l m H H' := fun a o _ _ h => e a o h
theorem But2.trans {H H1 H2 : Hp} {l m : Addr} (a : But2 l m H H1) (b : But2 l m H1 H2) : But2 l m H H2 := fun c o n1 n2 h => b c o n1 n2 (a c o n1 n2 h)
theorem But2.left {H H' : Hp} {l m : Addr} (e : But l H H') : But2 l m H H' := fun a o n _ h => e a o n h
theorem But2.right {H H' : Hp} {l m : Addr} (e : But m H H') : But2 l m H H' := fun a o _ n h => e a o n h
theorem But2.imm {H H' : Hp} {l m C dx : Addr} {fs : List (Str × V)} {ys : List V} (e : But2 l m H H') (hl : H l = some (.ins C dx fs)) (hm : H m = some (.lst ys)) : Imm H H' := fun a o h f => e a o (ne_of h hl (by rintro rfl; exact f)) (ne_of h hm (by rintro rfl; exact f)) h
/-- what is new here may change -/
theorem But2.same {H H1 H2 : Hp} {l m : Addr} (nl : H l = none) (nm : H m = none) (a : Same H H1) (b : But2 l m H1 H2) : Same H H2 := fun c o h => b c o (ne_of_none h nl) (ne_of_none h nm) (a c o h)
end Gx
/-! a list that will not change any more is known from now on -/
namespace Gx
open PySem PySem.Spec PyProof.Rows L2
theorem inv_frz {X : Cx} {pins : List (Addr × Obj)} {σ : L2.St} {H : Hp} {s : Shared} {l : Addr} {xs : List V} (I : Inv X pins σ H s) (h : H l = some (.lst xs)) : ∃ o, Inv X pins σ (upd H l (.frz o (.lst xs))) s := by
  obtain ⟨hl, its, n, r, e⟩ := id (I.hok l _ h)
  have nl : ∀ {b u}, H b = some u → (∀ ys, u ≠ .lst ys) → b ≠ l := fun {b u} q n z => by
    rw [z, h] at q
    exact n _ (Option.some.inj q).symm
  have I2 := I.un (H' := upd H l (.frz { cls := .type "list", data := .seq its.toArray n } (.lst xs))) (h' := s.heap) (t' := s.toks) ⟨fun b o q _ _ _ => q, fun b o q _ _ _ => ⟨o.slots, q⟩, fun b o q n _ => by rw [upd_ne (fun z => by rw [z, h] at n; cases n)]; exact n, fun b o q _ => ⟨o, q⟩,
    fun b ys q => by rw [upd_ne (nl q (by intro ys z; cases z))]; exact q, fun b o u q => by rw [upd_ne (nl q (by intro ys z; cases z))]; exact q, fun b ps q => ⟨#[], by rw [upd_ne (nl q (by intro ys z; cases z)), q]; simp⟩⟩ (fun b u q => by
    by_cases hb : b = l
    · rw [hb, upd_same] at q
      cases q
      rw [hb]
      exact ⟨e, hl, its, n, r, e⟩
    · rw [upd_ne hb] at q
      exact (I.hok b u q).stay (fun _ _ _ q => q) (fun c q => by rw [upd_ne (nl q (by intro ys z; cases z))]; exact q) fun c ys q => by rw [upd_ne (nl q (by intro ys z; cases z))]; exact q)
  exact ⟨_, I2⟩
def rFrz (v : V) (H1 : Hp) (Q : VK) : Prop := ∃ l xs, v = .ref l ∧ H1 l = some (.lst xs) ∧ ∀ o, Q v (upd H1 l (.frz o (.lst xs)))
def tFrz (te : TE) : TE := fun σ H Q => te σ H fun v H1 => rFrz v H1 Q
theorem pe_frz {X : Cx} {e : Expr} {te : TE} (h : PE X e te) : PE X e (tFrz te) := by
  refine ⟨fun pins s σ H Q I q => thn (h.run pins s σ H _ I q) fun u s1 ⟨v, H1, I1, r, l, xs, ev, hl, q1⟩ => ?_⟩
  obtain ⟨o, I2⟩ := inv_frz I1 hl
  exact ⟨v, _, I2, r, q1 o⟩
theorem k_frz {te : TE} {σ : L2.St} {H : Hp} {Q : VK} (q : te σ H fun v H1 => rFrz v H1 Q) : tFrz te σ H Q := q
theorem k_frzx {l : Addr} {xs : List V} {H : Hp} {Q : VK} (h : H l = some (.lst xs)) (q : ∀ o H', But l H H' → H' l = some (.frz o (.lst xs)) → Q (.ref l) H') : rFrz (.ref l) H Q := ⟨l, xs, rfl, h, fun o => q o _ But.upd upd_same⟩
/-- while a list is put away, tuples stay -/
theorem SqL.frz {K : PySem.W.Frag} {H : Hp} {l : Addr} {o : Obj} {xs : List V} (h : H l = some (.frz o (.lst xs))) : SqL K H l xs := .inl (.inr ⟨o, h⟩)
theorem frz_imm {H H' : Hp} (e : Imm H H') {l : Addr} {o : Obj} {u : HO} (h : H l = some (.frz o u)) : H' l = some (.frz o u) := e _ _ h trivial
end Gx
namespace Gx
open PySem PySem.Spec PyProof.Rows L2
/-! ### xs[lo:hi:c], c a number; ts[::-1], ts a tuple -/
def stV (xs : List V) (lo hi : Option Int) (c : Int) : List V := (sliceRange (sliceBounds lo hi (some c) xs.length).1 (sliceBounds lo hi (some c) xs.length).2.1 (sliceBounds lo hi (some c) xs.length).2.2).filterMap (xs[·]?)
theorem vals_pick : ∀ {xs : List V} {us : List Value} (idx : List Nat), Vals xs us → Vals (idx.filterMap (xs[·]?)) (idx.filterMap (us[·]?))
  | _, _, [], _ => .nil
  | xs, us, i :: r, h => by
    have ih := vals_pick r h
    have key : ∀ {xs : List V} {us : List Value} (i : Nat), Vals xs us → (xs[i]? = none ∧ us[i]? = none) ∨ ∃ x u, xs[i]? = some x ∧ us[i]? = some u ∧ RelV x u := fun {xs us} i h => by
      induction h generalizing i with
      | nil => exact .inl ⟨rfl, rfl⟩
      | cons a _ ih =>
        cases i with
        | zero => exact .inr ⟨_, _, rfl, rfl, a⟩
        | succ i => exact ih i
    rcases key i h with ⟨h1, h2⟩ | ⟨x, u, h1, h2, h3⟩
    · rw [List.filterMap_cons, List.filterMap_cons, h1, h2]
      exact ih
    · rw [List.filterMap_cons, List.filterMap_cons, h1, h2]
      exact .cons h3 ih
theorem stV_len {xs : List V} {lo hi : Option Int} {c : Int} (c0 : 0 < c) : (stV xs lo hi c).length ≤ xs.length := by
  unfold stV
  refine Nat.le_trans (List.length_filterMap_le ..) (sliceRange_length_le _ _ _ xs.length ?_ ?_)
  · intro _
    cases lo <;> cases hi <;> simp [sliceBounds, c0] <;> omega
  · intro z
    exact absurd (show (sliceBounds lo hi (some c) xs.length).2.2 > 0 from c0) z
def rStX (K : PySem.W.Frag) (x : V) (lo hi : Option Int) (c : Int) (H : Hp) (Q : VK) : Prop := ∃ a xs, x = .ref a ∧ SqL K H a xs ∧ ∀ p, H p = none → Q (.ref p) (upd H p (.lst (stV xs lo hi c)))
def tSlSt (K : PySem.W.Frag) (te : TE) (tl th : TO) (c : Int) : TE := fun σ H Q => te σ H fun x H1 => tl σ H1 fun lo H2 => th σ H2 fun hi H3 => rStX K x lo hi c H3 Q
theorem pe_slStep {X : Cx} {e : Expr} {lo hi : Option Expr} {te : TE} {tl th : TO} {c : Int} {k : Nat} {p1 p3 pos : Pos} (he : PE X e te) (hl : PO X lo tl) (hu : PO X hi th) (c0 : 0 < c) : PE X (.Subscript e (.Slice lo hi (some (.Constant (.int c) k p1)) p3) pos) (tSlSt X.K te tl th c) := by
  refine ⟨fun pins s σ H Q I h => ?_⟩
  refine Subscript_ (thn (he.run pins s σ H _ I h) fun v s1 ⟨x, H1, I1, r1, q1⟩ => ?_)
  have hst : PO X (some (.Constant (.int c) k p1)) (tPart (tC (.int c))) := po_some pe_int
  refine wpAny_Slice (thn (hl.run pins s1 σ H1 _ I1 q1) fun vl s2 ⟨l, H2, I2, pl, q2⟩ => ?_)
  refine thn (hu.run pins s2 σ H2 _ I2 q2) fun vu s3 ⟨u, H3, I3, pu, q3⟩ => ?_
  obtain ⟨a, xs, ex, hx, q⟩ := q3
  subst ex
  cases r1
  refine thn (hst.run pins s3 σ H3 (fun o H4 => o = some c ∧ H4 = H3) I3 ⟨c, rfl, rfl, rfl⟩) fun vs s4 ⟨o, H4, I4, ps, eo, e4⟩ => ?_
  subst eo e4
  have I5 : Inv X pins σ H4 { s4 with heap := s4.heap.push { cls := .type "slice", data := .fields #[vl, vu, vs] } } := I4.kept (t' := s4.toks) fun b ob q => Heap.get?_push_of_some _ q
  obtain ⟨its, r, ht, hz⟩ := I5.list hx
  have hlen := r.length
  show wpAny (model X.prog X.w) X.A (subscriptTail e (.Slice lo hi (some (.Constant (.int c) k p1)) p3) (.ref a) (.ref s4.heap.objs.size)) (EP X pins σ Q) X.xe { s4 with heap := s4.heap.push { cls := .type "slice", data := .fields #[vl, vu, vs] } }
  refine tail_any (ops := [.ref a, .ref s4.heap.objs.size]) ht.isList.typeIs (PySem.slot_list_getitem.lookup) ?_ (by with_unfolding_all rfl)
  refine wpAny_getItem_list_slice ht.isList (Heap.IsSliceOf.new _ vl vu vs) pl pu ps (fun z => by have := Option.some.inj z; omega) ?_ (by rw [List.size_toArray]; omega)
  have ep : slicePick its.toArray l u (some c) = ((sliceRange (sliceBounds l u (some c) xs.length).1 (sliceBounds l u (some c) xs.length).2.1 (sliceBounds l u (some c) xs.length).2.2).filterMap (its[·]?)).toArray := by
    unfold slicePick
    rw [List.size_toArray, ← hlen]
    congr 1
    congr 1
    funext i
    simp
  rw [ep]
  have vp := vals_pick (sliceRange (sliceBounds l u (some c) xs.length).1 (sliceBounds l u (some c) xs.length).2.1 (sliceBounds l u (some c) xs.length).2.2) r
  refine ⟨.ref _, _, I5.laid (t' := s4.toks) (o := .lst (stV xs l u c)) (fun b ob q => Heap.get?_push_of_some _ q) (Nat.le_refl _) ?_, rfl, q _ (I5.hok.fresh (Nat.le_refl _))⟩
  refine ⟨?_, _, 0, vp, Heap.get?_push_size _ rfl⟩
  exact Nat.le_trans (stV_len c0) hz
theorem k_st {K : PySem.W.Frag} {te : TE} {tl th : TO} {c : Int} {σ : L2.St} {H : Hp} {Q : VK} (q : te σ H fun x H1 => tl σ H1 fun lo H2 => th σ H2 fun hi H3 => rStX K x lo hi c H3 Q) : tSlSt K te tl th c σ H Q := q
theorem k_stx {K : PySem.W.Frag} {a : Addr} {xs : List V} {lo hi : Option Int} {c : Int} {H : Hp} {Q : VK} (h : SqL K H a xs) (q : ∀ p H2, H p = none → Same H H2 → H2 p = some (.lst (stV xs lo hi c)) → Q (.ref p) H2) : rStX K (.ref a) lo hi c H Q := ⟨a, xs, rfl, h, fun p hp => q p _ hp (same_new hp) upd_same⟩
theorem stV_ints {ns : List Int} {lo hi : Option Int} {c : Int} (c0 : 0 < c) : ∃ ms : List Int, stV (ns.map V.int) lo hi c = ms.map V.int ∧ ms.length ≤ ns.length := by
  refine ⟨(sliceRange (sliceBounds lo hi (some c) ns.length).1 (sliceBounds lo hi (some c) ns.length).2.1 (sliceBounds lo hi (some c) ns.length).2.2).filterMap (ns[·]?), ?_, ?_⟩
  · unfold stV
    rw [List.map_filterMap, List.length_map]
    congr 1
    funext i
    rw [List.getElem?_map]
  · have e := stV_len (xs := ns.map V.int) (lo := lo) (hi := hi) c0
    unfold stV at e
    rw [List.length_map] at e
    refine Nat.le_trans (Nat.le_of_eq ?_) e
    rw [← List.length_map (f := V.int), List.map_filterMap]
    congr 2
    funext i
    rw [List.getElem?_map]
section
variable {prog : Program} {w : World} {A : Around} {E : Value → Shared → Prop} {s : Shared}
theorem fm_congr {α β : Type} {f g : α → Option β} : ∀ {l : List α}, (∀ x ∈ l, f x = g x) → l.filterMap f = l.filterMap g
  | [], _ => rfl
  | x :: r, h => by
    rw [List.filterMap_cons, List.filterMap_cons, h x (List.mem_cons_self ..), fm_congr (l := r) fun y hy => h y (List.mem_cons_of_mem _ hy)]
theorem places_rev (n : Nat) : Builtin.Slice.slicePlaces ((n : Int) - 1) (-1) (-1) = n := by
  unfold Builtin.Slice.slicePlaces
  rw [if_neg (by decide)]
  by_cases h : (n : Int) - 1 > -1
  · rw [if_pos h, show (-(-1) : Int) = 1 by decide, Int.ediv_one]
    omega
  · rw [if_neg h]
    omega
theorem sliceApplied_rev {sl : Addr} {vl vu vs : Value} {n : Nat} {Q : Int × Int × Nat → Shared → Prop} (hs : s.heap.IsSliceOf sl vl vu vs) (pl : IsPart vl none) (pu : IsPart vu none) (ps : IsPart vs (some (-1)))
    (h : Q ((n : Int) - 1, -1, n) s) : wpAny (model prog w) A (Builtin.Slice.sliceApplied (.ref sl) (pure (n : Int))) Q E s := by
  obtain ⟨os, hos, hcs, hds⟩ := id hs
  unfold Builtin.Slice.sliceApplied Builtin.Slice.sliceFields
  refine wpAny_bind (wpAny_bind (wpAny_field hos hds (x := vl) rfl (wpAny_bind (wpAny_field hos hds (x := vu) rfl (wpAny_bind (wpAny_field hos hds (x := vs) rfl (wpAny_pure ?_)))))))
  refine wpAny_bind (HT.slicePart_ ps ?_)
  show wpAny _ _ (if ((-1 : Int) == 0) = true then _ else _) _ _ s
  rw [if_neg (by decide)]
  refine wpAny_bind (HT.slicePart_ pl (wpAny_bind (HT.slicePart_ pu (wpAny_bind (wpAny_pure ?_)))))
  show wpAny _ _ (pure ((n : Int) - 1, (-1 : Int), Builtin.Slice.slicePlaces ((n : Int) - 1) (-1) (-1))) _ _ s
  rw [places_rev]
  exact wpAny_pure h
theorem getItem_tuple_rev {t sl : Addr} {items : Array Value} {vl vu vs : Value} {Q : Value → Shared → Prop} (ht : IsTup s.heap t items) (hs : s.heap.IsSliceOf sl vl vu vs) (pl : IsPart vl none) (pu : IsPart vu none) (ps : IsPart vs (some (-1)))
    (h : Q (.ref s.heap.objs.size) { s with heap := s.heap.push { cls := .type "tuple", data := .seq items.toList.reverse.toArray } })
    (hsz : items.size ≤ sizeLine) : wpAny (model prog w) A (getItem (.ref t) (.ref sl)) Q E s := by
  have htake : sizeOk (.seq items.toList.reverse.toArray) := by
    show items.toList.reverse.toArray.size ≤ sizeLine
    rw [List.size_toArray, List.length_reverse, Array.length_toList]
    omega
  obtain ⟨os, hos, hcs, hds⟩ := id hs
  have hTs : s.TypeIs (.ref sl) "slice" := ⟨os, hos, hcs⟩
  unfold getItem
  try with_reducible refine wpAny_holding ?_
  first | refine wpAny_bind (wpAny_pure ?_) | skip
  refine wpAny_bind (wpAny_sequenceKey ht.typeIs (by decide) ?_)
  refine wpAny_bind (wpAny_callSpecial?_slot (name := Str.ofString "__getitem__") ht.typeIs PyProof.Rows.slot_tuple_getitem
    (wpAny_call_entry PyProof.Rows.slot_tuple_getitem ht.typeIs entry_tuple_getitem ?_ (args_tuple_getitem _ _)))
  show wpAny _ _ (Builtin.Tuple.tupleItemsOf (.ref t) >>= _) _ _ s
  refine wpAny_bind (tupleItemsOf_ ht ?_)
  refine wpAny_bind (wpAny_typeOf hTs ?_)
  rw [if_pos (by decide)]
  refine wpAny_bind (sliceApplied_rev hs pl pu ps ?_)
  have hno : ¬ (((((items.size : Nat) : Int) - 1) == 0 && (-1 : Int) == 1 && items.size == items.size) = true) := by
    intro q
    rw [Bool.and_eq_true, Bool.and_eq_true] at q
    exact absurd (eq_of_beq q.1.2) (by decide)
  show wpAny _ _ (if ((((items.size : Nat) : Int) - 1) == 0 && (-1 : Int) == 1 && items.size == items.size) = true then _ else _) _ _ s
  have ep : ((List.range items.size).filterMap fun (k : Nat) => items[(((items.size : Nat) : Int) - 1 + (k : Int) * (-1)).toNat]?).toArray = items.toList.reverse.toArray := by
    have e : ((List.range items.size).filterMap fun (k : Nat) => items[(((items.size : Nat) : Int) - 1 + (k : Int) * (-1)).toNat]?) = ((List.range items.size).map fun k => items.size - 1 - k).filterMap (items[·]?) := by
      rw [List.filterMap_map]
      refine fm_congr fun k hk => ?_
      have := List.mem_range.mp hk
      show items[(((items.size : Nat) : Int) - 1 + (k : Int) * (-1)).toNat]? = items[items.size - 1 - k]?
      congr 1
      omega
    rw [e, PySem.W.krv_range, List.filterMap_reverse, PySem.W.krv_all]
  rw [if_neg hno, ep]
  first
    | exact wpAny_bind (m := Builtin.Tuple.tupleExact _) (wpAny_newObj_type (wpAny_pure ⟨_, rfl, wpAny_pure h⟩) htake)
    | exact wpAny_bind (m := Builtin.Tuple.tupleExact _) (wpAny_newObj_type (wpAny_bind (wpAny_pure (wpAny_pure ⟨_, rfl, wpAny_pure h⟩))) htake)
    | exact wpAny_bind (wpAny_bind (m := Builtin.Tuple.tupleExact _) (wpAny_newObj_type (wpAny_pure (wpAny_pure ⟨_, rfl, wpAny_pure h⟩)) htake))
    | exact wpAny_bind (wpAny_bind (m := Builtin.Tuple.tupleExact _) (wpAny_newObj_type (wpAny_pure ⟨_, rfl, wpAny_pure h⟩) htake))
end
def rRevTX (K : PySem.W.Frag) (x : V) (H : Hp) (Q : VK) : Prop := ∃ a xs, x = .ref a ∧ SqT K H a xs ∧ ∀ p, H p = none → Q (.ref p) (upd H p (.tup xs.reverse))
def tRevT (K : PySem.W.Frag) (te : TE) : TE := fun σ H Q => te σ H fun x H1 => rRevTX K x H1 Q
theorem pe_revT {X : Cx} {e : Expr} {te : TE} {k : Nat} {p1 p2 p3 pos : Pos} (he : PE X e te) : PE X (.Subscript e (.Slice none none (some (.UnaryOp .USub (.Constant (.int 1) k p1) p2)) p3) pos) (tRevT X.K te) := by
  refine ⟨fun pins s σ H Q I h => ?_⟩
  refine Subscript_ (thn (he.run pins s σ H _ I h) fun v s1 ⟨x, H1, I1, r1, q1⟩ => ?_)
  obtain ⟨a, xs, ex, hx, q⟩ := q1
  subst ex
  cases r1
  have hst : PO X (some (.UnaryOp .USub (.Constant (.int 1) k p1) p2)) (tPart (tUn (rU fun i => .int (-i)) (tC (.int 1)))) := po_some (pe_un un_neg pe_int)
  refine wpAny_Slice (thn (po_none.run pins s1 σ H1 (fun o H2 => o = none ∧ H2 = H1) I1 ⟨rfl, rfl⟩) fun vl s2 ⟨l, H2, I2, pl, el, e2⟩ => ?_)
  subst el e2
  refine thn (po_none.run pins s2 σ H2 (fun o H3 => o = none ∧ H3 = H2) I2 ⟨rfl, rfl⟩) fun vu s3 ⟨u, H3, I3, pu, eu, e3⟩ => ?_
  subst eu e3
  refine thn (hst.run pins s3 σ H3 (fun o H4 => o = some (-1) ∧ H4 = H3) I3 ⟨1, rfl, -1, rfl, rfl, rfl⟩) fun vs s4 ⟨o, H4, I4, ps, eo, e4⟩ => ?_
  subst eo e4
  have I5 : Inv X pins σ H4 { s4 with heap := s4.heap.push { cls := .type "slice", data := .fields #[vl, vu, vs] } } := I4.kept (t' := s4.toks) fun b ob q => Heap.get?_push_of_some _ q
  obtain ⟨its, r, ht, hz⟩ := I5.tuple hx
  have hlen := r.length
  show wpAny (model X.prog X.w) X.A (subscriptTail e (.Slice none none (some (.UnaryOp .USub (.Constant (.int 1) k p1) p2)) p3) (.ref a) (.ref s4.heap.objs.size)) (EP X pins σ Q) X.xe { s4 with heap := s4.heap.push { cls := .type "slice", data := .fields #[vl, vu, vs] } }
  refine tail_any (ops := [.ref a, .ref s4.heap.objs.size]) ht.typeIs (PyProof.Rows.slot_tuple_getitem.lookup) ?_ (by with_unfolding_all rfl)
  refine getItem_tuple_rev ht (Heap.IsSliceOf.new _ vl vu vs) pl pu ps ?_ (by rw [List.size_toArray]; omega)
  refine ⟨.ref _, _, I5.laid (t' := s4.toks) (o := .tup xs.reverse) (fun b ob q => Heap.get?_push_of_some _ q) (Nat.le_refl _) ?_, rfl, q _ (I5.hok.fresh (Nat.le_refl _))⟩
  exact ⟨by rw [List.length_reverse]; exact hz, _, r.reverse, IsTup.new _ _⟩
theorem k_revT {K : PySem.W.Frag} {te : TE} {σ : L2.St} {H : Hp} {Q : VK} (q : te σ H fun x H1 => rRevTX K x H1 Q) : tRevT K te σ H Q := q
theorem k_revTx {K : PySem.W.Frag} {a : Addr} {xs : List V} {H : Hp} {Q : VK} (h : SqT K H a xs) (q : ∀ p H2, H p = none → Same H H2 → H2 p = some (.tup xs.reverse) → Q (.ref p) H2) : rRevTX K (.ref a) H Q := ⟨a, xs, rfl, h, fun p hp => q p _ hp (same_new hp) upd_same⟩
theorem pe_slStepK {K : PySem.W.Frag} {X : Cx} {e : Expr} {lo hi : Option Expr} {te : TE} {tl th : TO} {c : Int} {k : Nat} {p1 p3 pos : Pos} (hK : X.K = K) (he : PE X e te) (hl : PO X lo tl) (hu : PO X hi th) (c0 : 0 < c) : PE X (.Subscript e (.Slice lo hi (some (.Constant (.int c) k p1)) p3) pos) (tSlSt K te tl th c) := hK ▸ pe_slStep he hl hu c0
theorem pe_revTK {K : PySem.W.Frag} {X : Cx} {e : Expr} {te : TE} {k : Nat} {p1 p2 p3 pos : Pos} (hK : X.K = K) (he : PE X e te) : PE X (.Subscript e (.Slice none none (some (.UnaryOp .USub (.Constant (.int 1) k p1) p2)) p3) pos) (tRevT K te) := hK ▸ pe_revT he
end Gx
/-! ### an error that leaves a list comprehension -/
namespace Gx
open PySem PySem.Spec PyProof.Rows L2
theorem noteFrame_frame {e : Value} {a b : Env} (h : a.frame = b.frame) : noteFrame e a = noteFrame e b := by
  unfold noteFrame PySem.frameOf
  rw [h]
theorem passOn_frame {α : Type} {what : String} {e : Value} {a b : Env} (h : a.frame = b.frame) : (passOn what e a : Sem α) = passOn what e b := by
  unfold PySem.passOn
  rw [h]
section
variable {M : Model} {A : Around} {E : Value → Shared → Prop} {s : Shared} {env : Env}
def compPostE (M : Model) (A : Around) (E : Value → Shared → Prop) (use : Option (Value → Sem Unit)) (Q : Value → Shared → Prop) (acc : Value) (cenv : Env) (r : Result) (s' : Shared) : Prop :=
  match r, use with
  | .ok _, none => ∃ m, s'.heap.Ns cenv.locals m ∧ ∀ h', Heap.SameBut cenv.locals s'.heap h' → Q acc { s' with heap := h' }
  | .ok _, some u => wpAny M A (u acc) (fun _ s'' => ∃ m, s''.heap.Ns cenv.locals m ∧ ∀ h', Heap.SameBut cenv.locals s''.heap h' → Q .none { s'' with heap := h' }) E s'
  | .error x, _ => ∃ m, s'.heap.Ns cenv.locals m ∧ ∀ h', Heap.SameBut cenv.locals s'.heap h' → wpAny M A (passOn "comprehension.variables-let-go" x cenv : Sem Value) (fun _ _ => False) E { s' with heap := h' }
theorem comp_freeE {e : Expr} {scope : Scope} {pos : Pos} {newAcc first : Sem Value} {g : Comprehension} {gs : List Comprehension} {cl : List (Str × Addr)} {use : Option (Value → Sem Unit)}
    {Q : Value → Shared → Prop}
    (hcl : clausesOf e = g :: gs) (hs : ∀ x, foldedSetIterable g.iter env x = pure x) (hclos : closureFor scope env = pure cl)
    (hkind : scope.kind = .function) (hnames : ∀ x ∈ scope.names, x.2 = .local → scope.names.lookup x.1 = some .local)
    (h : wpAny M A first (fun x s₁ => wpAny M A (pyIter x) (fun it s₂ => wpAny M A newAcc (fun acc s₃ =>
      wpAny M A (newFunctionEnv scope env.globals cl [] env.qual none .none (some env)) (fun cenv s₄ =>
        codeAny M A (.compStart e 0 it acc { cenv with scope := relabel scope env }) (compPostE M A E use Q acc { cenv with scope := relabel scope env }) s₄) E s₃) E s₂) E s₁) E s) :
    wpAny M A (comprehension e scope env pos newAcc false first use) Q E s := by
  unfold comprehension
  rw [hclos, hcl]
  refine wpAny_bind (wpAny_mono h (fun x s₁ h₁ => wpAny_bind (wpAny_standAt (wpAny_bind (wpAny_of_eq (hs x) (wpAny_bind (wpAny_holding (wpAny_mono h₁ (fun it s₂ h₂ =>
    wpAny_standIf (wpAny_bind (wpAny_mono h₂ (fun acc s₃ h₃ => wpAny_bind (wpAny_pure (wpAny_bind (wpAny_mono h₃ (fun cenv s₄ h₄ => ?_) fun _ _ h' => h')))) fun _ _ h' => h')))
      fun _ _ h' => h'))))))) fun _ _ h' => h')
  dsimp only
  have hv : ∀ x ∈ (scope.names.filter fun x => (x.2 == .local || x.2 == .cell) && x.1 != (".0" : Str)).reverse, x.2 = .local →
      Env.kindOf { cenv with scope := relabel scope env } x.1 = some .local := fun x hx hl => lookup_relabel_local (hnames x (List.mem_filter.mp (List.mem_reverse.mp hx)).1 hl)
  have hv' : ∀ x ∈ (scope.names.filter fun x => (x.2 == .local || x.2 == .cell) && x.1 != (".0" : Str)).reverse.drop 1 ++ (scope.names.filter fun x => (x.2 == .local || x.2 == .cell) && x.1 != (".0" : Str)).reverse.take 1,
      x.2 = .local → Env.kindOf { cenv with scope := relabel scope env } x.1 = some .local := fun x hx hl => by
    rcases List.mem_append.mp hx with h1 | h1
    · exact hv x (List.mem_of_mem_drop h1) hl
    · exact hv x (List.mem_of_mem_take h1) hl
  refine wpAny_holding (wpAny_bind (wpAny_attempt (wpAny_holding (wpAny_run (codeAny_mono h₄ fun r s' hr => ?_)))))
  cases r with
  | ok f =>
    cases use with
    | none =>
      obtain ⟨m, hn, hr⟩ := hr
      exact wpAny_bind (wpAny_holding (wpAny_comp_letGo (cenv := { cenv with scope := relabel scope env }) hkind _ s' m hv hn fun h' m' _ hs' => wpAny_pure (hr h' hs')))
    | some u =>
      refine wpAny_bind (wpAny_rule (wpAny_bind (wpAny_holding (wpAny_mono hr (fun _ s'' hr' => ?_) fun _ _ h' => h'))))
      obtain ⟨m, hn, hr'⟩ := hr'
      exact wpAny_bind (wpAny_comp_letGo (cenv := { cenv with scope := relabel scope env }) hkind _ s'' m hv' hn fun h' m' _ hs' => wpAny_pure (hr' h' hs'))
  | error x =>
    have hr' : ∃ m, s'.heap.Ns cenv.locals m ∧ ∀ h', Heap.SameBut cenv.locals s'.heap h' → wpAny M A (passOn "comprehension.variables-let-go" x { cenv with scope := relabel scope env } : Sem Value) (fun _ _ => False) E { s' with heap := h' } := by cases use <;> exact hr
    obtain ⟨m, hn, hr⟩ := hr'
    exact wpAny_bind (wpAny_holding (wpAny_comp_letGo (cenv := { cenv with scope := relabel scope env }) hkind _ s' m hv hn fun h' m' _ hs' => wpAny_mono (hr h' hs') (fun _ _ f => f.elim) fun _ _ y => y))
end
/-- an error in the air of a block, let out by a call -/
def XB (Y : Cx) (E : XK) (u : Value) (s' : Shared) : Prop :=
  ∃ (a : Addr) (B : Heap) (sI : Shared) (pins : List (Addr × Obj)) (σ : L2.St) (H : Hp) (cls : Value) (d : Option Addr),
    u = .ref a ∧ Inv Y pins σ H sI ∧ (∀ b o, sI.heap.get? b = some o → b ∉ frs Y.stack → B.get? b = some o) ∧ sI.heap.UpToSlots s'.heap ∧
      HandSPX.FlyingZ B Y.stack a (Zc cls d) s'.heap ∧ H a = none ∧ s'.os = sI.os ∧ AllBare s'.gens ∧ E cls d H
theorem XB.of_call {X : Cx} {pins : List (Addr × Obj)} {σ : L2.St} {H : Hp} {s s' : Shared} {E : XK} (I : Inv X pins σ H s) {u : Value} (c : CX X.prog X.w X.stack H s E u s') : XB X E u s' := by
  obtain ⟨a, B, H', cls, d, rfl, fl, hok, ub, na, os, ag, hE⟩ := c
  obtain ⟨G, g1, g2⟩ := restrict s'.heap fun b => (B.get? b).isSome || decide (b ∈ frs X.stack)
  have st : B.StaysIn s'.heap := fl.1
  have gB : ∀ b o, B.get? b = some o → G.get? b = some o := fun b o e => by
    rw [g1 b (by simp [e])]
    exact st b o e
  have gF : ∀ b, b ∈ frs X.stack → G.get? b = s'.heap.get? b := fun b hb => g1 b (by simp [hb])
  have og : ∀ b o, G.get? b = some o → s'.heap.get? b = some o ∧ ((B.get? b).isSome = true ∨ b ∈ frs X.stack) := fun b o e => by
    cases q : ((B.get? b).isSome || decide (b ∈ frs X.stack)) with
    | false => rw [g2 b q] at e; cases e
    | true =>
      rw [g1 b q] at e
      exact ⟨e, by simpa [Bool.or_eq_true] using q⟩
  refine ⟨a, B, { s with heap := G, gens := s'.gens, drawn := s'.drawn, toks := s'.toks }, pins, σ, H', cls, d, rfl, ?_, fun b o e hb => ?_, Heap.UpToSlots.of_keeps fun b o e => (og b o e).1, fl, na, os, ag, hE⟩
  · refine I.call (ch := []) ⟨fun b o e n hb _ => gB b o (ub.keep b o e n hb), fun b o e n hb _ => ?_, fun b o e n _ => ub.free b o e n, fun b o e _ => ?_, ub.tups, ub.frzs, ub.tbls⟩ (hok.kept gB) ag (fun _ z => nomatch z)
    · obtain ⟨sl, q⟩ := ub.slot b o e hb
      exact ⟨sl, by rw [gF b hb]; exact q⟩
    · by_cases hb : b ∈ frs X.stack
      · obtain ⟨sl, q⟩ := ub.slot b o e hb
        exact ⟨_, by rw [gF b hb]; exact q⟩
      · obtain ⟨o', q⟩ := ub.there b o e hb
        exact ⟨o', gB b o' q⟩
  · obtain ⟨e', h⟩ := og b o e
    rcases h with h | h
    · obtain ⟨o', q⟩ := Option.isSome_iff_exists.mp h
      have z := st b o' q
      rw [e'] at z; cases z
      exact q
    · exact absurd h hb
/-- the block's context where an element may let an error out -/
abbrev blkE (X : Cx) (s : Shared) (H : Hp) (scope : Scope) (cenv : Env) (fp : List Addr) (E : XK) : Cx := (X.blk s H scope cenv fp).tr [] (XB (X.blk s H scope cenv fp) E)
theorem inv_toE {X : Cx} {s s' : Shared} {H H' : Hp} {scope : Scope} {cenv : Env} {fp : List Addr} {E : XK} {pins : List (Addr × Obj)} {σ : L2.St} (I : Inv (X.blk s H scope cenv fp) pins σ H' s') : Inv (blkE X s H scope cenv fp E) pins σ H' s' :=
  ⟨I.ok.toTry _ _, I.os, I.bare, I.base, I.loc, I.cell, I.free, I.freeC, I.pin, I.hok, I.len⟩
theorem inv_ofE {X : Cx} {s s' : Shared} {H H' : Hp} {scope : Scope} {cenv : Env} {fp : List Addr} {E : XK} {pins : List (Addr × Obj)} {σ : L2.St} (I : Inv (blkE X s H scope cenv fp E) pins σ H' s') : Inv (X.blk s H scope cenv fp) pins σ H' s' :=
  ⟨I.ok.ofTry, I.os, I.bare, I.base, I.loc, I.cell, I.free, I.freeC, I.pin, I.hok, I.len⟩
theorem passB {X : Cx} {s : Shared} {H : Hp} {scope : Scope} {cenv : Env} {fp : List Addr} {E : XK} : Passes (L2.CX X.prog X.w) (blkE X s H scope cenv fp E) E := fun _ _ _ _ _ _ I c => XB.of_call (inv_ofE I) c
theorem funFrames_but {h h' B B' : Heap} {C : Addr} : ∀ {l : List Env}, h.FunFrames B l → (∀ L ∈ frs l, L ≠ C) → (∀ b o, b ≠ C → h.get? b = some o → h'.get? b = some o) → (∀ b, B.get? b = none → B'.get? b = none) → h'.FunFrames B' l
  | [], _, _, _, _ => trivial
  | env :: l, ⟨hk, ⟨L, o, hf, hb, ho, hd⟩, hr⟩, hC, hh, hB =>
    ⟨hk, ⟨L, o, hf, hB L hb, hh L o (hC L (List.mem_filterMap.mpr ⟨env, List.mem_cons_self, hf⟩)) ho, hd⟩, funFrames_but hr (fun b hb => by
      obtain ⟨e, he, q⟩ := List.mem_filterMap.mp hb
      exact hC b (List.mem_filterMap.mpr ⟨e, List.mem_cons_of_mem _ he, q⟩)) hh hB⟩
/-- a block's error, back in the def -/
theorem XB.out {X : Cx} {pins : List (Addr × Obj)} {σ : L2.St} {H3 : Hp} {s3 s' : Shared} {scope : Scope} {ce : Env} {fp : List Addr} {EE : XK} {use : Option (Value → Sem Unit)} {Qf : Value → Shared → Prop} {acc : Value}
    (tk : Takes X (fun cls d _ H => EE cls d H)) (hs : X.stack = X.env :: X.outer) (hf : X.env.frame = some X.env.locals) (I3 : Inv X pins σ H3 s3) (cf : ce.frame = X.env.frame) (cL : ce.locals = s3.heap.objs.size)
    (f3 : ∀ b ∈ fp, (b ∈ X.ex ∨ X.s_0.heap.objs.size ≤ b) ∧ b ≠ X.env.locals ∧ (∀ x c, X.env.cells.lookup x = some c → c ≠ b) ∧ ∀ p ∈ X.pn ++ pins, p.1 ≠ b) {u : Value} (x : XB (X.blk s3 H3 scope ce fp) EE u s') :
    notedBy (model X.prog X.w) X.A ce (fun e s'' => compPostE (model X.prog X.w) X.A X.xe use Qf acc ce (.error e) s'') u s' := by
  obtain ⟨a, B, sI, pins', σ', H', cls, d, rfl, J, nb, up, fl, na, os, ag, w⟩ := x
  have hfr : X.A.frames = some (X.env :: X.outer) := by rw [I3.ok.frames, hs]
  have fl' : HandSPX.FlyingZ B (X.env :: X.outer) a (Zc cls d) s'.heap := by rw [← hs]; exact fl
  show wpAny _ X.A (noteFrame (.ref a) ce) _ _ _
  rw [noteFrame_frame cf]
  refine HandSPX.looks_onZ Zc.steady hfr hf fl' fun h3 hh3 up3 => ?_
  obtain ⟨m, hn, _⟩ := J.loc
  have hn : sI.heap.Ns ce.locals m := hn
  have hn3 : h3.Ns ce.locals m := up3.ns (up.ns hn)
  have goal : ∃ m, h3.Ns ce.locals m ∧ ∀ h', Heap.SameBut ce.locals h3 h' → wpAny (model X.prog X.w) X.A (passOn "comprehension.variables-let-go" (.ref a) ce : Sem Value) (fun _ _ => False) X.xe { s' with heap := h' } := by
    refine ⟨m, hn3, fun h4 sb => ?_⟩
    have nC : H' ce.locals = none := J.free
    -- everything but the block's own names
    obtain ⟨G, g1, g2⟩ := restrict sI.heap fun b => decide (b ≠ ce.locals)
    obtain ⟨B', b1, b2⟩ := restrict B fun b => decide (b ≠ ce.locals)
    have gG : ∀ b o, b ≠ ce.locals → sI.heap.get? b = some o → G.get? b = some o := fun b o n e => by rw [g1 b (decide_eq_true n)]; exact e
    have oG : ∀ b o, G.get? b = some o → b ≠ ce.locals ∧ sI.heap.get? b = some o := fun b o e => by
      by_cases n : b = ce.locals
      · rw [g2 b (by simp [n])] at e; cases e
      · rw [g1 b (decide_eq_true n)] at e
        exact ⟨n, e⟩
    have oB : ∀ b o, B'.get? b = some o → b ≠ ce.locals ∧ B.get? b = some o := fun b o e => by
      by_cases n : b = ce.locals
      · rw [b2 b (by simp [n])] at e; cases e
      · rw [b1 b (decide_eq_true n)] at e
        exact ⟨n, e⟩
    have nB : ∀ b, B.get? b = none → B'.get? b = none := fun b e => by
      cases q : B'.get? b with
      | none => rfl
      | some o => rw [(oB b o q).2] at e; cases e
    have stF : ∀ b ∈ frs X.stack, b ≠ ce.locals := fun b hb => by
      obtain ⟨_, o, e, _⟩ := I3.stack.mem hb
      rw [cL]
      exact Nat.ne_of_lt (Heap.lt_size e)
    have stF' : ∀ b ∈ frs (X.env :: X.outer), b ≠ ce.locals := fun b hb => stF b (by rw [hs]; exact hb)
    have h34 : ∀ b o, b ≠ ce.locals → h3.get? b = some o → h4.get? b = some o := fun b o n e => (sb.2 b n).trans e
    obtain ⟨od, es, ep, hC3, hCd, _⟩ := hn3
    have rec_ne : ∀ {b : Addr} {o : Obj} {vs : Array Value}, h3.get? b = some o → o.data = .fields vs → b ≠ ce.locals := fun {b o vs} e q z => by
      rw [z, hC3] at e
      cases e
      rw [hCd] at q
      cases q
    obtain ⟨k1, k2, k3, oe, vs, T, oT, ts, he, hz, hd, h1, hnT, hTe, hT, hdT, ht⟩ := hh3
    have hh4 : HandSPX.HeldZ B' (X.env :: X.outer) a (Zc cls d) X.env.locals h4 :=
      ⟨fun b o e => h34 b o (oB b o e).1 (k1 b o (oB b o e).2), nB a k2, funFrames_but k3 stF' h34 nB, oe, vs, T, oT, ts, h34 a oe (rec_ne he hd) he, hz, hd, h1, nB T hnT, hTe, h34 T oT (rec_ne hT hdT) hT, hdT, ht⟩
    rw [passOn_frame cf]
    unfold PySem.passOn
    refine wpAny_bind (wpAny_field (h34 a oe (rec_ne he hd) he) hd h1 ?_)
    rw [if_neg (show ¬ ((Value.ref T == Value.none) = true) from by simp)]
    have fin : wpAny (model X.prog X.w) X.A (setFlight (.ref a) X.env.frame) (fun _ s4 => wpAny (model X.prog X.w) X.A (throw (.ref a) : Sem Value) (fun _ _ => False) X.xe s4) X.xe { s' with heap := h4 } := by
      rw [hf]
      refine HandSPX.setFlight_onZ hh4 fun h5 hh5 up5 => wpAny_throw (tk _ _ ?_)
      refine ⟨a, B', { sI with heap := G }, pins, σ, H', cls, d, rfl, ?_, fun b o e hb => ?_, fun b o e hnf => ?_, .inr (.inr (by rw [hs]; exact hh5)), na, os, ag, w⟩
      · have ub : Un (frs X.stack) fp H3 H' s3.heap sI.heap := J.base
        have lt : ∀ b o, s3.heap.get? b = some o → b ≠ ce.locals := fun b o e z => by
          have := Heap.lt_size e
          rw [z, cL] at this
          exact Nat.lt_irrefl _ this
        refine I3.call' (ch := fp) J.os ⟨fun b o e n hb hx => gG b o (lt b o e) (ub.keep b o e n hb hx), fun b o e n hb hx => ?_, ub.free, fun b o e hx => ?_, ub.tups, ub.frzs, ub.tbls⟩ (fun b o q => (J.hok b o q).stay (fun c v hc r => gG c v (fun z => ?_) r) (fun _ r => r) fun _ _ r => r) J.bare f3
        · obtain ⟨sl, q⟩ := ub.slot b o e n hb hx
          exact ⟨sl, gG _ _ (lt b o e) q⟩
        · obtain ⟨o', q⟩ := ub.there b o e hx
          exact ⟨o', gG _ _ (lt b o e) q⟩
        · rcases hc with hc | hc
          · rw [← hc, z, nC] at q; cases q
          · rw [z, nC] at hc; cases hc
      · obtain ⟨n, e1⟩ := oG b o e
        rw [b1 b (decide_eq_true n)]
        exact nb b o e1 hb
      · obtain ⟨n, e1⟩ := oG b o e
        obtain ⟨sl, e2⟩ := up b o e1 hnf
        obtain ⟨sl3, e3⟩ := up3 b _ e2 hnf
        obtain ⟨sl5, e5⟩ := up5 b { o with slots := sl3 } (h34 b { o with slots := sl3 } n e3) hnf
        exact ⟨sl5, e5⟩
    first
      | exact wpAny_bind (wpAny_pure (wpAny_bind fin))
      | exact wpAny_bind fin
  cases use <;> exact goal
section
variable {X : Cx}
theorem lcE_core {pins : List (Addr × Obj)} {s : Shared} {σ : L2.St} {H : Hp} {Q : VK} {EE : XK} {elt tg iter : Expr} {ifs : List Expr} {scope : Scope} {own : List (Str × Nat)} {pos pos' : Pos} {wi : TI} {g : TG} {tt : TT} {te : TE} {use : Option (Value → Sem Unit)} {Qf : Value → Shared → Prop}
    (tk : Takes X (fun cls d _ H => EE cls d H)) (hst : X.stack = X.env :: X.outer) (hfm : X.env.frame = some X.env.locals)
    (hc : X.calm = true) (hN : X.N.Nodup) (I : Inv X pins σ H s) (hi : PI X tg iter wi) (ok : BlkOk X.N X.env.scope scope own)
    (hg : ∀ (s : Shared) (H : Hp) (C : Addr) (cl : List (Str × Addr)) (fp : List Addr), PG (X.blk s H scope (compEnvC scope cl C X.env) fp) tg g) (ht : ∀ (s : Shared) (H : Hp) (C : Addr) (cl : List (Str × Addr)) (fp : List Addr), PTs (X.blk s H scope (compEnvC scope cl C X.env) fp) ifs tt)
    (he : ∀ (s : Shared) (H : Hp) (C : Addr) (cl : List (Str × Addr)) (fp : List Addr), PE (blkE X s H scope (compEnvC scope cl C X.env) fp EE) elt te) (hs : ∀ x, foldedSetIterable iter X.env x = pure x)
    (h : tLc wi g tt te (own.map (·.2)) σ H Q)
    (hRR : ∀ D ce s' m H', Inv X pins σ H' s' → Q (.ref D) H' → s'.heap.Ns ce.locals m → FpOk X pins H' ce.locals → compPostE (model X.prog X.w) X.A X.xe use Qf (.ref D) ce (.ok .next) s') :
    wpAny (model X.prog X.w) X.A (comprehension (.ListComp elt [⟨tg, iter, ifs, 0⟩] scope pos) scope X.env pos' (newList []) false (eval iter X.env) use) Qf X.xe s := by
  have hfree : ∀ y ∈ scope.names, y.2 = .free → ∃ c, X.env.cells.lookup y.1 = some c := fun y hy e => by
    rcases ok.free y hy e with k | k
    · exact I.ok.has _ (.inl k)
    · exact I.ok.has _ (.inr k)
  refine comp_freeE (use := use) rfl hs (closure_ok hfree) ok.kind (fun y hy e => by rw [ok.uniq y hy, e])
    (thn (hi.run pins s σ H _ I h) fun xv s1 hx => thn hx fun itv s2 h2 => ?_)
  obtain ⟨it, fp, tn, J, H2, e, I2, T, st2, f2, q⟩ := h2
  subst e
  refine wpAny_newObj_type (newEnv_comp ?_) (by show 0 ≤ sizeLine; decide)
  generalize hD : s2.heap.objs.size = D
  have hDn : H2 D = none := I2.hok.fresh (Nat.le_of_eq hD)
  obtain ⟨W, ⟨m0, w0⟩, turn⟩ := q D hDn
  -- the new list
  generalize hs3 : ({ s2 with heap := s2.heap.push { cls := .type "list", data := .seq ([] : List Value).toArray } } : Shared) = s3
  have I3 : Inv X pins σ (upd H2 D (.lst [])) s3 := by
    rw [← hs3]
    refine I2.laid (t' := s2.toks) (fun b o e => Heap.get?_push_of_some _ e) (Nat.le_of_eq hD) ⟨Nat.zero_le _, [], 0, .nil, ?_⟩
    rw [← hD]
    exact Heap.get?_push_size _ rfl
  have h3 : s3.heap = s2.heap.push { cls := .type "list", data := .seq ([] : List Value).toArray } := by rw [← hs3]
  have sz : ∀ b ∈ fp, b < s2.heap.objs.size := fun b hb => by
    obtain ⟨o, e, _⟩ := T.obj _ _ st2 b hb
    exact Heap.lt_size e
  have f3 : ∀ b ∈ fp, FpOk X pins (upd H2 D (.lst [])) b ∧ b < s3.heap.objs.size := fun b hb => by
    have hlt := sz b hb
    refine ⟨⟨?_, (f2 b hb).2⟩, by rw [h3, Heap.size_push]; exact Nat.lt_succ_of_lt hlt⟩
    rw [upd_ne (by rw [← hD]; exact Nat.ne_of_lt hlt)]
    exact (f2 b hb).1
  have st3 : tn 0 s3.heap := T.keep _ _ _ st2 fun b _ o e => by rw [h3]; exact Heap.get?_push_of_some _ e
  have I4 := block_start I3 ok hN f3
  have pg := hg s3 (upd H2 D (.lst [])) s3.heap.objs.size (cellsFrom (s3.heap.objs.size + 1) scope.names (cloFrom X.env.cells scope.names [])) fp
  have pt := ht s3 (upd H2 D (.lst [])) s3.heap.objs.size (cellsFrom (s3.heap.objs.size + 1) scope.names (cloFrom X.env.cells scope.names [])) fp
  have pe := he s3 (upd H2 D (.lst [])) s3.heap.objs.size (cellsFrom (s3.heap.objs.size + 1) scope.names (cloFrom X.env.cells scope.names [])) fp
  show codeAny _ _ (.compStart (.ListComp elt [⟨tg, iter, ifs, 0⟩] scope pos) 0 (.ref it) (.ref D) (compEnvC scope (cellsFrom (s3.heap.objs.size + 1) scope.names (cloFrom X.env.cells scope.names [])) s3.heap.objs.size X.env)) (compPostE (model X.prog X.w) X.A X.xe use Qf (.ref D) (compEnvC scope (cellsFrom (s3.heap.objs.size + 1) scope.names (cloFrom X.env.cells scope.names [])) s3.heap.objs.size X.env)) { s3 with heap := pushCells (s3.heap.push { cls := .type "dict", data := .dict #[] }) scope.names }
  have nfp : ∀ b ∈ fp, (upd H2 D (.lst [])) b = none := fun b hb => (f3 b hb).1.1
  generalize hce : compEnvC scope (cellsFrom (s3.heap.objs.size + 1) scope.names (cloFrom X.env.cells scope.names [])) s3.heap.objs.size X.env = ce at I4 pg pt pe ⊢
  have cL : ce.locals = s3.heap.objs.size := by subst hce; rfl
  have cf : ce.frame = X.env.frame := by subst hce; rfl
  generalize hH3 : upd H2 D (.lst []) = H3 at I3 I4 pg pt pe w0 nfp f3
  generalize hs4 : ({ s3 with heap := pushCells (s3.heap.push { cls := .type "dict", data := .dict #[] }) scope.names } : Shared) = s4 at I4 ⊢
  have st4 : tn 0 s4.heap := T.keep _ _ _ st3 fun b _ o e => by rw [← hs4]; exact pushCells_keeps _ _ _ _ (Heap.get?_push_of_some _ e)
  have stat : ∀ {σ' : L2.St} {H' : Hp} {s' : Shared}, Inv (X.blk s3 H3 scope ce fp) [] σ' H' s' → (∀ b ∈ fp, H' b = none) → ∀ b ∈ fp, FpOk (X.blk s3 H3 scope ce fp) [] H' b := fun {σ' H' s'} I' hn b hb =>
    ⟨hn b hb, (I'.ok.exf b hb).1, I'.ok.exfs b hb, .inl hb, fun x c e => (I'.ok.exf b hb).2 x c e, fun p hp => absurd (show p ∈ ([] : List (Addr × Obj)) ++ [] from hp) (by simp)⟩
  have f3' : ∀ b ∈ fp, (b ∈ X.ex ∨ X.s_0.heap.objs.size ≤ b) ∧ b ≠ X.env.locals ∧ (∀ x c, X.env.cells.lookup x = some c → c ≠ b) ∧ ∀ p ∈ X.pn ++ pins, p.1 ≠ b := fun b hb => ⟨(f3 b hb).1.2.2.2.1, (f3 b hb).1.2.1, (f3 b hb).1.2.2.2.2.1, (f3 b hb).1.2.2.2.2.2⟩
  have loop : codeAny (model X.prog X.w) X.A (.compLoop (.ListComp elt [⟨tg, iter, ifs, 0⟩] scope pos) 0 (.ref it) (.ref D) ce) (compPostE (model X.prog X.w) X.A X.xe use Qf (.ref D) ce) s4 := by
    refine compLoop_any (fun n s' => ∃ i H', Inv (X.blk s3 H3 scope ce fp) [] (wipe σ (own.map (·.2))) H' s' ∧ tn i s'.heap ∧ (∀ b ∈ fp, H' b = none) ∧ W i n H') ?_ m0 ⟨0, H3, I4, st4, nfp, w0⟩
    rintro n s5 ⟨i, H5, I5, st5, n5, w5⟩
    rcases turn i n H5 w5 with ⟨stop, qq⟩ | ⟨go, Nx, hNx, step⟩
    · have td := T.done (X.blk s3 H3 scope ce fp) rfl rfl rfl hc i [] s5 _ H5 (fun _ _ => False) I5 (stat I5 n5) st5 stop
      refine thnF td fun r s6 ⟨hr, I6⟩ => ?_
      subst hr
      have I7 : Inv X pins σ H5 s6 := I3.call' (ch := fp) I6.os I6.base I6.hok I6.bare f3'
      have nC : H5 s3.heap.objs.size = none := by
        have z : H5 ce.locals = none := I6.free
        rw [cL] at z
        exact z
      obtain ⟨m, hn, _⟩ := I6.loc
      have hn : s6.heap.Ns ce.locals m := hn
      exact hRR D ce s6 m H5 I7 qq hn (by rw [cL]; exact I3.fpOk (Nat.le_refl _) nC)
    · have ti := T.item (X.blk s3 H3 scope ce fp) rfl rfl rfl hc i [] s5 _ H5 (fun _ _ => False) I5 (stat I5 n5) st5 go
      refine thnF ti fun r s6 ⟨u, hr, h6⟩ => ?_
      subst hr
      refine thnF h6 fun _ s7 ⟨x, H7, I7, r7, y7, st7, n7⟩ => ?_
      have I7' := I7.pinned (stat I7 n7) (T.obj _ _ st7)
      refine thnF (pg.run _ s7 _ H7 x u _ I7' r7 (step x H7 y7)) fun _ s8 ⟨σ8, H8, I8, hw8, q8⟩ => ?_
      refine thnF (pt.run _ s8 σ8 H8 _ I8 q8) fun b s9 ⟨H9, I9, q9⟩ => ?_
      have fin : ∀ {s' : Shared} {H' : Hp}, Inv (X.blk s3 H3 scope ce fp) ([] ++ pinsAt fp s7.heap) σ8 H' s' → Nx H' → ∃ m, m < n ∧ ∃ i H', Inv (X.blk s3 H3 scope ce fp) [] (wipe σ (own.map (·.2))) H' s' ∧ tn i s'.heap ∧ (∀ b ∈ fp, H' b = none) ∧ W i m H' := fun {s' H'} I' nx => by
        obtain ⟨m', hm, w'⟩ := hNx H' nx
        have pin' : ∀ b ∈ fp, ∀ o, s7.heap.get? b = some o → s'.heap.get? b = some o ∧ H' b = none := fun b hb o e =>
          let z := I'.pin (b, o) (List.mem_append_right _ (List.mem_append_right _ (mem_pinsAt hb e)))
          ⟨z.1, z.2.1⟩
        have hl : (wipe σ (own.map (·.2))).length = σ8.length := by rw [← hw8, wipe_length]
        refine ⟨m', hm, i + 1, H', (I'.unpinned (pins := [])).weak hl (fun j v e => ?_), T.keep _ _ _ st7 fun b hb o e => (pin' b hb o e).1, fun b hb => ?_, w'⟩
        · rw [← hw8] at e
          exact (wipe_some e).1
        · obtain ⟨o, e, _⟩ := T.obj _ _ st7 b hb
          exact (pin' b hb o e).2
      cases b with
      | false =>
        simp only [Bool.false_eq_true, if_false] at q9 ⊢
        exact fin I9 q9
      | true =>
        simp only [if_true] at q9 ⊢
        refine wpAny_mono (pe.run _ s9 σ8 H9 _ (inv_toE I9) q9) (fun z s10 ⟨yv, H10, I10, r10, acc, hD10, hz10, nx⟩ => ?_) fun u s10 xb => XB.out tk hst hfm I3 cf cL f3' xb
        exact app_ok (X := X.blk s3 H3 scope ce fp) (inv_ofE I10) hD10 hz10 r10 fun s11 I11 => fin I11 nx
  exact codeAny_compStart_list loop (T.self X.A 0 _ _ _ st4 loop)
/-- as a value -/
theorem pe_lcE {EE : XK} {elt tg iter : Expr} {ifs : List Expr} {scope : Scope} {own : List (Str × Nat)} {pos : Pos} {wi : TI} {g : TG} {tt : TT} {te : TE} (tk : Takes X (fun cls d _ H => EE cls d H)) (hst : X.stack = X.env :: X.outer) (hfm : X.env.frame = some X.env.locals) (hc : X.calm = true) (hN : X.N.Nodup) (hi : PI X tg iter wi) (ok : BlkOk X.N X.env.scope scope own)
    (hg : ∀ (s : Shared) (H : Hp) (C : Addr) (cl : List (Str × Addr)) (fp : List Addr), PG (X.blk s H scope (compEnvC scope cl C X.env) fp) tg g) (ht : ∀ (s : Shared) (H : Hp) (C : Addr) (cl : List (Str × Addr)) (fp : List Addr), PTs (X.blk s H scope (compEnvC scope cl C X.env) fp) ifs tt)
    (he : ∀ (s : Shared) (H : Hp) (C : Addr) (cl : List (Str × Addr)) (fp : List Addr), PE (blkE X s H scope (compEnvC scope cl C X.env) fp EE) elt te) (hs : ∀ x, foldedSetIterable iter X.env x = pure x := by intro _; rfl) :
    PE X (.ListComp elt [⟨tg, iter, ifs, 0⟩] scope pos) (tLc wi g tt te (own.map (·.2))) := by
  refine ⟨fun pins s σ H Q I h => ?_⟩
  rw [eval_ListComp]
  refine lcE_core tk hst hfm hc hN I hi ok hg ht he hs h fun D ce s' m H' I' q hn f => ⟨m, hn, fun h'' sb => ?_⟩
  obtain ⟨f0, f1, f2, f3, f4, f5⟩ := f
  exact ⟨.ref D, H', I'.turned (t' := s'.toks) (fun b o hb e => (sb.2 b hb).trans e) f0 f1 f3 f4 f5, rfl, q⟩
/-- name = [..] on one line, the name a local -/
theorem ps_setLcE {EE : XK} {i : Nat} {y : Str} {py : Pos} {elt tg iter : Expr} {ifs : List Expr} {scope : Scope} {own : List (Str × Nat)} {pos spos : Pos} {wi : TI} {g : TG} {tt : TT} {te : TE} (tk : Takes X (fun cls d _ H => EE cls d H)) (hst : X.stack = X.env :: X.outer) (hfm : X.env.frame = some X.env.locals) (hc : X.calm = true) (hN : X.N.Nodup) (hy : X.N[i]? = some y) (hyl : X.env.scope.names.lookup y = some .local)
    (hsw : swapsWith (.ListComp elt [⟨tg, iter, ifs, 0⟩] scope pos) (some (.Name y py)) spos.line X.env = pure true) (hi : PI X tg iter wi) (ok : BlkOk X.N X.env.scope scope own)
    (hg : ∀ (s : Shared) (H : Hp) (C : Addr) (cl : List (Str × Addr)) (fp : List Addr), PG (X.blk s H scope (compEnvC scope cl C X.env) fp) tg g) (ht : ∀ (s : Shared) (H : Hp) (C : Addr) (cl : List (Str × Addr)) (fp : List Addr), PTs (X.blk s H scope (compEnvC scope cl C X.env) fp) ifs tt)
    (he : ∀ (s : Shared) (H : Hp) (C : Addr) (cl : List (Str × Addr)) (fp : List Addr), PE (blkE X s H scope (compEnvC scope cl C X.env) fp EE) elt te) (hs : ∀ x, foldedSetIterable iter X.env x = pure x := by intro _; rfl) :
    PS X (.Assign [.Name y py] (.ListComp elt [⟨tg, iter, ifs, 0⟩] scope pos) spos) (tAsg (tLc wi g tt te (own.map (·.2))) (gName i)) := by
  refine ⟨fun pins s σ H D I h => ?_⟩
  rw [exec_Assign_Name_used _ _ _ _ hsw]
  refine wpAny_bind (wpAny_standAt (wpAny_bind ?_))
  show wpAny _ X.A (do let _ ← comprehension (.ListComp elt [⟨tg, iter, ifs, 0⟩] scope pos) scope X.env (firstIterPos [⟨tg, iter, ifs, 0⟩] pos) (newList []) false (eval iter X.env) (some (assign (.Name y py) X.env))) _ _ s
  have h : tLc wi g tt te (own.map (·.2)) σ H (fun x H1 => gName i x σ H1 D.nx) := h
  refine wpAny_bind (thn (lcE_core (Qf := fun _ s' => SP X pins D .next s') tk hst hfm hc hN I hi ok hg ht he hs h fun L ce s' m H' I' q hn f => ?_) fun _ s' hq => wpAny_pure (wpAny_pure hq))
  show wpAny _ _ (assign (.Name y py) X.env (.ref L)) _ _ _
  refine wpAny_assign_Name (store_ok2 (v := V.ref L) I' hN hy (.inl hyl) rfl (fun s2 I2 ⟨a, sb, ha⟩ => ?_) (.inr hyl))
  obtain ⟨f0, f1, f2, f3, f4, f5⟩ := f
  have haC : ce.locals ≠ a := by
    rcases ha with z | z
    · rw [z]; exact f1
    · exact fun e => f4 y a z e.symm
  refine ⟨m, hn.sameBut sb haC, fun h3 sb3 => ?_⟩
  exact ⟨_, H', I2.turned (t' := s2.toks) (fun b o hb e => (sb3.2 b hb).trans e) f0 f1 f3 f4 f5, q⟩
end
section
variable {X : Cx} {e o : Expr} {es : List Expr} {p pos apos : Pos} {ta : TE} {t : TA} {C m x : Str} {ps : List Str} {sp : Sp} {j k : Nat} {E : XK}
/-- calls in such a block -/
theorem pcallB (c : Cl X.prog X.w X.K X.mg X.base k x ps sp) (hr : Room j X.A) (hk : k ≤ j) (px : Passes (L2.CX X.prog X.w) X E) (ha : PA X (e :: es) t) (hg : Gl X x := by rfl)
    (he : starEach (e :: es) X.env = (false, eval e X.env) :: starEach es X.env := by rfl) (hpl : (backTo pos (starEach es X.env)).any (·.1) = false := by rfl) (hdb : (x == ("__debug__" : Str)) = false := by decide) :
    PE X (.Call (.Name x p) (e :: es) [] pos) (tCall sp [] E t) := by
  obtain ⟨f, fd, F, m, kp, b⟩ := c.ex
  exact pe_call F (hr.mono hk) hg m kp b .nil px ha hdb he hpl
theorem pmethB {pl : Sem Bool} {K : PySem.W.Frag} (hK : X.K = K) (c : MCl X.prog X.w K X.mg X.base k C m ps sp) (hr : Room j X.A) (hk : k ≤ j) (px : Passes (L2.CX X.prog X.w) X E) (he : PE X o ta) (ha : PA X (e :: es) t)
    (hst : starEach (e :: es) X.env = (false, eval e X.env) :: starEach es X.env := by rfl) (hpl : (backTo pos (starEach es X.env)).any (·.1) = false := by rfl)
    (ht : eval (.Call (.Attribute o m apos) (e :: es) [] pos) X.env = (do
      let ov ← eval o X.env
      standAt apos.atName
      let (f, first) ← holding [ov] (getMethod ov m pl)
      callWith pos f first (backTo pos (starEach (e :: es) X.env)) (backToKw pos (keywordEach [] X.env))) := by rfl) :
    PE X (.Call (.Attribute o m apos) (e :: es) [] pos) (tMethS (He.ga K C) m sp (fun _ => E) ta t) := by
  subst hK
  obtain ⟨f, fd, hc, hm, F, b⟩ := c.ex
  refine ⟨fun pins s σ H Q I h => (pe_meth (pl := pl) he hc hm F (hr.mono hk) b .nil px ha hst hpl ht).run pins s σ H Q I ?_⟩
  simp only [tMeth, List.append_nil]
  exact h
end
end Gx
/-! isinstance(e, (c, c2, ..)), e the error that a suite holds -/
namespace Gx
open PySem PySem.Spec PyProof.Rows L2
def rIsET (K : PySem.W.Frag) (a : Addr) (cls : Value) (d : Option Addr) : List V → Hp → VK → Prop := fun xs H Q => ∃ D : Addr, cls = .ref D ∧ (d = none ∨ ∃ dd fs, d = some dd ∧ H dd = some (.xd fs)) ∧ ExcC K D ∧
  ∃ (tp : Addr) (cs : List V) (us : List Value) (b : Bool), xs = [.ref a, .ref tp] ∧ H tp = some (.tup cs) ∧ PySem.Paired ClsV cs us ∧ PySem.W.kitAny K (.ref D) us = some b ∧ Q (.bl b) H
theorem call_isET {X : Cx} {a : Addr} {cls : Value} {d : Option Addr} {oe : Obj} {pn : List (Addr × Obj)} (hz : Zc cls d oe) (hf : ∃ vs, oe.data = .fields vs) : CallR (X.suite a ((a, oe) :: pn)) (.builtin "isinstance") (rIsET X.K a cls d) := by
  intro pins s σ H xs us Q I r h
  obtain ⟨D, rfl, hd, C, tp, cs, ws, b, rfl, hT, k, e, q⟩ := h
  obtain ⟨u1, u2, rfl, r1, r2⟩ := vals2 r
  cases (show u2 = Value.ref tp from r2)
  cases (show u1 = Value.ref a from r1)
  obtain ⟨_, its, rv, o, h1, h2, n, h3⟩ := (show ObjOk X.prog X.w H s.heap tp (.tup cs) from I.hok tp _ hT)
  have e3 := ClsV.all k rv
  subst e3
  obtain ⟨oc, od, dt, sl⟩ := o
  simp only at h2 h3
  subst h2 h3
  obtain ⟨hget, _⟩ := I.pin (a, oe) (List.mem_append.mpr (.inl List.mem_cons_self))
  obtain ⟨vs, hv⟩ := hf
  rcases hd with rfl | ⟨dd, fs, rfl, hdd⟩
  · have J : PySem.W.InstAt s.heap a oe D none := ⟨hget, hz.1, by unfold PySem.W.notCls; rw [hv] <;> rfl, by rw [hz.2]; exact trivial⟩
    exact PySem.W.kia_tup (PySem.W.kitx_exc (by obtain ⟨cd, hc, _⟩ := PySem.W.any_some C.hd; rw [hc]; rfl) C.hg C.hk C.hs C.ha C.hn C.ht C.hm) I.kIn J h1 e (fun z => nomatch z) fun tk => ⟨.bl b, H, I.kept (t' := tk) fun _ _ z => z, rfl, q⟩
  · have hx : ObjOk X.prog X.w H s.heap dd (.xd fs) := I.hok dd _ hdd
    obtain ⟨mA, hns, hr⟩ := hx
    obtain ⟨od, ho, hl⟩ := lookIn_ns hns
    have J : PySem.W.InstAt s.heap a oe D (some od) := ⟨hget, hz.1, by unfold PySem.W.notCls; rw [hv] <;> rfl, by rw [hz.2]; exact ho⟩
    exact PySem.W.kia_tup (PySem.W.kitx_exc (by obtain ⟨cd, hc, _⟩ := PySem.W.any_some C.hd; rw [hc]; rfl) C.hg C.hk C.hs C.ha C.hn C.ht C.hm) I.kIn J h1 e (fun z => nomatch z) fun tk => ⟨.bl b, H, I.kept (t' := tk) fun _ _ z => z, rfl, q⟩
theorem kany0 {K : PySem.W.Frag} {t : Value} : PySem.W.kitAny K t [] = some false := rfl
theorem kanyF {K : PySem.W.Frag} {t c : Value} {us : List Value} {b : Bool} (h : PySem.W.kitOne K t c = some false) (r : PySem.W.kitAny K t us = some b) : PySem.W.kitAny K t (c :: us) = some b := by
  show (match PySem.W.kitOne K t c with | some true => some true | some false => PySem.W.kitAny K t us | none => none) = some b
  rw [h]
  exact r
theorem kanyT {K : PySem.W.Frag} {t c : Value} {us : List Value} (h : PySem.W.kitOne K t c = some true) : PySem.W.kitAny K t (c :: us) = some true := by
  show (match PySem.W.kitOne K t c with | some true => some true | some false => PySem.W.kitAny K t us | none => none) = some true
  rw [h]
theorem k_isETD {K : PySem.W.Frag} {H : Hp} {Q : VK} {a D dd tp : Addr} {fs : List (Str × V)} {cs : List V} {us : List Value} {b : Bool} (h : H dd = some (.xd fs)) (C : ExcC K D) (ht : H tp = some (.tup cs)) (hp : PySem.Paired ClsV cs us) (hk : PySem.W.kitAny K (.ref D) us = some b) (q : Q (.bl b) H) : rIsET K a (.ref D) (some dd) [.ref a, .ref tp] H Q :=
  ⟨D, rfl, .inr ⟨dd, fs, rfl, h⟩, C, tp, cs, us, b, rfl, ht, hp, hk, q⟩
theorem k_isET {K : PySem.W.Frag} {H : Hp} {Q : VK} {a D tp : Addr} {cs : List V} {us : List Value} {b : Bool} (C : ExcC K D) (ht : H tp = some (.tup cs)) (hp : PySem.Paired ClsV cs us) (hk : PySem.W.kitAny K (.ref D) us = some b) (q : Q (.bl b) H) : rIsET K a (.ref D) none [.ref a, .ref tp] H Q :=
  ⟨D, rfl, .inl rfl, C, tp, cs, us, b, rfl, ht, hp, hk, q⟩
end Gx
/-! all(t), t a tuple; what is never reached -/
namespace Gx
open PySem PySem.Spec PyProof.Rows L2
def rAllT (K : PySem.W.Frag) : List V → Hp → VK → Prop := fun vs H Q => ∃ (a : Addr) (bs : List Bool), vs = [V.ref a] ∧ SqT K H a (bs.map V.bl) ∧ Q (.bl (bs.all id)) H
theorem cr_allT {X : Cx} (hc : X.calm = true) : CallR X (.builtin "all") (rAllT X.K) := by
  intro pins s σ H vs us Q I r h
  obtain ⟨a, bs, rfl, hs, q⟩ := h
  obtain ⟨its, rv, hl, _⟩ := I.tuple hs
  rw [Vals.ref1 r]
  have hb := rv.bls
  have hlt : a < s.heap.objs.size := hl.lt
  refine call_all_walk (wpAny_pyIter_tuple hl ?_)
  refine ⟨_, _, _, _, _, _, _, rfl, Walks.tuple (A := X.A.in1) (I.ok.hd hc) _ a (Nat.ne_of_lt hlt) its.toArray, ⟨⟨_, Heap.get?_push_size _ rfl, rfl, rfl⟩, hl.push _⟩, truth_bools hb, fun h' tk hk => ?_⟩
  refine ⟨.bl _, H, I.kept fun b o eo => hk b o (fun hmem => ?_) (Heap.get?_push_of_some _ eo), ?_, q⟩
  · rcases List.mem_cons.mp hmem with e1 | hmem
    · exact absurd (e1 ▸ Heap.lt_size eo) (Nat.lt_irrefl _)
    · cases hmem
  · show Value.bool _ = Value.bool _
    rw [← L2.all_range, hb, List.size_toArray, List.length_map]
theorem k_allT {K : PySem.W.Frag} {H : Hp} {Q : VK} {a : Addr} {bs : List Bool} (h : SqT K H a (bs.map V.bl)) (q : Q (.bl (bs.all id)) H) : rAllT K [.ref a] H Q := ⟨a, bs, rfl, h, q⟩
end Gx
namespace Gx
open PySem PySem.Spec PyProof.Rows L2
/-- code that is never reached -/
theorem ps_void {X : Cx} {st : Stmt} : PS X st (fun _ _ _ => False) := ⟨fun _ _ _ _ _ _ h => h.elim⟩
theorem pe_void {X : Cx} {e : Expr} : PE X e (fun _ _ _ => False) := ⟨fun _ _ _ _ _ _ h => h.elim⟩
end Gx
/-! x or y, x whatever has a truth -/
namespace Gx
open PySem PySem.Spec PyProof.Rows L2
def tOrU (K : PySem.W.Frag) (ta tb : TE) : TE := fun σ H Q => ta σ H fun x H1 => ∃ k, TruV K x H1 k ∧ if k = true then Q x H1 else tb σ H1 Q
theorem pe_orU {X : Cx} {K : PySem.W.Frag} {a b : Expr} {rest : List Expr} {pos : Pos} {ta tb : TE} (h : X.K = K) (ha : PE X a ta) (hb : PE X (.BoolOp .Or (b :: rest) pos) tb) : PE X (.BoolOp .Or (a :: b :: rest) pos) (tOrU K ta tb) := by
  subst h
  refine ⟨fun pins s σ H Q I h => ?_⟩
  refine BoolOp_or (thn (ha.run pins s σ H _ I h) fun v s1 ⟨x, H1, I1, r1, q1⟩ => ?_)
  obtain ⟨k, e, q1⟩ := q1
  refine thn (tru_ok pins s1 σ H1 x v (fun z H2 => z = k ∧ if k = true then Q x H2 else tb σ H2 Q) I1 r1 ⟨k, e, rfl, q1⟩) fun z s2 ⟨H2, I2, ez, q2⟩ => ?_
  subst ez
  cases z with
  | true => exact ⟨x, H2, I2, r1, q2⟩
  | false => exact hb.run pins s2 σ H2 Q I2 q2
theorem k_orU {K : PySem.W.Frag} {ta tb : TE} {σ : L2.St} {H : Hp} {Q : VK} (q : ta σ H fun x H1 => ∃ k, TruV K x H1 k ∧ if k = true then Q x H1 else tb σ H1 Q) : tOrU K ta tb σ H Q := q
end Gx
/-! dicts by texts -/
namespace Gx
open PySem PySem.Spec PyProof.Rows L2
def rDG (x y : V) (H : Hp) (Q : VK) : Prop := ∃ a v, x = .ref a ∧ DGet H a y (some v) ∧ Q v H
theorem pe_dgN {X : Cx} {k : Nat} {o i : Expr} {pos : Pos} {td ty : TE} (hr : Room k X.A) (ho : PE X o td) (hi : PE X i ty) (hs : NoSl i) : PE X (.Subscript o i pos) (tDGet td ty) := pe_dget (by have := hr.un; omega) ho hi hs
theorem ps_dpN {X : Cx} {k : Nat} {o i value : Expr} {pos pos' : Pos} {td ty tv : TE} (hr : Room k X.A) (ho : PE X o td) (hi : PE X i ty) (hv : PE X value tv) (hs : swapsWith value (some (.Subscript o i pos')) pos.line X.env = pure false) : PS X (.Assign [.Subscript o i pos'] value pos) (sDPut td ty tv) := ps_dput (by have := hr.un; omega) ho hi hv hs
theorem k_dget {td ty : TE} {σ : L2.St} {H : Hp} {Q : VK} (q : td σ H fun x H1 => ty σ H1 fun y H2 => rDG x y H2 Q) : tDGet td ty σ H Q := q
theorem k_dgx {a : Addr} {kvs : List (Key × V)} {z : Str} {v : V} {H : Hp} {Q : VK} (h : H a = some (.dK kvs)) (e : valV kvs (.inr z) = some v) (q : Q v H) : rDG (.ref a) (.str z) H Q := ⟨a, v, rfl, e ▸ DGet.k (k := .inr z) h, q⟩
def rDP (x y v : V) (H : Hp) (N : Hp → Prop) : Prop := ∃ a H4, x = .ref a ∧ DPut H a y v H4 ∧ N H4
theorem k_dput {td ty tv : TE} {D : Ends} {σ : L2.St} {H : Hp} (q : tv σ H fun v H1 => td σ H1 fun x H2 => ty σ H2 fun y H3 => rDP x y v H3 fun H4 => D.nx σ H4) : sDPut td ty tv D σ H := q
theorem putK_le {kvs : List (Key × V)} {k : Key} {v : V} : (putK kvs k v).length ≤ kvs.length + 1 := by
  unfold putK
  split
  · rw [List.length_map]; omega
  · rw [List.length_append]; simp
theorem k_dpx {a : Addr} {kvs : List (Key × V)} {z : Str} {v : V} {H : Hp} {N : Hp → Prop} (h : H a = some (.dK kvs)) (hl : kvs.length < sizeLine) (q : ∀ kvs' H', But a H H' → H' a = some (.dK kvs') → kvs'.length ≤ kvs.length + 1 → (∀ j : Str, valV kvs' (.inr j) = if j = z then some v else valV kvs (.inr j)) → N H') : rDP (.ref a) (.str z) v H N :=
  ⟨a, _, rfl, DPut.k (k := .inr z) h hl, q _ _ But.upd upd_same putK_le fun j => by
    rw [valV_put]
    by_cases e : j = z
    · rw [if_pos e, if_pos (by rw [e])]
    · rw [if_neg e, if_neg fun w => e (Sum.inr.inj w)]⟩
/-- a dict written out -/
def rDispE (p : Addr) (ps : List (V × V)) (H : Hp) (Q : VK) : Prop := H p = some (.dK []) ∧ ∃ kvs : List (Key × V), ps = kvs.map (fun kv => (kV kv.1, kv.2)) ∧ kvs.length ≤ 15 ∧ Q (.ref p) (upd H p (.dK (mergeK [] kvs)))
theorem k_dispG {trs : List (TE × TE)} {σ : L2.St} {H : Hp} {Q : VK} (q : ∀ p H1, H p = none → Same H H1 → H1 p = some (.dK []) → tPairs trs σ H1 fun ps H2 => rDispE p ps H2 Q) : tDisp trs σ H Q := fun p hp => q p _ hp (same_new hp) upd_same
theorem k_pairC {tk tv : TE} {r : List (TE × TE)} {σ : L2.St} {H : Hp} {Q : List (V × V) → Hp → Prop} (q : tk σ H fun x H1 => tv σ H1 fun y H2 => tPairs r σ H2 fun ps H3 => Q ((x, y) :: ps) H3) : tPairs ((tk, tv) :: r) σ H Q := q
theorem k_pair0 {σ : L2.St} {H : Hp} {Q : List (V × V) → Hp → Prop} (q : Q [] H) : tPairs [] σ H Q := q
theorem merge_look : ∀ (zs : List (Str × V)) (acc : List (Key × V)) (j : Str), valV (mergeK acc (zs.map fun z => (Sum.inr z.1, z.2))) (.inr j) = match zs.reverse.lookup j with | some v => some v | none => valV acc (.inr j)
  | [], acc, j => rfl
  | (z, v) :: r, acc, j => by
    have ih := merge_look r (putK acc (.inr z) v) j
    rw [List.map_cons]
    show valV (mergeK (putK acc (.inr z) v) _) _ = _
    rw [ih, valV_put, List.reverse_cons, List.lookup_append]
    cases r.reverse.lookup j with
    | some w => rfl
    | none =>
      by_cases e : j = z
      · subst e
        rw [if_pos rfl]
        simp [List.lookup]
      · have e2 : (j == z) = false := beq_eq_false_iff_ne.mpr e
        rw [if_neg fun w => e (Sum.inr.inj w)]
        simp [List.lookup, e2]
theorem merge_len : ∀ (zs acc : List (Key × V)), (mergeK acc zs).length ≤ acc.length + zs.length
  | [], acc => Nat.le_refl _
  | (k, v) :: r, acc => by
    have := merge_len r (putK acc k v)
    have h := putK_le (kvs := acc) (k := k) (v := v)
    show (mergeK (putK acc k v) r).length ≤ _
    rw [List.length_cons]
    omega
theorem k_dispX {p : Addr} {ps : List (V × V)} {H : Hp} {Q : VK} (zs : List (Str × V)) (h : H p = some (.dK [])) (e : ps = zs.map fun z => (V.str z.1, z.2)) (l : zs.length ≤ 15)
    (q : ∀ kvs H', But p H H' → H' p = some (.dK kvs) → kvs.length ≤ 15 → (∀ j : Str, valV kvs (.inr j) = zs.reverse.lookup j) → Q (.ref p) H') : rDispE p ps H Q := by
  refine ⟨h, zs.map fun z => (Sum.inr z.1, z.2), ?_, by rw [List.length_map]; exact l, q _ _ But.upd upd_same ?_ fun j => ?_⟩
  · rw [e, List.map_map]; rfl
  · have := merge_len (zs.map fun z => ((Sum.inr z.1 : Key), z.2)) []
    rw [List.length_map] at this
    simpa using Nat.le_trans this (by simpa using l)
  · rw [merge_look]
    cases zs.reverse.lookup j <;> rfl
end Gx
namespace Gx
open PySem PySem.Spec PyProof.Rows L2
/-- d[z] = v, where z is a key already -/
theorem k_dpe {a : Addr} {kvs : List (Key × V)} {z : Str} {u v : V} {H : Hp} {N : Hp → Prop} (h : H a = some (.dK kvs)) (e : valV kvs (.inr z) = some u) (hl : kvs.length < sizeLine) (q : ∀ kvs' H', But a H H' → H' a = some (.dK kvs') → kvs'.length = kvs.length → (∀ j : Str, valV kvs' (.inr j) = if j = z then some v else valV kvs (.inr j)) → N H') : rDP (.ref a) (.str z) v H N := by
  have len : (putK kvs (Sum.inr z : Key) v).length = kvs.length := by
    unfold putK
    rw [if_pos (by rw [valV_any, e]; rfl), List.length_map]
  exact ⟨a, _, rfl, DPut.k (k := .inr z) h hl, q _ _ But.upd upd_same len fun j => by
    rw [valV_put]
    by_cases e : j = z
    · rw [if_pos e, if_pos (by rw [e])]
    · rw [if_neg e, if_neg fun w => e (Sum.inr.inj w)]⟩
end Gx
/-! ### functions that keep what they captured, behind the frame that made them -/
namespace Gx
open PySem PySem.Spec PyProof.Rows L2 LamX NdefX
/-- the object at c, just as it is -/
def PinO (c : Addr) (o : Obj) : HO := .ext fun h => h.get? c = some o
theorem pinO_at {P : Program} {w : World} {H : Hp} {h : Heap} {c : Addr} {o : Obj} (hok : HOk P w H h) (e : H c = some (PinO c o)) : h.get? c = some o := (hok c _ e).1
theorem pinO_ok {P : Program} {w : World} {H : Hp} {h : Heap} {c : Addr} {o : Obj} (e : h.get? c = some o) : ObjOk P w H h c (PinO c o) := ⟨e, ⟨o, e⟩, fun _ _ a st => st _ a⟩
/-- the heap without some cells; with them again -/
def unpin (cs : List Addr) (H : Hp) : Hp := fun b => if b ∈ cs then none else H b
def repin (cs : List Addr) (H H' : Hp) : Hp := fun b => if b ∈ cs then H b else H' b
theorem unpin_in {cs : List Addr} {H : Hp} {b : Addr} (h : b ∈ cs) : unpin cs H b = none := if_pos h
theorem unpin_out {cs : List Addr} {H : Hp} {b : Addr} (h : b ∉ cs) : unpin cs H b = H b := if_neg h
theorem repin_in {cs : List Addr} {H H' : Hp} {b : Addr} (h : b ∈ cs) : repin cs H H' b = H b := if_pos h
theorem repin_out {cs : List Addr} {H H' : Hp} {b : Addr} (h : b ∉ cs) : repin cs H H' b = H' b := if_neg h
def Pinned (cs : List Addr) (H : Hp) : Prop := ∀ c ∈ cs, ∃ o, H c = some (PinO c o)
theorem Pinned.ne {cs : List Addr} {H : Hp} (p : Pinned cs H) {b : Addr} {u : HO} (e : H b = some u) (n : ∀ φ, u ≠ .ext φ) : b ∉ cs := fun hb => by
  obtain ⟨o, ho⟩ := p b hb
  rw [e] at ho
  exact n _ (Option.some.inj ho)
theorem unpin_at {cs : List Addr} {H : Hp} {b : Addr} {u : HO} (p : Pinned cs H) (e : H b = some u) (n : ∀ φ, u ≠ .ext φ) : unpin cs H b = some u := by
  rw [unpin_out (p.ne e n)]
  exact e
theorem unpin_of {cs : List Addr} {H : Hp} {b : Addr} {u : HO} (e : unpin cs H b = some u) : H b = some u ∧ b ∉ cs := by
  by_cases h : b ∈ cs
  · rw [unpin_in h] at e; cases e
  · rw [unpin_out h] at e; exact ⟨e, h⟩
theorem unpin_none {cs : List Addr} {H : Hp} {b : Addr} (e : H b = none) : unpin cs H b = none := by
  by_cases h : b ∈ cs
  · exact unpin_in h
  · rw [unpin_out h]; exact e
/-- behind a call of such a function: its cells are known again -/
structure RePin (cs : List Addr) (H H' H'' : Hp) : Prop where
  eq : H'' = repin cs H H'
  out : ∀ c ∈ cs, H' c = none
theorem RePin.same {cs : List Addr} {H H' H'' : Hp} (r : RePin cs H H' H'') (e : Same (unpin cs H) H') : Same H H'' := fun b u h => by
  rw [r.eq]
  by_cases hb : b ∈ cs
  · rw [repin_in hb]; exact h
  · rw [repin_out hb]; exact e b u (by rw [unpin_out hb]; exact h)
theorem RePin.but {cs : List Addr} {H H' H'' : Hp} {l : Addr} (r : RePin cs H H' H'') (e : But l (unpin cs H) H') : But l H H'' := fun b u n h => by
  rw [r.eq]
  by_cases hb : b ∈ cs
  · rw [repin_in hb]; exact h
  · rw [repin_out hb]; exact e b u n (by rw [unpin_out hb]; exact h)
theorem RePin.new {cs : List Addr} {H H' H'' : Hp} (r : RePin cs H H' H'') : Same H' H'' := fun b u h => by
  have hb : b ∉ cs := fun z => by rw [r.out b z] at h; cases h
  rw [r.eq, repin_out hb]
  exact h
theorem seqT_unpin {K : PySem.W.Frag} {cs : List Addr} {H : Hp} (p : Pinned cs H) {a : Addr} {xs : List V} (h : SqT K H a xs) : SqT K (unpin cs H) a xs := by
  rcases h with (h | ⟨o, h⟩) | h
  · exact .inl (.inl (unpin_at p h (by intro φ z; cases z)))
  · exact .inl (.inr ⟨o, unpin_at p h (by intro φ z; cases z)⟩)
  · exact .inr h
theorem seqL_unpin {K : PySem.W.Frag} {cs : List Addr} {H : Hp} (p : Pinned cs H) {a : Addr} {xs : List V} (h : SqL K H a xs) : SqL K (unpin cs H) a xs := by
  rcases h with (h | ⟨o, h⟩) | h
  · exact .inl (.inl (unpin_at p h (by intro φ z; cases z)))
  · exact .inl (.inr ⟨o, unpin_at p h (by intro φ z; cases z)⟩)
  · exact .inr h
/-- a function's text, its code object, the cells that it captured -/
structure FX where
  fd : Value → Value → Value → FuncData
  c : Addr
  qual : Str
  cl : List (Str × Addr)
def FX.cs (F : FX) : List Addr := F.cl.map (·.2)
def FxO (f : Addr) (F : FX) : HO := .ext fun h => ∃ (od : Option Addr) (sl : Array (Option Value)) (doc pm ctv : Value), h.get? f = some (⟨.type "function", od, .func (F.fd doc pm ctv), sl⟩ : Obj)
def FX.of (F : NF) : FX := ⟨F.fd, F.c, F.qual, F.cl⟩
theorem fx_of {f : Addr} {F : NF} : FxO f (FX.of F) = FnO f F := rfl
theorem fxO_at {P : Program} {w : World} {H : Hp} {h : Heap} {f : Addr} {F : FX} (hok : HOk P w H h) (e : H f = some (FxO f F)) : ∃ (od : Option Addr) (sl : Array (Option Value)) (doc pm ctv : Value), h.get? f = some (⟨.type "function", od, .func (F.fd doc pm ctv), sl⟩ : Obj) := (hok f _ e).1
/-- the function F at f, ws what it captured under the names fr -/
structure Clo (H : Hp) (f : Addr) (F : FX) (fr : List Str) (ws : List V) : Prop where
  fn : H f = some (FxO f F)
  code : H F.c = some (CodeO F.c F.qual)
  pins : ∀ p ∈ F.cl, ∃ o v, H p.2 = some (PinO p.2 o) ∧ o.data = .cell v
  inj : ∀ x y c, F.cl.lookup x = some c → F.cl.lookup y = some c → x = y
  len : ws.length = fr.length
  has : ∀ (i : Nat) (y : Str), fr[i]? = some y → ∃ c o u v, F.cl.lookup y = some c ∧ H c = some (PinO c o) ∧ o.data = .cell (some u) ∧ ws[i]? = some v ∧ RelV v u
section
variable {H H' : Hp} {f : Addr} {F : FX} {fr : List Str} {ws : List V}
theorem Clo.pinned (C : Clo H f F fr ws) : Pinned F.cs H := fun c hc => by
  obtain ⟨p, hp, rfl⟩ := List.mem_map.mp hc
  obtain ⟨o, v, h, _⟩ := C.pins p hp
  exact ⟨o, h⟩
theorem Clo.mono (C : Clo H f F fr ws) (e : ∀ b φ, H b = some (.ext φ) → H' b = some (.ext φ)) : Clo H' f F fr ws :=
  ⟨e _ _ C.fn, e _ _ C.code, fun p hp => let ⟨o, v, h, d⟩ := C.pins p hp; ⟨o, v, e _ _ h, d⟩, C.inj, C.len, fun i y hy => let ⟨c, o, u, v, h1, h2, h3⟩ := C.has i y hy; ⟨c, o, u, v, h1, e _ _ h2, h3⟩⟩
theorem Clo.same (C : Clo H f F fr ws) (e : Same H H') : Clo H' f F fr ws := C.mono fun b φ h => e _ _ h
theorem Clo.ext (C : Clo H f F fr ws) (e : ExtN H H') : Clo H' f F fr ws := C.mono fun b φ h => e _ _ h (by intro ps z; cases z)
theorem Clo.but {l : Addr} {ys : List V} (C : Clo H f F fr ws) (e : But l H H') (hl : H l = some (.lst ys)) : Clo H' f F fr ws := C.mono fun b φ h => e _ _ (ne_of h hl (by intro z; cases z)) h
theorem Clo.butI {l C dx : Addr} {fs : List (Str × V)} (C' : Clo H f F fr ws) (e : But l H H') (hl : H l = some (.ins C dx fs)) : Clo H' f F fr ws := C'.mono fun b φ h => e _ _ (ne_of h hl (by intro z; cases z)) h
end
/-- what a function made so promises, its cells known -/
structure XOk (P : Program) (w : World) (K : PySem.W.Frag) (mg : Str → Option Value) (base : Heap) (k : Nat) (f : Addr) (F : FX) (ps fr : List Str) (sp : List (Option V) → Sp) : Prop where
  run : ∀ (A : Around) (outer : List Env) (s : Shared) (H : Hp) (us : List Value) (vs : List V) (ws : List (Option V)) (Q : VK) (E : XK), Room k A → Env0 P w K mg base A outer s H → H f = some (FxO f F) → H F.c = some (CodeO F.c F.qual) →
    CellsAt F.cl fr ws s.heap H → Vals vs us → sp ws vs H Q E → codeAny (model P w) A (.call (.ref f) ⟨us, []⟩) (CR (L2.CX P w) outer P w H s Q E) s
theorem XOk.of {P : Program} {w : World} {K : PySem.W.Frag} {mg : Str → Option Value} {base : Heap} {k : Nat} {f : Addr} {F : NF} {ps fr : List Str} {sp : List (Option V) → Sp} (o : NOk P w K mg base (L2.CX P w) k f F ps fr sp) : XOk P w K mg base k f (FX.of F) ps fr sp :=
  ⟨fun A outer s H us vs ws Q E hr e0 hf hc C r q => o.run A outer s H us vs ws Q E hr e0 hf hc C r q⟩
theorem stay_ext {P : Program} {w : World} {H H' : Hp} {h : Heap} {a : Addr} {o : HO} (x : ObjOk P w H h a o) (e : ∀ b u, H b = some u → (∀ φ, u ≠ .ext φ) → H' b = some u) : ObjOk P w H' h a o :=
  x.stay (fun _ _ _ q => q) (fun b q => e b _ q (by intro φ z; cases z)) fun b xs q => e b _ q (by intro φ z; cases z)
section
variable {P : Program} {w : World} {K : PySem.W.Frag} {mg : Str → Option Value} {base : Heap} {k : Nat} {f : Addr} {F : FX} {ps fr : List Str} {sp : List (Option V) → Sp} {A : Around} {outer : List Env} {s : Shared} {H : Hp} {us : List Value} {vs ws : List V} {Q : VK} {E : XK}
/-- such a function runs -/
theorem clo_run (o : XOk P w K mg base k f F ps fr sp) (C : Clo H f F fr ws) (hr : Room k A) (e0 : Env0 P w K mg base A outer s H) (r : Vals vs us)
    (q : sp (ws.map some) vs (unpin F.cs H) (fun v H' => ∀ H'', RePin F.cs H H' H'' → Q v H'') fun _ _ _ => False) : codeAny (model P w) A (.call (.ref f) ⟨us, []⟩) (CR (L2.CX P w) outer P w H s Q E) s := by
  have pin := C.pinned
  have cellOf : ∀ c ∈ F.cs, ∃ o v, H c = some (PinO c o) ∧ o.data = .cell v ∧ s.heap.get? c = some o := fun c hc => by
    obtain ⟨p, hp, rfl⟩ := List.mem_map.mp hc
    obtain ⟨o, v, h, d⟩ := C.pins p hp
    exact ⟨o, v, h, d, pinO_at e0.hok h⟩
  have nf : f ∉ F.cs := fun z => by
    obtain ⟨o, v, _, d, g⟩ := cellOf f z
    obtain ⟨od, sl, doc, pm, ctv, g2⟩ := fxO_at e0.hok C.fn
    rw [g] at g2
    cases g2
    cases d
  have nc : F.c ∉ F.cs := fun z => by
    obtain ⟨o, v, _, d, g⟩ := cellOf _ z
    obtain ⟨⟨oc, vs, t, g2, d2, _⟩, _, _⟩ := e0.hok _ _ C.code
    rw [g] at g2
    cases g2
    rw [d] at d2
    cases d2
  have lookM : ∀ {y c}, F.cl.lookup y = some c → c ∈ F.cs := fun {y c} e => List.mem_map.mpr ⟨(y, c), PySem.mem_of_lookup e, rfl⟩
  have e1 : Env0 P w K mg base A outer s (unpin F.cs H) := ⟨e0.frames, e0.mod, fun b o e => ⟨(e0.bs b o e).1, unpin_none (e0.bs b o e).2⟩, e0.bsz, e0.funs, fun b hb => unpin_none (e0.frf b hb), fun b u e => by
    obtain ⟨e, hb⟩ := unpin_of e
    exact stay_ext (e0.hok b u e) fun b u h n => unpin_at pin h n, e0.bare⟩
  have CA : CellsAt F.cl fr (ws.map some) s.heap (unpin F.cs H) := by
    refine ⟨by rw [List.length_map]; exact C.len, fun y c e => ⟨unpin_in (lookM e), ?_⟩, C.inj, fun i y hy => ?_⟩
    · obtain ⟨o, v, _, d, g⟩ := cellOf c (lookM e)
      exact ⟨v, o, g, d⟩
    · obtain ⟨c, o, u, v, h1, h2, h3, h4, h5⟩ := C.has i y hy
      refine ⟨c, h1, fun v' e => ⟨u, ?_, o, pinO_at e0.hok h2, h3⟩⟩
      rw [List.getElem?_map, h4] at e
      cases e
      exact h5
  refine codeAny_mono (o.run A outer s (unpin F.cs H) us vs _ _ (fun _ _ _ => False) hr e1 (by rw [unpin_out nf]; exact C.fn) (by rw [unpin_out nc]; exact C.code) CA r q) fun rr s' z => ?_
  cases rr with
  | error e =>
    obtain ⟨_, _, _, _, _, _, _, _, _, _, _, _, z⟩ := z
    exact z.elim
  | ok fl =>
    cases fl with
    | next => exact False.elim z
    | brk => exact False.elim z
    | cont => exact False.elim z
    | ret u =>
      obtain ⟨v, H', os, bare, un, hok, rv, q⟩ := z
      have keepC : ∀ c ∈ F.cs, ∃ o, H c = some (PinO c o) ∧ s'.heap.get? c = some o := fun c hc => by
        obtain ⟨o, v, h, d, g⟩ := cellOf c hc
        have nfr : c ∉ frs outer := fun z => by
          rw [e0.frf c z] at h
          cases h
        exact ⟨o, h, un.keep c o g (unpin_in hc) nfr (by simp)⟩
      have outC : ∀ c ∈ F.cs, H' c = none := fun c hc => by
        obtain ⟨o, v, h, d, g⟩ := cellOf c hc
        exact un.free c o g (unpin_in hc) (by simp)
      have new : ∀ b u, H' b = some u → repin F.cs H H' b = some u := fun b u h => by
        have hb : b ∉ F.cs := fun z => by rw [outC b z] at h; cases h
        rw [repin_out hb]
        exact h
      have nin : ∀ {b}, H b = none → b ∉ F.cs := fun {b} h z => by
        obtain ⟨o, ho⟩ := pin b z
        rw [h] at ho
        cases ho
      refine ⟨v, repin F.cs H H', os, bare, ⟨fun b o g h h1 h2 => un.keep b o g (unpin_none h) h1 h2, fun b o g h h1 h2 => un.slot b o g (unpin_none h) h1 h2, fun b o g h h2 => by rw [repin_out (nin h)]; exact un.free b o g (unpin_none h) h2,
        un.there, fun b xs h => new b _ (un.tups b xs (unpin_at pin h (by intro φ z; cases z))), fun b o u h => new b _ (un.frzs b o u (unpin_at pin h (by intro φ z; cases z))), fun b qs h => ?_⟩, fun b u h => ?_, rv, q _ ⟨rfl, outC⟩⟩
      · obtain ⟨more, h2⟩ := un.tbls b qs (unpin_at pin h (by intro φ z; cases z))
        exact ⟨more, new b _ h2⟩
      · by_cases hb : b ∈ F.cs
        · obtain ⟨o, ho, g⟩ := keepC b hb
          rw [repin_in hb, ho] at h
          cases h
          exact pinO_ok g
        · rw [repin_out hb] at h
          exact stay_ext (hok b u h) fun b u h _ => new b u h
end
/-- functions of one text -/
structure CloCl (P : Program) (w : World) (K : PySem.W.Frag) (mg : Str → Option Value) (base : Heap) (k : Nat) (IsF : FX → Prop) (ps fr : List Str) (sp : List (Option V) → Sp) : Prop where
  ex : ∀ f F, IsF F → XOk P w K mg base k f F ps fr sp
def rClo (IsF : FX → Prop) (fr : List Str) (sp : List (Option V) → Sp) (f : Addr) (vs : List V) (H : Hp) (Q : VK) : Prop := ∃ F ws, IsF F ∧ Clo H f F fr ws ∧ sp (ws.map some) vs (unpin F.cs H) (fun v H' => ∀ H'', RePin F.cs H H' H'' → Q v H'') fun _ _ _ => False
section
variable {X : Cx} {K : PySem.W.Frag} {k j : Nat} {IsF : FX → Prop} {ps fr : List Str} {sp : List (Option V) → Sp} {o e fe : Expr} {es : List Expr} {ta : TE} {t : TA} {m : Str} {apos pos : Pos}
theorem fxAt_of {pins : List (Addr × Obj)} {σ : L2.St} {H : Hp} {s : Shared} {f : Addr} {F : FX} (I : Inv X pins σ H s) (e : H f = some (FxO f F)) : PySem.W.FnAt f s.heap := by
  obtain ⟨od, sl, doc, pm, ctv, ho⟩ := fxO_at I.hok e
  exact ⟨_, od, _, sl, ho⟩
theorem run_clo {pins : List (Addr × Obj)} {σ : L2.St} {H : Hp} {s : Shared} {Q : VK} {us : List Value} {vs : List V} {f : Addr} (c : CloCl X.prog X.w X.K X.mg X.base k IsF ps fr sp) (hr : Room j X.A) (hk : k ≤ j) (I : Inv X pins σ H s) (r : Vals vs us) (q : rClo IsF fr sp f vs H Q) :
    wpAny (model X.prog X.w) X.A (call (.ref f) us) (EP X pins σ Q) X.xe s := by
  obtain ⟨F, ws, hF, C, q⟩ := q
  refine wpAny_call (codeAny_mono (clo_run (E := fun _ _ _ => False) (c.ex f F hF) C (hr.mono hk) I.env0 r q) fun r s' hq => ?_)
  cases r with
  | error e =>
    obtain ⟨_, _, _, _, _, _, _, _, _, _, _, _, z⟩ := hq
    exact z.elim
  | ok fl =>
    cases fl with
    | ret u => exact I.after hq
    | next => exact False.elim hq
    | brk => exact False.elim hq
    | cont => exact False.elim hq
/-- o.m(e, ..), m a field that holds such a function -/
def tFldCall (K : PySem.W.Frag) (m : Str) (IsF : FX → Prop) (fr : List Str) (sp : List (Option V) → Sp) (ta : TE) (t : TA) : TE := fun σ H Q => ta σ H fun x H1 => ∃ (a C dx : Addr) (fs : List (Str × V)) (f : Addr) (F : FX), x = .ref a ∧ H1 a = some (.ins C dx fs) ∧ Cls K C ∧ NoAttr K C m ∧ fs.lookup m = some (.ref f) ∧ H1 f = some (FxO f F) ∧
  t σ H1 fun vs H2 => H2 f = some (FxO f F) ∧ rClo IsF fr sp f vs H2 Q
theorem pfldcall {pl : Sem Bool} (hK : X.K = K) (c : CloCl X.prog X.w K X.mg X.base k IsF ps fr sp) (hr : Room j X.A) (hk : k ≤ j) (he : PE X o ta) (ha : PA X (e :: es) t)
    (hst : starEach (e :: es) X.env = (false, eval e X.env) :: starEach es X.env := by rfl) (hpl : (backTo pos (starEach es X.env)).any (·.1) = false := by rfl)
    (ht : eval (.Call (.Attribute o m apos) (e :: es) [] pos) X.env = (do
      let ov ← eval o X.env
      standAt apos.atName
      let (f, first) ← holding [ov] (getMethod ov m pl)
      callWith pos f first (backTo pos (starEach (e :: es) X.env)) (backToKw pos (keywordEach [] X.env))) := by rfl) :
    PE X (.Call (.Attribute o m apos) (e :: es) [] pos) (tFldCall K m IsF fr sp ta t) := by
  subst hK
  refine ⟨fun pins s σ H Q I h => ?_⟩
  refine PySem.W.methodCall_KW (pl := pl) (thn (he.run pins s σ H _ I h) fun u s1 ⟨x, H1, I1, rx, a, C, dx, fs, f, F, ex, ea, cl, na, l, hf, q⟩ => ?_) ht
  subst ex
  obtain rfl : u = Value.ref a := rx
  refine getmeth_fld I1 ea cl na l fun u s2 I2 ru => ?_
  obtain rfl : u = Value.ref f := ru
  refine PySem.W.callWith_F (first := []) (fxAt_of I2 hf) (thn (ha.run pos pins s2 σ H1 _ I2 q) fun us s3 ⟨vs, H2, I3, r, hf2, q2⟩ => ⟨fxAt_of I3 hf2, ?_⟩) hst hpl
  exact run_clo c hr hk I3 r q2
/-- f(..)(e, ..) -/
def tValCall (IsF : FX → Prop) (fr : List Str) (sp : List (Option V) → Sp) (ta : TE) (t : TA) : TE := fun σ H Q => ta σ H fun x H1 => ∃ (f : Addr) (F : FX), x = .ref f ∧ H1 f = some (FxO f F) ∧ t σ H1 fun vs H2 => H2 f = some (FxO f F) ∧ rClo IsF fr sp f vs H2 Q
theorem pvalcall (c : CloCl X.prog X.w X.K X.mg X.base k IsF ps fr sp) (hr : Room j X.A) (hk : k ≤ j) (he : PE X fe ta) (ha : PA X (e :: es) t)
    (hc : eval (.Call fe (e :: es) [] pos) X.env = (do callWith pos (← eval fe X.env) [] (backTo pos (starEach (e :: es) X.env)) (backToKw pos (keywordEach [] X.env))) := by rfl)
    (hst : starEach (e :: es) X.env = (false, eval e X.env) :: starEach es X.env := by rfl) (hpl : (backTo pos (starEach es X.env)).any (·.1) = false := by rfl) :
    PE X (.Call fe (e :: es) [] pos) (tValCall IsF fr sp ta t) := by
  refine ⟨fun pins s σ H Q I h => ?_⟩
  refine PyProof.Rows.Call_ (thn (he.run pins s σ H _ I h) fun u s1 ⟨x, H1, I1, rx, f, F, ex, hf, q⟩ => ?_) hc
  subst ex
  obtain rfl : u = Value.ref f := rx
  refine PySem.W.callWith_F (first := []) (fxAt_of I1 hf) (thn (ha.run pos pins s1 σ H1 _ I1 q) fun us s3 ⟨vs, H2, I3, r, hf2, q2⟩ => ⟨fxAt_of I3 hf2, ?_⟩) hst hpl
  exact run_clo c hr hk I3 r q2
end
section
variable {σ : L2.St} {H : Hp} {Q : VK} {K : PySem.W.Frag} {IsF : FX → Prop} {fr : List Str} {sp : List (Option V) → Sp} {ta : TE} {t : TA} {m : Str}
def rFldCall (K : PySem.W.Frag) (m : Str) (x : V) (H1 : Hp) (P : Addr → FX → Prop) : Prop := ∃ (a C dx : Addr) (fs : List (Str × V)) (f : Addr) (F : FX), x = .ref a ∧ H1 a = some (.ins C dx fs) ∧ Cls K C ∧ NoAttr K C m ∧ fs.lookup m = some (.ref f) ∧ H1 f = some (FxO f F) ∧ P f F
theorem k_fldcall (q : ta σ H fun x H1 => rFldCall K m x H1 fun f F => t σ H1 fun vs H2 => H2 f = some (FxO f F) ∧ rClo IsF fr sp f vs H2 Q) : tFldCall K m IsF fr sp ta t σ H Q := q
theorem k_fldcallx {a C dx f : Addr} {fs : List (Str × V)} {F : FX} {P : Addr → FX → Prop} (h : H a = some (.ins C dx fs)) (c : Cls K C) (n : NoAttr K C m) (l : fs.lookup m = some (.ref f)) (hf : H f = some (FxO f F)) (q : P f F) : rFldCall K m (.ref a) H P := ⟨a, C, dx, fs, f, F, rfl, h, c, n, l, hf, q⟩
def rValCall (x : V) (H1 : Hp) (P : Addr → FX → Prop) : Prop := ∃ (f : Addr) (F : FX), x = .ref f ∧ H1 f = some (FxO f F) ∧ P f F
theorem k_valcall (q : ta σ H fun x H1 => rValCall x H1 fun f F => t σ H1 fun vs H2 => H2 f = some (FxO f F) ∧ rClo IsF fr sp f vs H2 Q) : tValCall IsF fr sp ta t σ H Q := q
theorem k_valcallx {f : Addr} {F : FX} {P : Addr → FX → Prop} (hf : H f = some (FxO f F)) (q : P f F) : rValCall (.ref f) H P := ⟨f, F, rfl, hf, q⟩
theorem k_clo {f : Addr} {F : FX} {vs ws : List V} (C : Clo H f F fr ws) (hF : IsF F) (q : sp (ws.map some) vs (unpin F.cs H) (fun v H' => ∀ H'', RePin F.cs H H' H'' → Q v H'') fun _ _ _ => False) : H f = some (FxO f F) ∧ rClo IsF fr sp f vs H Q := ⟨C.fn, F, ws, hF, C, q⟩
end
end Gx
/-! ### the def that makes such a function: its end is told with its slots -/
namespace Gx
open PySem PySem.Spec PyProof.Rows L2 LamX NdefX
abbrev TSG := (V → L2.St → Hp → Prop) → L2.St → Hp → Prop
structure PSG (X : Cx) (sts : List Stmt) (t : TSG) : Prop where
  run : ∀ (pins : List (Addr × Obj)) (s : Shared) (σ : L2.St) (H : Hp) (R : V → L2.St → Hp → Prop), Inv X pins σ H s → t R σ H → wpAny (model X.prog X.w) X.A (execs sts X.env) (fun fl s' => match fl with
    | .ret u => ∃ v σ' H', Inv X pins σ' H' s' ∧ RelV v u ∧ R v σ' H'
    | _ => False) X.xe s
section
variable {X : Cx} {st : Stmt} {rest : List Stmt} {t1 : TS} {t2 : TSG} {e : Expr} {te : TE} {pos : Pos}
def gSeq (t1 : TS) (t2 : TSG) : TSG := fun R σ H => t1 { nx := fun σ' H' => t2 R σ' H', rt := fun v H' => ∀ σ', R v σ' H' } σ H
def gRet (te : TE) : TSG := fun R σ H => te σ H fun v H' => R v σ H'
theorem psg_cons (h1 : PS X st t1) (h2 : PSG X rest t2) : PSG X (st :: rest) (gSeq t1 t2) := by
  refine ⟨fun pins s σ H R I h => wpAny_execs_cons (thn (h1.run pins s σ H _ I h) fun fl s1 q => ?_)⟩
  cases fl with
  | next =>
    obtain ⟨σ', H', I', q⟩ := q
    exact h2.run pins s1 σ' H' R I' q
  | ret u =>
    obtain ⟨v, σ', H', I', r, q⟩ := q
    exact ⟨v, σ', H', I', r, q σ'⟩
  | brk =>
    obtain ⟨_, _, _, q⟩ := q
    exact q.elim
  | cont =>
    obtain ⟨_, _, _, q⟩ := q
    exact q.elim
theorem psg_ret (he : PE X e te) : PSG X [.Return (some e) pos] (gRet te) := by
  refine ⟨fun pins s σ H R I h => wpAny_execs_cons (wpAny_Return_some (thn (he.run pins s σ H _ I h) fun u s1 ⟨v, H1, I1, r, q⟩ => ⟨v, σ, H1, I1, r, q⟩))⟩
end
/-- behind the end of such a def: its cells are known -/
structure Gone (env : Env) (N : List Str) (σ : L2.St) (H H' : Hp) : Prop where
  same : Same H H'
  pins : ∀ y c, env.cells.lookup y = some c → ∃ o v, H' c = some (PinO c o) ∧ o.data = .cell v
  inj : ∀ x y c, env.cells.lookup x = some c → env.cells.lookup y = some c → x = y
  has : ∀ (i : Nat) (y : Str) (v : V), N[i]? = some y → σ[i]? = some (some v) → env.scope.names.lookup y = some .cell → ∃ c o u, env.cells.lookup y = some c ∧ H' c = some (PinO c o) ∧ o.data = .cell (some u) ∧ RelV v u
/-- THE RULE: a def of the text whose cells outlive it -/
theorem fn_ofG {P : Program} {w : World} {K : PySem.W.Frag} {mg : Str → Option Value} {base : Heap} {k : Nat} {f : Addr} {name qual : Str} {params : Arguments} {body : List Stmt} {scope : Scope} {dV kV doc pm cdv ct oc : Value} {an od : Option Addr}
    {osl : Array (Option Value)} {N ps : List Str} {sp : Sp} (lk : K.lookup f = some ⟨oc, od, .func (PySem.W.fnOf name qual params body scope dV kV doc pm an cdv ct), osl⟩) (hcd : PySem.W.codeIn K cdv qual = true) (S : FnScope N ps scope)
    (len : ∀ vs H Q E, sp vs H Q E → vs.length = ps.length)
    (hbody : ∀ (A : Around) (outer : List Env) (s : Shared) (H : Hp) (vs : List V) (Q : VK) (E : XK), Room k (A.deeper (envOfC qual scope s.heap.objs.size f cdv)) → sp vs H Q E →
      ∃ t, PSG (cxOf (L2.CX P w) P w K mg base N qual scope f cdv A outer s H E) body t ∧ t (fun v σ' H' => ∀ H'', Gone (envOfC qual scope s.heap.objs.size f cdv) N σ' H' H'' → Q v H'') (L2.start N vs) H) :
    FnOk P w K mg base (L2.CX P w) (k + 1) f (PySem.W.fnOf name qual params body scope dV kV doc pm an cdv ct) ps sp := by
  refine ⟨len, fun A outer s H args us vs Q E hr e0 hb r hsp => ?_⟩
  have hl := len _ _ _ _ hsp
  have KX : K.In s.heap := e0.mod.kin.keeps fun b o e => (e0.bs b o e).1
  have lim : s.heap.NoLimit := e0.mod.nolimit.keeps fun b o e => (e0.bs b o e).1
  have hkind : ∀ y ∈ ps.zip us, scope.names.lookup y.1 = some .local ∨ (scope.names.lookup y.1 = some .cell ∧ ((cellsFrom (s.heap.objs.size + 1) scope.names []).lookup y.1).isSome = true) := fun ⟨n, v⟩ hy => by
    rcases S.par n (List.of_mem_zip hy).1 with q | q
    · exact .inl q
    · exact .inr ⟨q, PySem.W.cellsFrom_some _ _ _ (.inl q)⟩
  refine codeAny_call_function hr.depth (KX _ _ lk) rfl S.co S.gen rfl (PySem.W.codeRec_of KX hcd) (hb _ _ _ _ ?_)
  refine wpAny_newFunctionEnv_cells S.kind hkind fun env he s1 x => ?_
  subst he
  refine ⟨lim.keeps x.toInCall.keep, codeAny_func ?_⟩
  obtain ⟨t, ht, hq⟩ := hbody A outer s H vs Q E (hr.deeper _) hsp
  have I : Inv (cxOf (L2.CX P w) P w K mg base N qual scope f cdv A outer s H E) [] (start N vs) H s1 := inv_start S hr.hd e0 hl r x
  refine wpAny_mono (ht.run [] s1 (start N vs) H _ I hq) (fun fl s' hs => ?_) fun e s' hs => hs
  cases fl with
  | next => exact hs.elim
  | brk => exact hs.elim
  | cont => exact hs.elim
  | ret u =>
    obtain ⟨v, σ', H', J, rv, q⟩ := hs
    obtain ⟨ce, hce⟩ : ∃ ce, ce = cellsFrom (s.heap.objs.size + 1) scope.names [] := ⟨_, rfl⟩
    have ap : ∀ p ∈ ce, ce.lookup p.1 = some p.2 ∨ True := fun _ _ => .inr trivial
    have J1 : ∀ y c, ce.lookup y = some c → ∃ v, s'.heap.IsCell c v := fun y c e => J.cell y c (by rw [hce] at e; exact e)
    have J2 : ∀ y c, ce.lookup y = some c → H' c = none := fun y c e => J.freeC y c (by rw [hce] at e; exact e)
    have J3 : ∀ y c, ce.lookup y = some c → s.heap.objs.size ≤ c := fun y c e => J.ok.cab y c rfl (by rw [hce] at e; exact e)
    obtain ⟨cs, hcs⟩ : ∃ cs : List Addr, ∀ c, c ∈ cs ↔ ∃ y, ce.lookup y = some c := ⟨ce.filterMap fun p => ce.lookup p.1, fun c => by
      constructor
      · intro h
        obtain ⟨p, _, e⟩ := List.mem_filterMap.mp h
        exact ⟨p.1, e⟩
      · rintro ⟨y, e⟩
        exact List.mem_filterMap.mpr ⟨(y, c), PySem.mem_of_lookup e, e⟩⟩
    obtain ⟨H2, hH2⟩ : ∃ H2 : Hp, H2 = fun b => if b ∈ cs then (s'.heap.get? b).map (PinO b) else H' b := ⟨_, rfl⟩
    have inC : ∀ y c, ce.lookup y = some c → ∀ o, s'.heap.get? c = some o → H2 c = some (PinO c o) := fun y c e o g => by
      rw [hH2]
      show (if c ∈ cs then _ else _) = _
      rw [if_pos ((hcs c).mpr ⟨y, e⟩), g]
      rfl
    have outC : ∀ b, b ∉ cs → H2 b = H' b := fun b n => by
      rw [hH2]
      exact if_neg n
    have freeC : ∀ c ∈ cs, H' c = none := fun c h => let ⟨y, e⟩ := (hcs c).mp h; J2 y c e
    have new : ∀ b u, H' b = some u → H2 b = some u := fun b u h => by
      rw [outC b fun z => by rw [freeC b z] at h; cases h]
      exact h
    have old : ∀ b o, s.heap.get? b = some o → b ∉ cs := fun b o g z => by
      obtain ⟨y, e⟩ := (hcs b).mp z
      exact absurd (Nat.lt_of_lt_of_le (Heap.lt_size g) (J3 y b e)) (Nat.lt_irrefl _)
    have un := J.base
    refine ⟨v, H2, J.os, J.bare, ⟨un.keep, un.slot, fun b o g h h2 => by rw [outC b (old b o g)]; exact un.free b o g h h2, un.there, fun b xs h => new b _ (un.tups b xs h), fun b o u h => new b _ (un.frzs b o u h), fun b qs h => ?_⟩, fun b u h => ?_, rv, q H2 ⟨fun b u h => new b u h, fun y c e => ?_, fun y z c e1 e2 => ?_, fun i y v hN hs hk => ?_⟩⟩
    · obtain ⟨more, h2⟩ := un.tbls b qs h
      exact ⟨more, new b _ h2⟩
    · by_cases hb : b ∈ cs
      · obtain ⟨y, e⟩ := (hcs b).mp hb
        obtain ⟨v, o, g, d⟩ := J1 y b e
        rw [inC y b e o g] at h
        cases h
        exact pinO_ok g
      · rw [outC b hb] at h
        exact stay_ext (J.hok b u h) fun b u h _ => new b u h
    · have e : ce.lookup y = some c := by rw [hce]; exact e
      obtain ⟨v, o, g, d⟩ := J1 y c e
      exact ⟨o, v, inC y c e o g, d⟩
    · exact J.ok.inj y z c e1 e2
    · obtain ⟨m, hn, hl⟩ := J.loc
      obtain ⟨u, ru, l⟩ := hl i y v hN hs (.inr (.inl hk))
      rcases l with ⟨z, _⟩ | ⟨_, c, e, o, g, d⟩
      · have z' : scope.names.lookup y = some .local := z
        rw [show scope.names.lookup y = some .cell from hk] at z'
        cases z'
      · have e' : ce.lookup y = some c := by rw [hce]; exact e
        exact ⟨c, o, u, e, inC y c e' o g, d, ru⟩
/-- the function that it made -/
theorem Gone.clo {env : Env} {N : List Str} {σ : L2.St} {H H' : Hp} {f : Addr} {F : FX} {nsc : Scope} {fr : List Str} {js : List Nat} {ws : List V} (g : Gone env N σ H H') (hcl : F.cl = cloFrom env.cells nsc.names []) (hf : H f = some (FxO f F)) (hc : H F.c = some (CodeO F.c F.qual))
    (hnf : ∀ y ∈ nsc.names, y.2 = .free → env.scope.names.lookup y.1 = some .cell) (hhas : ∀ y, env.scope.names.lookup y = some .cell → ∃ c, env.cells.lookup y = some c) (hfr : ∀ y ∈ fr, (y, NameKind.free) ∈ nsc.names) (hjs : js.map (fun j => N[j]?) = fr.map some) (hws : js.map (fun j => σ[j]?) = ws.map fun v => some (some v)) : Clo H' f F fr ws := by
  have hfree : ∀ y ∈ nsc.names, y.2 = .free → ∃ c, env.cells.lookup y.1 = some c := fun y hy e => hhas _ (hnf y hy e)
  have lj : js.length = fr.length := by
    have := congrArg List.length hjs
    simpa using this
  have lw : js.length = ws.length := by
    have := congrArg List.length hws
    simpa using this
  refine ⟨g.same _ _ hf, g.same _ _ hc, fun p hp => ?_, fun x y c e1 e2 => ?_, by omega, fun i y hy => ?_⟩
  · rw [hcl] at hp
    rcases cloFrom_mem hp with z | ⟨h1, h2⟩
    · cases z
    · obtain ⟨c, e⟩ := hfree _ h1 rfl
      have e : env.cells.lookup p.1 = some c := e
      rw [e] at h2
      obtain rfl : p.2 = c := h2
      exact g.pins _ _ e
  · rw [hcl] at e1 e2
    exact g.inj x y c (clo_cm hfree e1) (clo_cm hfree e2)
  · have hj : i < js.length := by rw [lj]; exact (List.getElem?_eq_some_iff.mp hy).1
    have e1 : N[js[i]]? = some y := by
      have q := congrArg (fun l => l[i]?) hjs
      simp only [List.getElem?_map, List.getElem?_eq_getElem hj, hy, Option.map_some] at q
      exact Option.some.inj q
    obtain ⟨v, hv⟩ : ∃ v, ws[i]? = some v := ⟨_, List.getElem?_eq_getElem (by omega)⟩
    have e2 : σ[js[i]]? = some (some v) := by
      have q := congrArg (fun l => l[i]?) hws
      simp only [List.getElem?_map, List.getElem?_eq_getElem hj, hv, Option.map_some] at q
      exact Option.some.inj q
    have hm := hfr y (List.mem_of_getElem? hy)
    obtain ⟨c, o, u, h1, h2, h3, h4⟩ := g.has _ y v e1 e2 (hnf (y, .free) hm rfl)
    exact ⟨c, o, u, v, by rw [hcl]; exact clo_has hfree hm h1, h2, h3, hv, h4⟩
end Gx
namespace Gx
open PySem PySem.Spec PyProof.Rows L2 LamX NdefX
section
variable {X : Cx} {c : Expr} {tc : TT} {a rest : List Stmt} {ta tr : TSG} {pos : Pos}
def gIf (tc : TT) (ta tr : TSG) : TSG := fun R σ H => tc σ H fun b H1 => if b = true then ta R σ H1 else tr R σ H1
/-- an if whose suite returns -/
theorem psg_if (hc : PT X c tc) (ha : PSG X a ta) (hr : PSG X rest tr) : PSG X (.If c a [] pos :: rest) (gIf tc ta tr) := by
  refine ⟨fun pins s σ H R I h => wpAny_execs_cons (wpAny_If (thn (hc.run pins s σ H _ I h) fun d s1 ⟨H1, I1, q1⟩ => ?_))⟩
  cases d with
  | true =>
    refine thn (ha.run pins s1 σ H1 R I1 q1) fun fl s2 z => ?_
    cases fl with
    | ret u => exact z
    | next => exact z.elim
    | brk => exact z.elim
    | cont => exact z.elim
  | false =>
    refine wpAny_execs_nil ?_
    exact hr.run pins s1 σ H1 R I1 q1
end
/-- the maker's table of code objects: the name that each bears -/
def TabK (K : PySem.W.Frag) (H : Hp) (p : He.Defn) (q : Str) : Prop := TabN H (He.cT K p).2 fun _ _ => q
theorem TabK.same {K : PySem.W.Frag} {H H' : Hp} {p : He.Defn} {q : Str} (t : TabK K H p q) (e : Same H H') : TabK K H' p q := TabN.ext t fun b o h => e b o h
theorem TabK.mono {K : PySem.W.Frag} {H H' : Hp} {p : He.Defn} {q : Str} (t : TabK K H p q) (e : ∀ b u, H b = some u → ((∃ φ, u = .ext φ) ∨ ∃ ps, u = .tbl ps) → H' b = some u) : TabK K H' p q := by
  obtain ⟨ps, h1, h2, h3⟩ := t
  refine ⟨ps, e _ _ h1 (.inr ⟨_, rfl⟩), h2, fun pos cv hc => ?_⟩
  obtain ⟨c, e1, e2⟩ := h3 pos cv hc
  exact ⟨c, e1, e _ _ e2 (.inl ⟨_, rfl⟩)⟩
theorem TabK.but {K : PySem.W.Frag} {H H' : Hp} {p : He.Defn} {q : Str} {l : Addr} {ys : List V} (t : TabK K H p q) (e : But l H H') (hl : H l = some (.lst ys)) : TabK K H' p q := t.mono fun b u h z => e _ _ (ne_of h hl (by rintro rfl; rcases z with ⟨_, z⟩ | ⟨_, z⟩ <;> cases z)) h
theorem TabK.butI {K : PySem.W.Frag} {H H' : Hp} {p : He.Defn} {q : Str} {l C dx : Addr} {fs : List (Str × V)} (t : TabK K H p q) (e : But l H H') (hl : H l = some (.ins C dx fs)) : TabK K H' p q := t.mono fun b u h z => e _ _ (ne_of h hl (by rintro rfl; rcases z with ⟨_, z⟩ | ⟨_, z⟩ <;> cases z)) h
theorem TabK.nil {K : PySem.W.Frag} {H : Hp} {p : He.Defn} {q : Str} (h : H (He.cT K p).2 = some (.tbl #[])) : TabK K H p q := TabN.nil h
/-! all but the tables stays -/
theorem up_ext {H H' : Hp} (e : ExtN H H') {a : Addr} {o : HO} (h : H a = some o) (n : ∀ ps, o ≠ .tbl ps) : H' a = some o := e _ _ h n
theorem lst_ext {H H' : Hp} (e : ExtN H H') {a : Addr} {xs : List V} (h : H a = some (.lst xs)) : H' a = some (.lst xs) := e _ _ h (by intro ps z; cases z)
theorem tup_ext {H H' : Hp} (e : ExtN H H') {a : Addr} {xs : List V} (h : H a = some (.tup xs)) : H' a = some (.tup xs) := e _ _ h (by intro ps z; cases z)
theorem ins_ext {H H' : Hp} (e : ExtN H H') {a C dx : Addr} {fs : List (Str × V)} (h : H a = some (.ins C dx fs)) : H' a = some (.ins C dx fs) := e _ _ h (by intro ps z; cases z)
theorem seqT_ext {K : PySem.W.Frag} {H H' : Hp} (e : ExtN H H') {a : Addr} {xs : List V} (h : SqT K H a xs) : SqT K H' a xs := by
  rcases h with (h | ⟨o, h⟩) | h
  · exact .inl (.inl (tup_ext e h))
  · exact .inl (.inr ⟨o, e _ _ h (by intro ps z; cases z)⟩)
  · exact .inr h
theorem seqL_ext {K : PySem.W.Frag} {H H' : Hp} (e : ExtN H H') {a : Addr} {xs : List V} (h : SqL K H a xs) : SqL K H' a xs := by
  rcases h with (h | ⟨o, h⟩) | h
  · exact .inl (.inl (lst_ext e h))
  · exact .inl (.inr ⟨o, e _ _ h (by intro ps z; cases z)⟩)
  · exact .inr h
mutual
theorem dp_ext {K : PySem.W.Frag} {H H' : Hp} (e : ExtN H H') : ∀ {d : PyData} {v : V}, Dp K H v d → Dp K H' v d
  | _, _, .non => .non
  | _, _, .bl b => .bl b
  | _, _, .int i => .int i
  | _, _, .str x => .str x
  | _, _, .lst h a => .lst (seqL_ext e h) (dpAll_ext e a)
  | _, _, .tup h a => .tup (seqT_ext e h) (dpAll_ext e a)
theorem dpAll_ext {K : PySem.W.Frag} {H H' : Hp} (e : ExtN H H') : ∀ {ds : List PyData} {vs : List V}, DpAll K H vs ds → DpAll K H' vs ds
  | _, _, .nil => .nil
  | _, _, .cons h r => .cons (dp_ext e h) (dpAll_ext e r)
end
theorem ext_same {H H' : Hp} (e : Same H H') : ExtN H H' := fun b o h _ => e b o h
/-! making -/
def tMk (K : PySem.W.Frag) (p : He.Defn) (q : Str) (i : Nat) (mk : Addr → NF) : TS := fun D σ H => TabK K H p q ∧ ∀ (f c' : Addr) (H1 : Hp), ExtN H H1 → (∀ b, H1 b = none → H b = none) → TabK K H1 p q → H f = none → H1 f = some (FxO f (FX.of (mk c'))) → H1 c' = some (CodeO c' (mk c').qual) → D.nx (σ.set i (some (.ref f))) H1
theorem ps_mk {X : Cx} {K : PySem.W.Frag} {st : Stmt} {p : He.Defn} {name : Str} {pos : Pos} {i : Nat} (hK : X.K = K) (TB : TabB X.base X.mg (He.cT K p).1 (He.cT K p).2) (hcode : X.env.code = .ref (He.cT K p).1) (hst : st = .FunctionDef name (C8.fnArgs st) (C8.fnBody st) [] none [] (C8.fnScope st) none name pos)
    (hfree : ∀ y ∈ (C8.fnScope st).names, y.2 = .free → X.env.scope.names.lookup y.1 = some .cell ∨ X.env.scope.names.lookup y.1 = some .free) (hd0 : (C8.fnArgs st).defaults = []) (hk0 : (C8.fnArgs st).kw_defaults = []) (ha : annTrees (C8.fnArgs st) none X.env = [])
    (hN : X.N.Nodup) (hi : X.N[i]? = some name) (hx : Loc X.env.scope name) (hf : X.fn name = true ∨ X.env.scope.names.lookup name = some .local) :
    PS X st (tMk K p (X.env.qual ++ name) i (NF.of st name (X.env.qual ++ name) (cloFrom X.env.cells (C8.fnScope st).names []))) := by
  subst hK
  have h := ps_ndefMS (T := [((He.cT X.K p).2, fun _ _ => X.env.qual ++ name)]) hst TB hcode (List.mem_singleton.mpr rfl) rfl (fun z hz _ => by rw [List.mem_singleton.mp hz]) hfree hd0 hk0 ha hN hi hx hf
  refine ⟨fun pins s σ H D I q => h.run pins s σ H D I ⟨fun z hz => ?_, fun f c' H1 e nn T1 f0 f1 c1 => q.2 f c' H1 e nn (T1 _ (List.mem_singleton.mpr rfl)) f0 f1 c1⟩⟩
  rw [List.mem_singleton.mp hz]
  exact q.1
/-- a lambda -/
def FX.lam (params : Arguments) (body : Expr) (scope : Scope) (qual : Str) (cl : List (Str × Addr)) (c : Addr) : FX := ⟨fun _ pm ctv => PySem.W.kla_fn "<lambda>" qual params body scope cl pm (.ref c) ctv, c, qual, cl⟩
def tLamK (K : PySem.W.Frag) (p : He.Defn) (q : Str) (mk : Addr → FX) : TE := fun _ H Q => TabK K H p q ∧ ∀ (f c' : Addr) (H1 : Hp), ExtN H H1 → (∀ b, H1 b = none → H b = none) → TabK K H1 p q → H f = none → H1 f = some (FxO f (mk c')) → H1 c' = some (CodeO c' q) → Q (.ref f) H1
theorem inv_fx {X : Cx} {pins : List (Addr × Obj)} {σ : L2.St} {H : Hp} {s : Shared} {F : FX} {o : Obj} {t' : Nat} {doc pm ctv : Value} (I : Inv X pins σ H s) (ho : o = { cls := .type "function", data := .func (F.fd doc pm ctv) }) :
    Inv X pins σ (upd H s.heap.objs.size (FxO s.heap.objs.size F)) { s with heap := s.heap.push o, toks := t' } := by
  subst ho
  refine I.laid (a := s.heap.objs.size) (fun b u e => Heap.get?_push_of_some _ e) (Nat.le_refl _) ?_
  have e : (s.heap.push ({ cls := .type "function", data := .func (F.fd doc pm ctv) } : Obj)).get? s.heap.objs.size = some ({ cls := .type "function", data := .func (F.fd doc pm ctv) } : Obj) := Heap.get?_push_size _ rfl
  exact ⟨⟨_, _, doc, pm, ctv, e⟩, ⟨_, e⟩, fun h1 h2 ⟨od, sl, d, p, t, z⟩ st => ⟨od, sl, d, p, t, st _ z⟩⟩
theorem pe_lam {X : Cx} {K : PySem.W.Frag} {p : He.Defn} {params : Arguments} {body : Expr} {scope : Scope} {pos : Pos} (hK : X.K = K) (TB : TabB X.base X.mg (He.cT K p).1 (He.cT K p).2) (hcode : X.env.code = .ref (He.cT K p).1) (hdef : defaultsOf params X.env = ([], []))
    (hfree : ∀ y ∈ scope.names, y.2 = .free → X.env.scope.names.lookup y.1 = some .cell ∨ X.env.scope.names.lookup y.1 = some .free) :
    PE X (.Lambda params body scope pos) (tLamK K p (X.env.qual ++ "<lambda>") (FX.lam params body scope (X.env.qual ++ "<lambda>") (cloFrom X.env.cells scope.names []))) := by
  subst hK
  refine ⟨fun pins s σ H Q I h => ?_⟩
  obtain ⟨⟨ps, hP, ht, ha⟩, h⟩ := h
  have hfr : ∀ y ∈ scope.names, y.2 = .free → ∃ c, X.env.cells.lookup y.1 = some c := fun y hy e => (hfree y hy e).elim (fun z => I.ok.has _ (.inl z)) fun z => I.ok.has _ (.inr z)
  generalize hPP : (He.cT X.K p).2 = P at *
  refine PySem.W.kla_eval hdef ?_
  have bP : s.heap.BuiltinsAt X.mg P := TB.bm.keeps I.bk
  have hP' : s.heap.get? P = some { cls := .none, data := .fields ps } := I.hok P _ hP
  have tk : ∀ H, TabN H P (fun _ _ => X.env.qual ++ "<lambda>") → TabK X.K H p (X.env.qual ++ "<lambda>") := fun H t => by unfold TabK; rw [hPP]; exact t
  cases hc : codeAmong pos ps.toList with
  | none =>
    refine PySem.W.kla_makeFunction (mg := X.mg) (c := (He.cT X.K p).1) (P := P) (ps := ps) (closure_ok hfr) I.ok.glob (I.mod.glob.keeps I.bk) hcode (TB.code.keeps I.bk) hP' ht hc TB.gP bP fun c' ctv h' tk' hx hge hlt hrec htb => ?_
    obtain ⟨c2, oc, vs, t, e2, hoc, hd, hv⟩ := hrec
    cases e2
    have nC : H c' = none := I.hok.fresh hge
    have I1 := inv_table (t' := tk') (more := #[rawInt pos.line, rawInt pos.col, .ref c']) (h' := h') I hP (fun b o hb e => hx b o hb e) htb hge ⟨oc, vs, t, hoc, hd, hv⟩
    have hE : ExtN H (upd (upd H P (.tbl (ps ++ #[rawInt pos.line, rawInt pos.col, .ref c']))) c' (CodeO c' (X.env.qual ++ "<lambda>"))) := fun b o e n => by
      rw [upd_ne (ne_of_none e nC), upd_ne (fun z => n ps (Option.some.inj (e.symm.trans (by rw [z]; exact hP))))]
      exact e
    have eL : (ps ++ #[rawInt pos.line, rawInt pos.col, .ref c']).toList = ps.toList ++ [rawInt pos.line, rawInt pos.col, .ref c'] := by simp
    have T1 : TabN (upd (upd H P (.tbl (ps ++ #[rawInt pos.line, rawInt pos.col, .ref c']))) c' (CodeO c' (X.env.qual ++ "<lambda>"))) P fun _ _ => X.env.qual ++ "<lambda>" := by
      refine ⟨_, by rw [upd_ne (ne_of_none hP nC), upd_same], by rw [eL]; exact PySem.TriplesOk_snoc _ _ _ _ ht, fun p' cv hcv => ?_⟩
      rw [eL] at hcv
      rcases among_app2 _ ht hcv with z | ⟨z, z1, z2⟩
      · obtain ⟨c0, e1, e2⟩ := ha p' cv z
        exact ⟨c0, e1, hE _ _ e2 codeO_ne⟩
      · exact ⟨c', z, upd_same⟩
    have nF := I1.hok.fresh (Nat.le_refl _)
    have I2 := inv_fx (F := FX.lam params body scope (X.env.qual ++ "<lambda>") (cloFrom X.env.cells scope.names []) c') (o := PySem.W.kla_obj "<lambda>" (X.env.qual ++ "<lambda>") params body scope (cloFrom X.env.cells scope.names []) ((X.mg "__name__").getD .none) c' ctv) (t' := tk') (doc := .none) (pm := (X.mg "__name__").getD .none) (ctv := ctv) I1 rfl
    refine ⟨.ref h'.objs.size, _, I2, rfl, h h'.objs.size c' _ (fun b o e n => ?_) (fun b e => upd_none (upd_none (upd_none e))) (tk _ (T1.ext fun b o e => ?_)) (I.hok.fresh (Nat.le_trans hge (Nat.le_of_lt hlt))) upd_same ?_⟩
    · have e1 := hE b o e n
      exact (upd_ne (ne_of_none e1 nF)).trans e1
    · exact (upd_ne (ne_of_none e nF)).trans e
    · exact (upd_ne (Nat.ne_of_lt hlt)).trans upd_same
  | some cv =>
    obtain ⟨c', e, hco⟩ := ha pos cv hc
    subst e
    refine PySem.W.kla_makeFunctionHit (mg := X.mg) (c := (He.cT X.K p).1) (P := P) (ps := ps) (closure_ok hfr) I.ok.glob (I.mod.glob.keeps I.bk) hcode (TB.code.keeps I.bk) hP' ht hc bP fun ctv h' tk' hx hsz => ?_
    have I1 : Inv X pins σ H { s with heap := h', toks := tk' } := I.kept hx
    have nF : H h'.objs.size = none := I1.hok.fresh (Nat.le_refl _)
    have I2 := inv_fx (F := FX.lam params body scope (X.env.qual ++ "<lambda>") (cloFrom X.env.cells scope.names []) c') (o := PySem.W.kla_obj "<lambda>" (X.env.qual ++ "<lambda>") params body scope (cloFrom X.env.cells scope.names []) ((X.mg "__name__").getD .none) c' ctv) (t' := tk') (doc := .none) (pm := (X.mg "__name__").getD .none) (ctv := ctv) I1 rfl
    refine ⟨.ref h'.objs.size, _, I2, rfl, h h'.objs.size c' _ (fun b o e n => ?_) (fun b e => upd_none e) (tk _ (TabN.ext ⟨ps, hP, ht, ha⟩ fun b o e => ?_)) nF upd_same ?_⟩
    · exact (upd_ne (ne_of_none e nF)).trans e
    · exact (upd_ne (ne_of_none e nF)).trans e
    · exact (upd_ne (ne_of_none hco nF)).trans hco
/-- THE RULE: a lambda by its body -/
theorem xok_lam {P : Program} {w : World} {K : PySem.W.Frag} {mg : Str → Option Value} {base : Heap} {k : Nat} {f c : Addr} {params : Arguments} {body : Expr} {scope : Scope} {qual : Str} {cl : List (Str × Addr)} {N ps fr : List Str} {sp : List (Option V) → Sp} (S : NScope N ps fr scope)
    (hb : ∀ (pm ctv : Value) (us : List Value), us.length = ps.length → bindArgs (PySem.W.kla_fn "<lambda>" qual params body scope cl pm (.ref c) ctv) ⟨us, []⟩ = pure (ps.zip us)) (len : ∀ ws vs H Q E, sp ws vs H Q E → vs.length = ps.length)
    (hbody : ∀ (A : Around) (outer : List Env) (s : Shared) (H : Hp) (vs : List V) (ws : List (Option V)) (Q : VK) (E : XK), Room k (A.deeper (envF ⟨"<lambda>", qual, params, [], scope, cl, c⟩ f s.heap.objs.size)) → ws.length = fr.length → sp ws vs H Q E →
      ∃ t, PE (ncx (L2.CX P w) P w K mg base N ⟨"<lambda>", qual, params, [], scope, cl, c⟩ f A outer s H E) body t ∧ t (startF N vs ws) H Q) :
    XOk P w K mg base (k + 1) f (FX.lam params body scope qual cl c) ps fr sp := by
  refine ⟨fun A outer s H us vs ws Q E hr e0 hf hc C r hsp => ?_⟩
  have hl := len _ _ _ _ _ hsp
  have lim : s.heap.NoLimit := e0.mod.nolimit.keeps fun b o e => (e0.bs b o e).1
  obtain ⟨od, sl, doc, pm, ctv, ho⟩ := fxO_at e0.hok hf
  refine PySem.W.kla_callFunE hr.depth ho rfl S.co S.gen rfl (codeO_at e0.hok hc) ?_
  rw [show bindArgs ((FX.lam params body scope qual cl c).fd doc pm ctv) ⟨us, []⟩ = pure (ps.zip us) from hb pm ctv us (by rw [← r.length]; exact hl)]
  refine wpAny_pure (wpAny_newFunctionEnv S.nocell (fun ⟨n, _⟩ hy => S.par n (List.of_mem_zip hy).1) (fun h₁ hns hsb => ⟨lim.fresh _ hsb, ?_⟩) S.kind)
  show codeAny _ _ (.expr body (envF ⟨"<lambda>", qual, params, [], scope, cl, c⟩ f s.heap.objs.size)) _ _
  have kp : ∀ b o, s.heap.get? b = some o → h₁.get? b = some o := fun b o e => hsb.extBut b o (Nat.ne_of_lt (Heap.lt_size e)) (Heap.get?_push_of_some _ e)
  obtain ⟨t, ht, hq⟩ := hbody A outer s H vs ws Q E (hr.deeper _) C.len hsp
  have I : Inv (ncx (L2.CX P w) P w K mg base N ⟨"<lambda>", qual, params, [], scope, cl, c⟩ f A outer s H E) [] (startF N vs ws) H { s with heap := h₁, toks := s.toks + (ps.zip us).length } := inv_startN (F := ⟨"<lambda>", qual, params, [], scope, cl, c⟩) S hr.hd e0 hl r C hns kp
  refine PySem.W.kla_codeExpr (wpAny_mono (ht.run [] _ (startF N vs ws) H Q I hq) (fun v s' hq => ?_) fun e s' hq => hq)
  obtain ⟨w', H', J, rv, q⟩ := hq
  exact ⟨w', H', J.os, J.bare, J.base, J.hok, rv, q⟩
/-- a maker by its text -/
theorem FunD.okG {P : Program} {w : World} {K : PySem.W.Frag} {mg : Str → Option Value} {base : Heap} {x qual : Str} {params : Arguments} {body : List Stmt} {scope : Scope} {dvs : List V} {kws : List (Str × V)} {p : He.Defn} {fd : FuncData} {N ps : List Str} {k : Nat} {sp : Sp}
    (F : FunD K x qual params body scope dvs kws (He.fAd K p) fd) (S : FnScope N ps scope) (len : ∀ vs H Q E, sp vs H Q E → vs.length = ps.length)
    (hbody : ∀ (cdv : Value) (A : Around) (outer : List Env) (s : Shared) (H : Hp) (vs : List V) (Q : VK) (E : XK), cdv = .ref (He.cT K p).1 → Room k (A.deeper (envOfC qual scope s.heap.objs.size (He.fAd K p) cdv)) → sp vs H Q E →
      ∃ t, PSG (cxOf (L2.CX P w) P w K mg base N qual scope (He.fAd K p) cdv A outer s H E) body t ∧ t (fun v σ' H' => ∀ H'', Gone (envOfC qual scope s.heap.objs.size (He.fAd K p) cdv) N σ' H' H'' → Q v H'') (start N vs) H) : FnOk P w K mg base (L2.CX P w) (k + 1) (He.fAd K p) fd ps sp := by
  obtain ⟨oc, od, dV, kV, doc, pm, an, cdv, ct, osl, rfl, lk, hcd, _, _⟩ := F.ex
  obtain ⟨c, hc⟩ := He.codeIn_ref hcd
  have e : cdv = .ref (He.cT K p).1 := by
    rw [hc]
    exact congrArg Value.ref (He.codeOf_eq lk hc).symm
  exact fn_ofG lk hcd S len fun A outer s H vs Q E hr hsp => hbody cdv A outer s H vs Q E e hr hsp
/-! the head's hook with the makers' tables -/
structure TabsOk (tf : List He.Defn) (K : PySem.W.Frag) (h : Heap) : Prop where
  hd : ∀ p ∈ tf, PySem.W.codeHdIn K (He.cT K p).1 (He.cT K p).2 = true
  out : ∀ p ∈ tf, K.lookup (He.cT K p).2 = none
  empty : ∀ p ∈ tf, h.get? (He.cT K p).2 = some { cls := .none, data := .fields #[] }
def obsT (n : Nat) (fa : List He.Fa) (fn : List He.DefD) (ex : PySem.W.Frag → Bool) (tf : List He.Defn) (g : Addr → Option Obj) : He.AlD × Bool := (He.obsD fa fn (He.frT g (reachS g n)), ex (He.frT g (reachS g n)) && He.tabsB g tf (He.frT g (reachS g n)))
def hookT (n : Nat) (fa : List He.Fa) (fn : List He.DefD) (ex : PySem.W.Frag → Bool) (tf : List He.Defn) : PySem.W.Hook where
  α := He.AlD × Bool
  obs s := obsT n fa fn ex tf s.heap.get?
  val _ := (He.valD fn, true)
  says _ h := ∃ K : PySem.W.Frag, K.In h ∧ He.SaysD fa fn K ∧ ex K = true ∧ TabsOk tf K h
  of _ s e := by
    have e1 := congrArg (fun z : He.AlD × Bool => z.1) e
    have e2 := congrArg (fun z : He.AlD × Bool => z.2) e
    obtain ⟨h1, h2⟩ := He.ba (show (ex (He.frT s.heap.get? (reachS s.heap.get? n)) && He.tabsB s.heap.get? tf (He.frT s.heap.get? (reachS s.heap.get? n))) = true from e2)
    have key : ∀ p ∈ tf, PySem.W.codeHdIn (He.frT s.heap.get? (reachS s.heap.get? n)) (He.cT (He.frT s.heap.get? (reachS s.heap.get? n)) p).1 (He.cT (He.frT s.heap.get? (reachS s.heap.get? n)) p).2 = true ∧ ∃ o, s.heap.get? (He.cT (He.frT s.heap.get? (reachS s.heap.get? n)) p).2 = some o ∧ He.emptyTab o = true := fun p hp => by
      obtain ⟨h3, h4⟩ := He.ba (List.all_eq_true.mp h2 p hp)
      refine ⟨h3, ?_⟩
      cases q : s.heap.get? (He.cT (He.frT s.heap.get? (reachS s.heap.get? n)) p).2 with
      | none => rw [q] at h4; cases h4
      | some o => rw [q] at h4; exact ⟨o, rfl, h4⟩
    exact ⟨_, He.frT_in, e1, h1, ⟨fun p hp => (key p hp).1, fun p hp => by
      obtain ⟨_, o, q, z⟩ := key p hp
      exact He.frT_none q z, fun p hp => by
      obtain ⟨_, o, q, z⟩ := key p hp
      rw [q, He.emptyTab_eq z]⟩⟩
  keeps := fun _ _ _ ⟨K, hK, c1, c2, t⟩ k => ⟨K, PySem.W.Frag.In.keeps hK k, c1, c2, ⟨t.hd, t.out, fun p hp => k _ _ (t.empty p hp)⟩⟩
theorem obsT_eq {n : Nat} {fa : List He.Fa} {fn : List He.DefD} {ex : PySem.W.Frag → Bool} {tf : List He.Defn} {g : Addr → Option Obj} {s : Shared} (h : ∀ a, g a = s.heap.get? a) : obsT n fa fn ex tf g = (hookT n fa fn ex tf).obs s := by
  obtain rfl : g = s.heap.get? := funext h
  rfl
/-- the same, its addresses given -/
def obsTA (as : List Addr) (fa : List He.Fa) (fn : List He.DefD) (ex : PySem.W.Frag → Bool) (tf : List He.Defn) (g : Addr → Option Obj) : He.AlD × Bool := (He.obsD fa fn (He.frT g as), ex (He.frT g as) && He.tabsB g tf (He.frT g as))
def hookTA (as : List Addr) (fa : List He.Fa) (fn : List He.DefD) (ex : PySem.W.Frag → Bool) (tf : List He.Defn) : PySem.W.Hook where
  α := He.AlD × Bool
  obs s := obsTA as fa fn ex tf s.heap.get?
  val _ := (He.valD fn, true)
  says _ h := ∃ K : PySem.W.Frag, K.In h ∧ He.SaysD fa fn K ∧ ex K = true ∧ TabsOk tf K h
  of _ s e := by
    have e1 := congrArg (fun z : He.AlD × Bool => z.1) e
    have e2 := congrArg (fun z : He.AlD × Bool => z.2) e
    obtain ⟨h1, h2⟩ := He.ba (show (ex (He.frT s.heap.get? as) && He.tabsB s.heap.get? tf (He.frT s.heap.get? as)) = true from e2)
    have key : ∀ p ∈ tf, PySem.W.codeHdIn (He.frT s.heap.get? as) (He.cT (He.frT s.heap.get? as) p).1 (He.cT (He.frT s.heap.get? as) p).2 = true ∧ ∃ o, s.heap.get? (He.cT (He.frT s.heap.get? as) p).2 = some o ∧ He.emptyTab o = true := fun p hp => by
      obtain ⟨h3, h4⟩ := He.ba (List.all_eq_true.mp h2 p hp)
      refine ⟨h3, ?_⟩
      cases q : s.heap.get? (He.cT (He.frT s.heap.get? as) p).2 with
      | none => rw [q] at h4; cases h4
      | some o => rw [q] at h4; exact ⟨o, rfl, h4⟩
    exact ⟨_, He.frT_in, e1, h1, ⟨fun p hp => (key p hp).1, fun p hp => by
      obtain ⟨_, o, q, z⟩ := key p hp
      exact He.frT_none q z, fun p hp => by
      obtain ⟨_, o, q, z⟩ := key p hp
      rw [q, He.emptyTab_eq z]⟩⟩
  keeps := fun _ _ _ ⟨K, hK, c1, c2, t⟩ k => ⟨K, PySem.W.Frag.In.keeps hK k, c1, c2, ⟨t.hd, t.out, fun p hp => k _ _ (t.empty p hp)⟩⟩
theorem obsTA_eq {as : List Addr} {fa : List He.Fa} {fn : List He.DefD} {ex : PySem.W.Frag → Bool} {tf : List He.Defn} {g : Addr → Option Obj} {s : Shared} (h : ∀ a, g a = s.heap.get? a) : obsTA as fa fn ex tf g = (hookTA as fa fn ex tf).obs s := by
  obtain rfl : g = s.heap.get? := funext h
  rfl
end Gx
namespace Gx
open PySem PySem.Spec PyProof.Rows L2 LamX NdefX
section
variable {σ : L2.St} {H : Hp} {R : V → L2.St → Hp → Prop} {t1 : TS} {t2 ta tr : TSG} {te : TE} {tc : TT}
theorem k_gSeq (q : t1 { nx := fun σ' H' => t2 R σ' H', rt := fun v H' => ∀ σ', R v σ' H' } σ H) : gSeq t1 t2 R σ H := q
theorem k_gRet (q : te σ H fun v H' => R v σ H') : gRet te R σ H := q
theorem k_gIf (q : tc σ H fun b H1 => if b = true then ta R σ H1 else tr R σ H1) : gIf tc ta tr R σ H := q
end
def subStmt : Stmt → Nat → Stmt
  | .If _ b _ _, i => b.getD i (.Pass ⟨0, 0, 0, 0⟩)
  | s, _ => s
def lamIn : Stmt → Expr
  | .Return (some (.Call _ (l :: _) _ _)) _ => l
  | _ => .Constant .none 0 ⟨0, 0, 0, 0⟩
def lamArgs : Expr → Arguments
  | .Lambda a _ _ _ => a
  | _ => ⟨[], [], none, [], [], none, []⟩
def lamBody : Expr → Expr
  | .Lambda _ b _ _ => b
  | e => e
def lamScope : Expr → Scope
  | .Lambda _ _ s _ => s
  | _ => { kind := .function, names := [], isGenerator := false, isCoroutine := false }
end Gx
namespace Gx
open PySem PySem.Spec PyProof.Rows L2 LamX NdefX
theorem Clo.imm {H H' : Hp} {f : Addr} {F : FX} {fr : List Str} {ws : List V} (C : Clo H f F fr ws) (e : Imm H H') : Clo H' f F fr ws := C.mono fun b φ h => e _ _ h trivial
theorem imm_ext {H H' : Hp} (e : ExtN H H') : Imm H H' := fun a o h f => e a o h (by rintro ps rfl; exact f)
theorem frz_unpin {cs : List Addr} {H : Hp} (p : Pinned cs H) {l : Addr} {o : Obj} {u : HO} (h : H l = some (.frz o u)) : unpin cs H l = some (.frz o u) := unpin_at p h (by intro φ z; cases z)
end Gx
namespace Lw
open PySem PySem.Spec PyProof.Rows L2 Gx
theorem pairedT_unpin {K : PySem.W.Frag} {cs : List Addr} {H : Hp} (p : Pinned cs H) {α : Type} {f : α → List V} : ∀ {vs : List V} {qs : List α}, PySem.Paired (fun v q => ∃ p, v = V.ref p ∧ SqT K H p (f q)) vs qs → PySem.Paired (fun v q => ∃ p, v = V.ref p ∧ SqT K (unpin cs H) p (f q)) vs qs
  | _, _, .nil => .nil
  | _, _, .cons ⟨a, h, g⟩ r => .cons ⟨a, h, seqT_unpin p g⟩ (pairedT_unpin p r)
end Lw
namespace Gx
open PySem PySem.Spec PyProof.Rows L2 LamX NdefX
def ndefC (sc nsc : Scope) (fr : List Str) : Bool := (nsc.names.all fun y => !decide (y.2 = .free) || decide (sc.names.lookup y.1 = some .cell)) && fr.all fun y => decide ((y, NameKind.free) ∈ nsc.names)
theorem Gone.made {N : List Str} {σ : L2.St} {H H' : Hp} {f a L : Addr} {F : FX} {q : Str} {sc nsc : Scope} {cd : Value} {fr : List Str} {js : List Nat} {ws : List V} (g : Gone (envOfC q sc L a cd) N σ H H') (h : ndefC sc nsc fr = true) (hcl : F.cl = cloFrom (envOfC q sc L a cd).cells nsc.names []) (hf : H f = some (FxO f F)) (hc : H F.c = some (CodeO F.c F.qual))
    (hjs : js.map (fun j => N[j]?) = fr.map some) (hws : js.map (fun j => σ[j]?) = ws.map fun v => some (some v)) : Clo H' f F fr ws := by
  unfold ndefC at h
  simp only [Bool.and_eq_true, Bool.or_eq_true, Bool.not_eq_true', decide_eq_true_eq, decide_eq_false_iff_not, List.all_eq_true] at h
  refine g.clo hcl hf hc (fun y hy e => ?_) (fun y hy => cell_has hy) h.2 hjs hws
  rcases h.1 y hy with z | z
  · exact absurd e z
  · exact z
end Gx
namespace Gx
open PySem PySem.Spec PyProof.Rows L2 LamX NdefX
theorem TabK.but2 {K : PySem.W.Frag} {H H' : Hp} {p : He.Defn} {q : Str} {l m C dx : Addr} {fs : List (Str × V)} {ys : List V} (t : TabK K H p q) (e : But2 l m H H') (hl : H l = some (.ins C dx fs)) (hm : H m = some (.lst ys)) : TabK K H' p q :=
  t.mono fun b u h z => e _ _ (ne_of h hl (by rintro rfl; rcases z with ⟨_, z⟩ | ⟨_, z⟩ <;> cases z)) (ne_of h hm (by rintro rfl; rcases z with ⟨_, z⟩ | ⟨_, z⟩ <;> cases z)) h
end Gx
/-! ### a frame whose functions run while it lives: its cells are lent to the defs that it calls -/
namespace Gx
open PySem PySem.Spec PyProof.Rows L2 LamX NdefX
structure Lent (env : Env) (N : List Str) (σ : L2.St) (cs : List Addr) (H H' : Hp) : Prop where
  gone : Gone env N σ H H'
  out : ∀ c ∈ cs, H c = none
  cel : ∀ c, c ∈ cs ↔ ∃ y, env.cells.lookup y = some c
  oth : ∀ b, b ∉ cs → H' b = H b
theorem Lent.at {env : Env} {N : List Str} {σ : L2.St} {cs : List Addr} {H H' : Hp} (l : Lent env N σ cs H H') {b : Addr} {o : HO} (h : H' b = some o) (n : ∀ φ, o ≠ .ext φ) : H b = some o := by
  by_cases hb : b ∈ cs
  · obtain ⟨y, e⟩ := (l.cel b).mp hb
    obtain ⟨o', v, h', _⟩ := l.gone.pins y b e
    rw [h] at h'
    exact absurd (Option.some.inj h') (n _)
  · rw [← l.oth b hb]; exact h
theorem Lent.nin {env : Env} {N : List Str} {σ : L2.St} {cs : List Addr} {H H' : Hp} (l : Lent env N σ cs H H') {b : Addr} {o : HO} (h : H b = some o) : b ∉ cs := fun z => by rw [l.out b z] at h; cases h
/-- the cells given back -/
theorem unpin_same {cs : List Addr} {H H' : Hp} (e : Same H H') (n : ∀ c ∈ cs, H c = none) : Same H (unpin cs H') := fun b o h => by
  rw [unpin_out fun z => by rw [n b z] at h; cases h]
  exact e b o h
section
variable {X : Cx} {k : Nat} {f : Addr} {fd : FuncData} {ps : List Str} {sp : Sp}
theorem run_lend {pins : List (Addr × Obj)} {σ : L2.St} {H : Hp} {s : Shared} {Q : VK} {us : List Value} {vs : List V} (F : FnOk X.prog X.w X.K X.mg X.base (L2.CX X.prog X.w) k f fd ps sp) (hr : Room k X.A) (hb : Binds X.K fd ps []) (hfn : ∀ y, X.fn y = true)
    (I : Inv X pins σ H s) (r : Vals vs us) (q : ∀ cs H2, Lent X.env X.N σ cs H H2 → sp vs H2 (fun v H3 => (∀ c ∈ cs, H3 c = H2 c) ∧ Q v (unpin cs H3)) fun _ _ _ => False) : wpAny (model X.prog X.w) X.A (call (.ref f) us) (EP X pins σ Q) X.xe s := by
  obtain ⟨ce, hce⟩ : ∃ ce, ce = X.env.cells := ⟨_, rfl⟩
  obtain ⟨cs, hcs⟩ : ∃ cs : List Addr, ∀ c, c ∈ cs ↔ ∃ y, ce.lookup y = some c := ⟨ce.filterMap fun p => ce.lookup p.1, fun c => by
    constructor
    · intro h
      obtain ⟨p, _, e⟩ := List.mem_filterMap.mp h
      exact ⟨p.1, e⟩
    · rintro ⟨y, e⟩
      exact List.mem_filterMap.mpr ⟨(y, c), PySem.mem_of_lookup e, e⟩⟩
  subst hce
  obtain ⟨H2, hH2⟩ : ∃ H2 : Hp, H2 = fun b => if b ∈ cs then (s.heap.get? b).map (PinO b) else H b := ⟨_, rfl⟩
  have inC : ∀ c ∈ cs, ∀ o, s.heap.get? c = some o → H2 c = some (PinO c o) := fun c h o g => by
    rw [hH2]
    show (if c ∈ cs then _ else _) = _
    rw [if_pos h, g]
    rfl
  have outC : ∀ b, b ∉ cs → H2 b = H b := fun b n => by
    rw [hH2]
    exact if_neg n
  have freeC : ∀ c ∈ cs, H c = none := fun c h => let ⟨y, e⟩ := (hcs c).mp h; I.freeC y c e
  have new : ∀ b u, H b = some u → H2 b = some u := fun b u h => by
    rw [outC b fun z => by rw [freeC b z] at h; cases h]
    exact h
  have big : ∀ c ∈ cs, X.s_0.heap.objs.size ≤ c := fun c h => let ⟨y, e⟩ := (hcs c).mp h; I.ok.cab y c (hfn y) e
  have objC : ∀ c ∈ cs, ∃ v o, s.heap.get? c = some o ∧ o.data = .cell v := fun c h => by
    obtain ⟨y, e⟩ := (hcs c).mp h
    obtain ⟨v, o, g, d⟩ := I.cell y c e
    exact ⟨v, o, g, d⟩
  have frm : ∀ b ∈ frs X.stack, b ∉ cs := fun b hb z => by
    rcases List.mem_cons.mp (I.stkSub b hb) with e | hb
    · obtain ⟨y, e2⟩ := (hcs b).mp z
      exact I.cne y b e2 e
    · obtain ⟨_, o, ho, _⟩ := I.ok.funs.mem hb
      exact absurd (Nat.lt_of_lt_of_le (Heap.lt_size ho) (big b z)) (Nat.lt_irrefl _)
  have e0 := I.env0
  have e1 : Env0 X.prog X.w X.K X.mg X.base X.A X.stack s H2 := by
    refine ⟨e0.frames, e0.mod, fun b o e => ⟨(e0.bs b o e).1, ?_⟩, e0.bsz, e0.funs, fun b hb => ?_, fun b u h => ?_, e0.bare⟩
    · rw [outC b fun z => absurd (Nat.lt_of_lt_of_le (Heap.lt_size e) (Nat.le_trans I.ok.bsz (big b z))) (Nat.lt_irrefl _)]
      exact (e0.bs b o e).2
    · rw [outC b (frm b hb)]
      exact e0.frf b hb
    · by_cases hb : b ∈ cs
      · obtain ⟨v, o, g, d⟩ := objC b hb
        rw [inC b hb o g] at h
        cases h
        exact pinO_ok g
      · rw [outC b hb] at h
        exact stay_ext (I.hok b u h) fun b u h _ => new b u h
  have L : Lent X.env X.N σ cs H H2 := by
    refine ⟨⟨fun b u h => new b u h, fun y c e => ?_, I.ok.inj, fun i y v hN hs hk => ?_⟩, freeC, hcs, outC⟩
    · have hc : c ∈ cs := (hcs c).mpr ⟨y, e⟩
      obtain ⟨v, o, g, d⟩ := objC c hc
      exact ⟨o, v, inC c hc o g, d⟩
    · obtain ⟨m, hn, hl⟩ := I.loc
      obtain ⟨u, ru, l⟩ := hl i y v hN hs (.inr (.inl hk))
      rcases l with ⟨z, _⟩ | ⟨_, c, e, o, g, d⟩
      · have z' : X.env.scope.names.lookup y = some .local := z
        rw [hk] at z'
        cases z'
      · exact ⟨c, o, u, e, inC c ((hcs c).mpr ⟨y, e⟩) o g, d, ru⟩
  have q := q cs H2 L
  have hl : us.length = ps.length := by rw [← r.length]; exact F.len _ _ _ _ q
  have b := hb s us I.kIn (by rw [List.append_nil]; exact hl)
  rw [List.append_nil] at b
  refine wpAny_call (codeAny_mono (F.run X.A X.stack s H2 ⟨us, []⟩ us vs _ _ hr e1 b r q) fun r s' hq => ?_)
  cases r with
  | error e =>
    obtain ⟨_, _, _, _, _, _, _, _, _, _, _, _, z⟩ := hq
    exact z.elim
  | ok fl =>
    cases fl with
    | next => exact False.elim hq
    | brk => exact False.elim hq
    | cont => exact False.elim hq
    | ret u =>
      obtain ⟨v, H3, os, bare, un, hok, rv, keep, q3⟩ := hq
      have cellS : ∀ c ∈ cs, ∃ o, s.heap.get? c = some o ∧ s'.heap.get? c = some o ∧ H3 c = some (PinO c o) := fun c hc => by
        obtain ⟨v, o, g, d⟩ := objC c hc
        have h3 := (keep c hc).trans (inC c hc o g)
        exact ⟨o, g, pinO_at hok h3, h3⟩
      have ncs : ∀ {b u}, H b = some u → b ∉ cs := fun {b u} h z => by rw [freeC b z] at h; cases h
      refine I.after ⟨v, unpin cs H3, os, bare, ⟨fun b o g h h1 h2 => ?_, fun b o g h h1 h2 => ?_, fun b o g h h2 => ?_, un.there, fun b xs h => ?_, fun b o u h => ?_, fun b qs h => ?_⟩, fun b u h => ?_, rv, q3⟩
      · by_cases hb : b ∈ cs
        · obtain ⟨o', g1, g2, _⟩ := cellS b hb
          rw [g] at g1; cases g1
          exact g2
        · exact un.keep b o g ((outC b hb).trans h) h1 h2
      · exact un.slot b o g ((outC b (frm b h1)).trans h) h1 h2
      · by_cases hb : b ∈ cs
        · exact unpin_in hb
        · rw [unpin_out hb]; exact un.free b o g ((outC b hb).trans h) h2
      · rw [unpin_out (ncs h)]; exact un.tups b xs (new b _ h)
      · rw [unpin_out (ncs h)]; exact un.frzs b o u (new b _ h)
      · obtain ⟨more, h2⟩ := un.tbls b qs (new b _ h)
        exact ⟨more, by rw [unpin_out (ncs h)]; exact h2⟩
      · obtain ⟨h3, hb⟩ := unpin_of h
        refine stay_ext (hok b u h3) fun b' u' h' n => ?_
        refine unpin_at (cs := cs) (fun c hc => ?_) h' n
        obtain ⟨o, _, _, e⟩ := cellS c hc
        exact ⟨o, e⟩
end
/-- f(e, ..), the cells lent -/
def tCallLd (env : Env) (N : List Str) (sp : Sp) (t : TA) : TE := fun σ H Q => t σ H fun vs H1 => ∀ cs H2, Lent env N σ cs H1 H2 → sp vs H2 (fun v H3 => (∀ c ∈ cs, H3 c = H2 c) ∧ Q v (unpin cs H3)) fun _ _ _ => False
section
variable {X : Cx} {e : Expr} {es : List Expr} {p pos : Pos} {t : TA} {x : Str} {ps : List Str} {sp : Sp} {j k : Nat}
theorem pcallLd (c : Cl X.prog X.w X.K X.mg X.base k x ps sp) (hr : Room j X.A) (hk : k ≤ j) (ha : PA X (e :: es) t) (hfn : ∀ y, X.fn y = true := by intro _; rfl) (hg : Gl X x := by rfl)
    (he : starEach (e :: es) X.env = (false, eval e X.env) :: starEach es X.env := by rfl) (hpl : (backTo pos (starEach es X.env)).any (·.1) = false := by rfl) (hdb : (x == ("__debug__" : Str)) = false := by decide) :
    PE X (.Call (.Name x p) (e :: es) [] pos) (tCallLd X.env X.N sp t) := by
  obtain ⟨f, fd, F, hm, kp, b⟩ := c.ex
  refine ⟨fun pins s σ H Q I h => ?_⟩
  refine wpAny_Call_Name_kw (ld_glob I hg hm ?_ hdb)
  refine PySem.W.callWith_K (h₀ := X.base) I.ok.mod.kin kp (thn (ha.run pos pins s σ H _ I h) fun us s1 ⟨vs, H1, I1, r, q⟩ => ⟨I1.kIn, ?_⟩) he hpl
  exact run_lend F (hr.mono hk) b hfn I1 r q
end
theorem k_callLd {env : Env} {N : List Str} {sp : Sp} {t : TA} {σ : L2.St} {H : Hp} {Q : VK} (q : t σ H fun vs H1 => ∀ cs H2, Lent env N σ cs H1 H2 → sp vs H2 (fun v H3 => (∀ c ∈ cs, H3 c = H2 c) ∧ Q v (unpin cs H3)) fun _ _ _ => False) : tCallLd env N sp t σ H Q := q
/-- a maker that is the law itself -/
theorem FunD.okC {P : Program} {w : World} {K : PySem.W.Frag} {mg : Str → Option Value} {base : Heap} {x qual : Str} {params : Arguments} {body : List Stmt} {scope : Scope} {dvs : List V} {kws : List (Str × V)} {p : He.Defn} {fd : FuncData} {CX : CXT} {N ps : List Str} {k : Nat} {sp : Sp}
    (F : FunD K x qual params body scope dvs kws (He.fAd K p) fd) (S : FnScope N ps scope) (len : ∀ vs H Q E, sp vs H Q E → vs.length = ps.length)
    (hbody : ∀ (cdv : Value) (A : Around) (outer : List Env) (s : Shared) (H : Hp) (vs : List V) (Q : VK) (E : XK), cdv = .ref (He.cT K p).1 → Room k (A.deeper (envOfC qual scope s.heap.objs.size (He.fAd K p) cdv)) → sp vs H Q E →
      ∃ t, PSs (cxOf CX P w K mg base N qual scope (He.fAd K p) cdv A outer s H E) body t ∧ t { nx := fun _ H' => Q .non H', rt := Q } (start N vs) H) : FnOk P w K mg base CX (k + 1) (He.fAd K p) fd ps sp := by
  obtain ⟨oc, od, dV, kV, doc, pm, an, cdv, ct, osl, rfl, lk, hcd, _, _⟩ := F.ex
  obtain ⟨c, hc⟩ := He.codeIn_ref hcd
  have e : cdv = .ref (He.cT K p).1 := by
    rw [hc]
    exact congrArg Value.ref (He.codeOf_eq lk hc).symm
  exact fn_of lk hcd S len fun A outer s H vs Q E hr hsp => hbody cdv A outer s H vs Q E e hr hsp
end Gx
/-! ### several functions made by one def; a function called by a local name -/
namespace Gx
open PySem PySem.Spec PyProof.Rows L2 LamX NdefX
/-- the maker's table of code objects: the name that each bears, by its place -/
def TabF (K : PySem.W.Frag) (H : Hp) (p : He.Defn) (nm : Nat → Nat → Str) : Prop := TabN H (He.cT K p).2 nm
theorem TabF.same {K : PySem.W.Frag} {H H' : Hp} {p : He.Defn} {nm : Nat → Nat → Str} (t : TabF K H p nm) (e : Same H H') : TabF K H' p nm := TabN.ext t fun b o h => e b o h
theorem TabF.nil {K : PySem.W.Frag} {H : Hp} {p : He.Defn} {nm : Nat → Nat → Str} (h : H (He.cT K p).2 = some (.tbl #[])) : TabF K H p nm := TabN.nil h
def tMkN (K : PySem.W.Frag) (p : He.Defn) (nm : Nat → Nat → Str) (i : Nat) (mk : Addr → NF) : TS := fun D σ H => TabF K H p nm ∧ ∀ (f c' : Addr) (H1 : Hp), ExtN H H1 → (∀ b, H1 b = none → H b = none) → TabF K H1 p nm → H f = none → H1 f = some (FxO f (FX.of (mk c'))) → H1 c' = some (CodeO c' (mk c').qual) → D.nx (σ.set i (some (.ref f))) H1
theorem ps_mkN {X : Cx} {K : PySem.W.Frag} {st : Stmt} {p : He.Defn} {nm : Nat → Nat → Str} {name : Str} {pos : Pos} {i : Nat} (hK : X.K = K) (TB : TabB X.base X.mg (He.cT K p).1 (He.cT K p).2) (hcode : X.env.code = .ref (He.cT K p).1) (hst : st = .FunctionDef name (C8.fnArgs st) (C8.fnBody st) [] none [] (C8.fnScope st) none name pos)
    (hn : nm pos.line pos.col = X.env.qual ++ name)
    (hfree : ∀ y ∈ (C8.fnScope st).names, y.2 = .free → X.env.scope.names.lookup y.1 = some .cell ∨ X.env.scope.names.lookup y.1 = some .free) (hd0 : (C8.fnArgs st).defaults = []) (hk0 : (C8.fnArgs st).kw_defaults = []) (ha : annTrees (C8.fnArgs st) none X.env = [])
    (hN : X.N.Nodup) (hi : X.N[i]? = some name) (hx : Loc X.env.scope name) (hf : X.fn name = true ∨ X.env.scope.names.lookup name = some .local) :
    PS X st (tMkN K p nm i (NF.of st name (X.env.qual ++ name) (cloFrom X.env.cells (C8.fnScope st).names []))) := by
  subst hK
  have h := ps_ndefMS (T := [((He.cT X.K p).2, nm)]) hst TB hcode (List.mem_singleton.mpr rfl) hn (fun z hz _ => by rw [List.mem_singleton.mp hz]) hfree hd0 hk0 ha hN hi hx hf
  refine ⟨fun pins s σ H D I q => h.run pins s σ H D I ⟨fun z hz => ?_, fun f c' H1 e nn T1 f0 f1 c1 => q.2 f c' H1 e nn (T1 _ (List.mem_singleton.mpr rfl)) f0 f1 c1⟩⟩
  rw [List.mem_singleton.mp hz]
  exact q.1
section
variable {X : Cx} {k j : Nat} {IsF : FX → Prop} {ps fr : List Str} {sp : List (Option V) → Sp} {e : Expr} {es : List Expr} {ta : TE} {t : TA} {x : Str} {p pos : Pos}
/-- x(e, ..), x a name of the def that holds such a function -/
theorem pnmcall (c : CloCl X.prog X.w X.K X.mg X.base k IsF ps fr sp) (hr : Room j X.A) (hk : k ≤ j) (he : PE X (.Name x p) ta) (ha : PA X (e :: es) t)
    (hst : starEach (e :: es) X.env = (false, eval e X.env) :: starEach es X.env := by rfl) (hpl : (backTo pos (starEach es X.env)).any (·.1) = false := by rfl) :
    PE X (.Call (.Name x p) (e :: es) [] pos) (tValCall IsF fr sp ta t) := by
  refine ⟨fun pins s σ H Q I h => ?_⟩
  refine wpAny_Call_Name_kw (thn (he.run pins s σ H _ I h) fun u s1 ⟨x, H1, I1, rx, f, F, ex, hf, q⟩ => ?_)
  subst ex
  obtain rfl : u = Value.ref f := rx
  refine PySem.W.callWith_F (first := []) (fxAt_of I1 hf) (thn (ha.run pos pins s1 σ H1 _ I1 q) fun us s3 ⟨vs, H2, I3, r, hf2, q2⟩ => ⟨fxAt_of I3 hf2, ?_⟩) hst hpl
  exact run_clo c hr hk I3 r q2
end
/-- another function's cells taken away -/
theorem Clo.unpin {H : Hp} {f : Addr} {F : FX} {fr : List Str} {ws : List V} (C : Clo H f F fr ws) {cs : List Addr} (n1 : f ∉ cs) (n2 : F.c ∉ cs) (n3 : ∀ c ∈ F.cs, c ∉ cs) : Clo (unpin cs H) f F fr ws := by
  refine ⟨by rw [unpin_out n1]; exact C.fn, by rw [unpin_out n2]; exact C.code, fun p hp => ?_, C.inj, C.len, fun i y hy => ?_⟩
  · obtain ⟨o, v, h, d⟩ := C.pins p hp
    exact ⟨o, v, by rw [unpin_out (n3 _ (List.mem_map.mpr ⟨p, hp, rfl⟩))]; exact h, d⟩
  · obtain ⟨c, o, u, v, h1, h2, h3⟩ := C.has i y hy
    exact ⟨c, o, u, v, h1, by rw [unpin_out (n3 _ (List.mem_map.mpr ⟨_, PySem.mem_of_lookup h1, rfl⟩))]; exact h2, h3⟩
/-- whose cells a function captured -/
theorem cloFrom_mem {cells : List (Str × Addr)} : ∀ {names : List (Str × NameKind)} {acc : List (Str × Addr)} {p : Str × Addr}, p ∈ cloFrom cells names acc → p ∈ acc ∨ ((p.1, NameKind.free) ∈ names ∧ p.2 = (cells.lookup p.1).getD 0)
  | [], acc, p, h => .inl h
  | (n, k) :: r, acc, p, h => by
    unfold cloFrom at h
    by_cases hk : (k == NameKind.free) = true
    · rw [if_pos hk] at h
      have ek : k = NameKind.free := by simpa using hk
      rcases cloFrom_mem h with h | ⟨h1, h2⟩
      · rcases List.mem_cons.mp h with h | h
        · subst h
          exact .inr ⟨by rw [ek]; exact List.mem_cons_self .., rfl⟩
        · exact .inl h
      · exact .inr ⟨List.mem_cons_of_mem _ h1, h2⟩
    · rw [if_neg hk] at h
      rcases cloFrom_mem h with h | ⟨h1, h2⟩
      · exact .inl h
      · exact .inr ⟨List.mem_cons_of_mem _ h1, h2⟩
/-- its cells are those of the def that made it -/
theorem clo_cells {q : Str} {sc sn : Scope} {L a : Addr} {cd : Value} {K : FX} (hn : ndefC sc sn [] = true) (e : K.cl = cloFrom (envOfC q sc L a cd).cells sn.names []) : ∀ c ∈ K.cs, ∃ y, (y, NameKind.free) ∈ sn.names ∧ (envOfC q sc L a cd).cells.lookup y = some c := fun c hc => by
  obtain ⟨p, hp, rfl⟩ := List.mem_map.mp hc
  rw [e] at hp
  rcases cloFrom_mem hp with h | ⟨h1, h2⟩
  · cases h
  · refine ⟨p.1, h1, ?_⟩
    unfold ndefC at hn
    simp only [Bool.and_eq_true, Bool.or_eq_true, Bool.not_eq_true', decide_eq_true_eq, decide_eq_false_iff_not, List.all_eq_true] at hn
    rcases hn.1 _ h1 with z | z
    · exact absurd rfl z
    · obtain ⟨c', hc'⟩ : ∃ c', (envOfC q sc L a cd).cells.lookup p.1 = some c' := cell_has z
      rw [h2, hc']
      rfl
/-- functions of one def that share no name share no cell -/
theorem Gone.apart {N : List Str} {σ : L2.St} {H H' : Hp} {a L : Addr} {F G : FX} {q : Str} {sc n1 n2 : Scope} {cd : Value} (g : Gone (envOfC q sc L a cd) N σ H H') (h1 : ndefC sc n1 [] = true) (h2 : ndefC sc n2 [] = true) (e1 : F.cl = cloFrom (envOfC q sc L a cd).cells n1.names []) (e2 : G.cl = cloFrom (envOfC q sc L a cd).cells n2.names [])
    (dj : (n1.names.all fun y => n2.names.all fun z => !decide (y.2 = .free) || !decide (z.2 = .free) || !decide (y.1 = z.1)) = true) : ∀ c ∈ F.cs, c ∉ G.cs := fun c hc hd => by
  obtain ⟨y, y1, y2⟩ := clo_cells h1 e1 c hc
  obtain ⟨z, z1, z2⟩ := clo_cells h2 e2 c hd
  have := g.inj y z c y2 z2
  subst this
  have h := List.all_eq_true.mp (List.all_eq_true.mp dj _ y1) _ z1
  simp at h
end Gx
open PySem PySem.Spec PyProof.Rows L2 Gx
local macro_rules | `(tactic| walk_at "s1") => `(tactic| first
  | refine k_var rfl ?_ | refine k_c ?_ | refine k_op ?_ | refine k_seq ?_ | refine k_asg ?_ | refine k_gn ?_ | refine k_gcons ?_ | refine k_gnil ?_ | refine k_ifs ?_ | refine k_tst ?_ | refine k_B ?_ | refine k_bl ?_
  | refine k_ret ?_ | refine k_drop ?_ | refine k_next ?_ | refine k_par ?_ | refine k_two ?_ | refine k_for ?_ | refine k_iRng1 ?_ | refine k_iRng2 ?_ | refine k_iList ?_ | refine k_iTup ?_ | refine k_iSeqU ?_
  | refine k_cb ?_ | refine k_cons ?_ | refine k_nil ?_ | refine k_callS ?_ | refine k_call ?_ | refine k_tup0 ?_ | refine k_lst0 ?_ | refine k_bm0 ?_ | refine k_bm ?_
  | refine k_and ?_ | refine k_or ?_ | refine k_not ?_ | refine k_andV ?_ | refine k_orV ?_ | refine k_notV ?_ | refine k_ife ?_ | refine k_chain ?_ | refine k_un ?_ | refine k_rev ?_ | refine k_st ?_ | refine k_revT ?_
  | refine k_I0 ?_ | refine k_addI ?_ | refine k_eqI ?_ | refine k_neI ?_ | refine k_eqT ?_ | refine k_neT ?_ | refine k_eqB ?_ | refine k_neB ?_ | refine k_neg ?_
  | refine k_dget ?_ | refine k_dput ?_ | refine k_pairC ?_ | refine k_pair0 ?_ | refine k_fld ?_ | refine k_sfld ?_ | refine k_meth ?_ | refine k_make ?_ | refine k_makeB ?_ | refine k_makeS ?_ | refine k_revR ?_ | refine k_iEnum ?_ | refine k_iEnumT ?_ | refine k_isBl ?_ | refine k_notBl ?_ | refine k_lenSetT ?_ | refine k_mk0 ?_ | refine k_mkF ?_ | refine k_iZipM ?_ | refine k_iZipN ?_ | refine k_iStr ?_ | refine k_itS ?_ | refine k_iZipU ?_ | refine k_cntT ?_ | refine k_veI ?_ | refine k_ost ?_ | refine k_xf ?_ | refine k_aug rfl ?_ | refine k_ip ?_ | refine k_frz ?_ | refine k_gsub ?_ | refine k_m1 ?_ | refine k_m0 ?_ | refine k_isS ?_ | refine k_abs ?_ | refine k_max ?_ | refine k_min ?_ | refine k_intI ?_ | refine k_intB ?_ | refine k_lc ?_ | refine k_yes ?_ | refine k_listRg ?_ | refine k_rg1 ?_ | refine k_sl ?_ | refine k_part ?_ | refine k_noPart ?_ | refine k_int ?_ | refine k_dict0 ?_ | refine k_isN ?_ | refine k_notN ?_
  | refine k_nonT ?_ | refine k_nonF ?_ | refine k_refT ?_ | refine k_refF ?_ | refine k_blT ?_ | refine k_blF ?_ | refine k_strT ?_ | refine k_strF ?_ | refine k_ifT ?_ | refine k_ifF ?_ | refine k_ifnT ?_ | refine k_ifnF ?_)
local macro_rules | `(tactic| walk_at "s2") => `(tactic| first
  | refine k_powc (a := 10) (b := 61) (c := 10000000000000000000000000000000000000000000000000000000000000) (by decide +kernel) (cpow (by decide) (by decide) (by decide)) ?_
  | refine k_powc (a := 10) (b := 60) (c := 1000000000000000000000000000000000000000000000000000000000000) (by decide +kernel) (cpow (by decide) (by decide) (by decide)) ?_
  | refine k_powc (a := 10) (b := 12) (c := 1000000000000) (by decide +kernel) (cpow (by decide) (by decide) (by decide)) ?_
  | refine k_powc (a := 10) (b := 5) (c := 100000) (by decide +kernel) (cpow (by decide) (by decide) (by decide)) ?_
  | refine k_powc (a := 10) (b := 6) (c := 1000000) (by decide +kernel) (cpow (by decide) (by decide) (by decide)) ?_
  | refine k_powc (a := 10) (b := 9) (c := 1000000000) (by decide +kernel) (cpow (by decide) (by decide) (by decide)) ?_
  | refine k_powc (a := 10) (b := 20) (c := 100000000000000000000) (by decide +kernel) (cpow (by decide) (by decide) (by decide)) ?_
  | refine k_powc (a := 10) (b := 50) (c := 100000000000000000000000000000000000000000000000000) (by decide +kernel) (cpow (by decide) (by decide) (by decide)) ?_
  | refine k_powc (a := 10) (b := 58) (c := 10000000000000000000000000000000000000000000000000000000000) (by decide +kernel) (cpow (by decide) (by decide) (by decide)) ?_
  | refine k_mod (by first | decide | omega) ?_
  | refine k_div (by first | decide | omega) (by first | decide +kernel | exact k_log (by omega)) ?_)
local macro_rules | `(tactic| walk_at "go") => `(tactic| repeat (first | with_reducible walk_at "s1" | with_reducible walk_at "s2"))
local macro_rules | `(tactic| walk_at "up") => `(tactic| first | assumption | (refine up_same (by assumption) ?_; walk_at "up") | (refine up_but (by assumption) (by first | assumption | (apply Ne.symm; assumption)) ?_; walk_at "up"))
local macro_rules | `(tactic| walk_at "ut") => `(tactic| first | assumption | exact SqT.of (by assumption) | (refine seqT_same (by assumption) ?_; walk_at "ut"))
local macro_rules | `(tactic| walk_at "ul") => `(tactic| first | assumption | exact SqL.of (by assumption) | (refine seqL_same (by assumption) ?_; walk_at "ul"))
local macro_rules | `(tactic| walk_at "n") => `(tactic| first | with_reducible walk_at "s1" | with_reducible walk_at "s2")
local macro_rules | `(tactic| walk_at "lk") => `(tactic| first | exact lk1 | (apply lkn; (decide +kernel); walk_at "lk"))
local macro_rules | `(tactic| walk_at "lz") => `(tactic| first | exact lk0 | (apply lkz; (decide +kernel); walk_at "lz"))
local macro_rules | `(tactic| walk_at "pf") => `(tactic| first | rfl | (rw [pfn]; (walk_at "pf"); (decide +kernel)) | (rw [pf1]; walk_at "pf") | (rw [pf0]; walk_at "pf"))
local macro_rules | `(tactic| walk_at "pl") => `(tactic| first | (simp only [List.length_cons, List.length_nil]; done) | (simp only [List.length_cons, List.length_nil]; decide) | exact Nat.lt_of_lt_of_le pfl0 (by decide) | exact Nat.lt_of_lt_of_le (pfl pfl0) (by decide) | exact Nat.lt_of_lt_of_le (pfl (pfl pfl0)) (by decide) | exact Nat.lt_of_lt_of_le (pfl (pfl (pfl pfl0))) (by decide) | exact Nat.lt_of_lt_of_le (pfl (pfl (pfl (pfl pfl0)))) (by decide) | exact Nat.lt_of_lt_of_le (pfl (pfl (pfl (pfl (pfl pfl0))))) (by decide) | exact Nat.lt_of_lt_of_le (pfl (pfl (pfl (pfl (pfl (pfl pfl0)))))) (by decide) | exact Nat.lt_of_lt_of_le (pfl (pfl (pfl (pfl (pfl (pfl (pfl pfl0))))))) (by decide) | exact Nat.lt_of_lt_of_le (pfl (pfl (pfl (pfl (pfl (pfl (pfl (pfl pfl0)))))))) (by decide) | exact Nat.lt_of_lt_of_le (pfl (pfl (pfl (pfl (pfl (pfl (pfl (pfl (pfl pfl0))))))))) (by decide) | (simp; done))
local macro_rules | `(tactic| walk_at "st") => `(tactic| repeat (first | with_reducible refine k_next ?_ | with_reducible refine k_seq ?_))
open PySem PySem.Spec PyProof.Rows L2 Gx LamX NdefX
local macro_rules | `(tactic| walk_at "s1") => `(tactic| first
  | refine k_gSeq ?_ | refine k_gRet ?_ | refine k_gIf ?_ | refine k_fldcall ?_ | refine k_valcall ?_)
namespace Lw
open PySem PySem.Spec PyProof.Rows L2 Gx LamX NdefX
def top (i : Nat) : Stmt := PySem.Challenge.pw_surecount_k35_plays_refused.main.body.getD i (.Pass ⟨0, 0, 0, 0⟩)
abbrev s_NoStake___init__ : Stmt := inClass (top 13) 0
theorem sc_NoStake___init__ : FnScope ["self", "turn"] ["self", "turn"] (defScope s_NoStake___init__) := ⟨rfl, rfl, rfl, by decide +kernel, rfl, by decide +kernel, by decide +kernel⟩
abbrev s_is_whole : Stmt := top 15
theorem sc_is_whole : FnScope ["thing"] ["thing"] (defScope s_is_whole) := ⟨rfl, rfl, rfl, by decide +kernel, rfl, by decide +kernel, by decide +kernel⟩
abbrev s_in_common : Stmt := top 16
theorem sc_in_common : FnScope ["a", "b"] ["a", "b"] (defScope s_in_common) := ⟨rfl, rfl, rfl, by decide +kernel, rfl, by decide +kernel, by decide +kernel⟩
abbrev s_lowest : Stmt := top 17
theorem sc_lowest : FnScope ["a", "b", "divisor"] ["a", "b"] (defScope s_lowest) := ⟨rfl, rfl, rfl, by decide +kernel, rfl, by decide +kernel, by decide +kernel⟩
abbrev s_plus : Stmt := top 18
theorem sc_plus : FnScope ["x", "y"] ["x", "y"] (defScope s_plus) := ⟨rfl, rfl, rfl, by decide +kernel, rfl, by decide +kernel, by decide +kernel⟩
abbrev s_minus : Stmt := top 19
theorem sc_minus : FnScope ["x", "y"] ["x", "y"] (defScope s_minus) := ⟨rfl, rfl, rfl, by decide +kernel, rfl, by decide +kernel, by decide +kernel⟩
abbrev s_times : Stmt := top 20
theorem sc_times : FnScope ["x", "y"] ["x", "y"] (defScope s_times) := ⟨rfl, rfl, rfl, by decide +kernel, rfl, by decide +kernel, by decide +kernel⟩
abbrev s_over : Stmt := top 21
theorem sc_over : FnScope ["x", "y"] ["x", "y"] (defScope s_over) := ⟨rfl, rfl, rfl, by decide +kernel, rfl, by decide +kernel, by decide +kernel⟩
abbrev s_below : Stmt := top 22
theorem sc_below : FnScope ["x", "y"] ["x", "y"] (defScope s_below) := ⟨rfl, rfl, rfl, by decide +kernel, rfl, by decide +kernel, by decide +kernel⟩
abbrev s_is_fraction : Stmt := top 23
theorem sc_is_fraction : FnScope ["thing"] ["thing"] (defScope s_is_fraction) := ⟨rfl, rfl, rfl, by decide +kernel, rfl, by decide +kernel, by decide +kernel⟩
abbrev s_Game___init__ : Stmt := inClass (top 27) 0
theorem sc_Game___init__ : FnScope ["self", "many", "again", "top", "rule"] ["self", "many", "again", "top", "rule"] (defScope s_Game___init__) := ⟨rfl, rfl, rfl, by decide +kernel, rfl, by decide +kernel, by decide +kernel⟩
abbrev s_Game_ended : Stmt := inClass (top 27) 2
theorem sc_Game_ended : FnScope ["self"] ["self"] (defScope s_Game_ended) := ⟨rfl, rfl, rfl, by decide +kernel, rfl, by decide +kernel, by decide +kernel⟩
abbrev s_Game_price : Stmt := inClass (top 27) 3
theorem sc_Game_price : FnScope ["self"] ["self"] (defScope s_Game_price) := ⟨rfl, rfl, rfl, by decide +kernel, rfl, by decide +kernel, by decide +kernel⟩
abbrev s_Game_worth_behind : Stmt := inClass (top 27) 4
theorem sc_Game_worth_behind : FnScope ["self", "value", "price", "stake", "grown"] ["self", "value"] (defScope s_Game_worth_behind) := ⟨rfl, rfl, rfl, by decide +kernel, rfl, by decide +kernel, by decide +kernel⟩
abbrev s_Game_play : Stmt := inClass (top 27) 5
theorem sc_Game_play : FnScope ["self", "value", "worth"] ["self", "value"] (defScope s_Game_play) := ⟨rfl, rfl, rfl, by decide +kernel, rfl, by decide +kernel, by decide +kernel⟩
abbrev s_Game_worth : Stmt := inClass (top 27) 6
theorem sc_Game_worth : FnScope ["self"] ["self"] (defScope s_Game_worth) := ⟨rfl, rfl, rfl, by decide +kernel, rfl, by decide +kernel, by decide +kernel⟩
abbrev s_Game_turns : Stmt := inClass (top 27) 7
theorem sc_Game_turns : FnScope ["self"] ["self"] (defScope s_Game_turns) := ⟨rfl, rfl, rfl, by decide +kernel, rfl, by decide +kernel, by decide +kernel⟩
abbrev s_Game_past : Stmt := inClass (top 27) 8
theorem sc_Game_past : FnScope ["self"] ["self"] (defScope s_Game_past) := ⟨rfl, rfl, rfl, by decide +kernel, rfl, by decide +kernel, by decide +kernel⟩
abbrev s_Game_reached : Stmt := inClass (top 27) 9
theorem sc_Game_reached : FnScope ["self", "limit"] ["self", "limit"] (defScope s_Game_reached) := ⟨rfl, rfl, rfl, by decide +kernel, rfl, by decide +kernel, by decide +kernel⟩
abbrev s_within : Stmt := top 31
theorem sc_within : FnScope ["x"] ["x"] (defScope s_within) := ⟨rfl, rfl, rfl, by decide +kernel, rfl, by decide +kernel, by decide +kernel⟩
abbrev s_Asked___init__ : Stmt := inClass (top 33) 0
theorem sc_Asked___init__ : FnScope ["self", "function"] ["self", "function"] (defScope s_Asked___init__) := ⟨rfl, rfl, rfl, by decide +kernel, rfl, by decide +kernel, by decide +kernel⟩
abbrev s_Asked_stake : Stmt := inClass (top 33) 1
theorem sc_Asked_stake : FnScope ["self", "past", "price", "top", "told"] ["self", "past", "price", "top"] (defScope s_Asked_stake) := ⟨rfl, rfl, rfl, by decide +kernel, rfl, by decide +kernel, by decide +kernel⟩
abbrev s__law_cell_at : Stmt := top 35
theorem sc__law_cell_at : FnScope ["_law_script", "_law_k"] ["_law_script", "_law_k"] (defScope s__law_cell_at) := ⟨rfl, rfl, rfl, by decide +kernel, rfl, by decide +kernel, by decide +kernel⟩
abbrev s__law_begin : Stmt := top 36
theorem sc__law_begin : FnScope ["_law_cell"] ["_law_cell"] (defScope s__law_begin) := ⟨rfl, rfl, rfl, by decide +kernel, rfl, by decide +kernel, by decide +kernel⟩
abbrev s__law_draw : Stmt := top 37
theorem sc__law_draw : FnScope ["_law_state", "_law_many", "_law_found", "_law_number"] ["_law_state", "_law_many"] (defScope s__law_draw) := ⟨rfl, rfl, rfl, by decide +kernel, rfl, by decide +kernel, by decide +kernel⟩
abbrev s__law_low : Stmt := top 38
theorem sc__law_low : FnScope ["_law_a", "_law_b", "_law_x", "_law_y"] ["_law_a", "_law_b"] (defScope s__law_low) := ⟨rfl, rfl, rfl, by decide +kernel, rfl, by decide +kernel, by decide +kernel⟩
abbrev s__law_add : Stmt := top 39
theorem sc__law_add : FnScope ["_law_one", "_law_other"] ["_law_one", "_law_other"] (defScope s__law_add) := ⟨rfl, rfl, rfl, by decide +kernel, rfl, by decide +kernel, by decide +kernel⟩
abbrev s__law_times : Stmt := top 40
theorem sc__law_times : FnScope ["_law_one", "_law_other"] ["_law_one", "_law_other"] (defScope s__law_times) := ⟨rfl, rfl, rfl, by decide +kernel, rfl, by decide +kernel, by decide +kernel⟩
abbrev s__law_sum : Stmt := top 41
theorem sc__law_sum : FnScope ["_law_some", "_law_found", "_law_one"] ["_law_some"] (defScope s__law_sum) := ⟨rfl, rfl, rfl, by decide +kernel, rfl, by decide +kernel, by decide +kernel⟩
abbrev s__law_top : Stmt := top 42
theorem sc__law_top : FnScope ["_law_state"] ["_law_state"] (defScope s__law_top) := ⟨rfl, rfl, rfl, by decide +kernel, rfl, by decide +kernel, by decide +kernel⟩
abbrev s__law_value : Stmt := top 43
theorem sc__law_value : FnScope ["_law_state", "_law_top_here", "_law_parts"] ["_law_state", "_law_top_here"] (defScope s__law_value) := ⟨rfl, rfl, rfl, by decide +kernel, rfl, by decide +kernel, by decide +kernel⟩
abbrev s__law_is : Stmt := top 44
theorem sc__law_is : FnScope ["_law_found", "_law_due", "_law_number"] ["_law_found", "_law_due"] (defScope s__law_is) := ⟨rfl, rfl, rfl, by decide +kernel, rfl, by decide +kernel, by decide +kernel⟩
abbrev s__law_price : Stmt := top 45
theorem sc__law_price : FnScope ["_law_many", "_law_again", "_law_past", "_law_lacks"] ["_law_many", "_law_again", "_law_past"] (defScope s__law_price) := ⟨rfl, rfl, rfl, by decide +kernel, rfl, by decide +kernel, by decide +kernel⟩
abbrev s__law_behind : Stmt := top 46
theorem sc__law_behind : FnScope ["_law_rule", "_law_many", "_law_again", "_law_top_here", "_law_past", "_law_worth", "_law_value_here", "_law_price_here", "_law_all_in", "_law_stake", "_law_grown"] ["_law_rule", "_law_many", "_law_again", "_law_top_here", "_law_past", "_law_worth", "_law_value_here"] (defScope s__law_behind) := ⟨rfl, rfl, rfl, by decide +kernel, rfl, by decide +kernel, by decide +kernel⟩
abbrev s__law_played : Stmt := top 47
theorem sc__law_played : FnScope ["_law_game", "_law_value_here", "_law_row", "e"] ["_law_game", "_law_value_here"] (defScope s__law_played) := ⟨rfl, rfl, rfl, by decide +kernel, rfl, by decide +kernel, by decide +kernel⟩
abbrev s__law_stands : Stmt := top 48
theorem sc__law_stands : FnScope ["_law_game", "_law_many", "_law_again", "_law_worth", "_law_past", "_law_price_here"] ["_law_game", "_law_many", "_law_again", "_law_worth", "_law_past"] (defScope s__law_stands) := ⟨rfl, rfl, rfl, by decide +kernel, rfl, by decide +kernel, by decide +kernel⟩
abbrev s__law_twice : Stmt := top 49
theorem sc__law_twice : FnScope ["_law_game", "_law_kind", "_law_worth", "_law_past", "_law_value_here", "_law_due", "_law_turn"] ["_law_game", "_law_kind", "_law_worth", "_law_past", "_law_value_here", "_law_due"] (defScope s__law_twice) := ⟨rfl, rfl, rfl, by decide +kernel, rfl, by decide +kernel, by decide +kernel⟩
abbrev s__law_right : Stmt := top 50
theorem sc__law_right : FnScope ["_law_game", "_law_kind", "_law_values", "_law_good_here", "_law_bad", "_law_many", "_law_again", "_law_top_here", "_law_worth", "_law_past", "_law_value_here"] ["_law_game", "_law_kind", "_law_values", "_law_good_here", "_law_bad"] (defScope s__law_right) := ⟨rfl, rfl, rfl, by decide +kernel, rfl, by decide +kernel, by decide +kernel⟩
abbrev s_law___law_good : Stmt := (defBody (top 51)).getD 8 (.Pass ⟨0, 0, 0, 0⟩)
theorem sc_law___law_good : NScope ["_law_past", "_law_parts", "_law_value_here"] ["_law_past"] ["_law_parts"] (C8.fnScope s_law___law_good) := nscope_by (by decide +kernel)
def IsF_law___law_good (F : FX) : Prop := ∃ q cl c, F = FX.of (NdefX.NF.of s_law___law_good "_law_good" q cl c)
abbrev p_law___law_good : He.Defn := ("law", none)
abbrev q_law___law_good : Str := (("law" : Str) ++ ".<locals>.") ++ "_law_good"
abbrev s_law___law_told : Stmt := (defBody (top 51)).getD 9 (.Pass ⟨0, 0, 0, 0⟩)
theorem sc_law___law_told : NScope ["_law_past", "_law_bad", "_law_good", "_law_odd"] ["_law_past"] ["_law_bad", "_law_good", "_law_odd"] (C8.fnScope s_law___law_told) := nscope_by (by decide +kernel)
def IsF_law___law_told (F : FX) : Prop := ∃ q cl c, F = FX.of (NdefX.NF.of s_law___law_told "_law_told" q cl c)
abbrev p_law___law_told : He.Defn := ("law", none)
abbrev q_law___law_told : Str := (("law" : Str) ++ ".<locals>.") ++ "_law_told"
def nm_law : Nat → Nat → Str := fun l _ => if l = 266 then q_law___law_good else q_law___law_told
abbrev s_law : Stmt := top 51
theorem sc_law : FnScope ["_law_script", "_law_state", "_law_top_here", "_law_many", "_law_again", "_law_told", "_law_values", "_law_kind", "_law_bad", "_law_good", "_law_odd", "_law_parts", "_law_k", "_law_value_here"] ["_law_script"] (defScope s_law) := ⟨rfl, rfl, rfl, by decide +kernel, rfl, by decide +kernel, by decide +kernel⟩
abbrev FnP (K : PySem.W.Frag) (x q : Str) (st : Stmt) (f : Addr) (fd : FuncData) : Prop := FunD K x q (defArgs st) (defBody st) (defScope st) [] [] f fd
structure Txt (K : PySem.W.Frag) (mg : Str → Option Value) : Prop where
  n_ValueError : mg "ValueError" = none
  n_abs : mg "abs" = none
  n_bool : mg "bool" = none
  n_int : mg "int" = none
  n_isinstance : mg "isinstance" = none
  n_len : mg "len" = none
  n_range : mg "range" = none
  n_sum : mg "sum" = none
  n_tuple : mg "tuple" = none
  c_Ended : ∃ u, mg "Ended" = some u ∧ RelV (.ref (He.ga K "Ended")) u
  c_NOUGHT_games : ∃ u, mg "NOUGHT_games" = some u ∧ RelV (.ref (He.ga K "NOUGHT_games")) u
  t_NOUGHT_games : ∀ H, SqT K H (He.ga K "NOUGHT_games") [V.int 0, V.int 1]
  c_NOUGHT_rules : ∃ u, mg "NOUGHT_rules" = some u ∧ RelV (.ref (He.ga K "NOUGHT_rules")) u
  t_NOUGHT_rules : ∀ H, SqT K H (He.ga K "NOUGHT_rules") [V.int 0, V.int 1]
  c_NoBallot : ∃ u, mg "NoBallot" = some u ∧ RelV (.ref (He.ga K "NoBallot")) u
  c_NoFraction : ∃ u, mg "NoFraction" = some u ∧ RelV (.ref (He.ga K "NoFraction")) u
  c_NoMargin : ∃ u, mg "NoMargin" = some u ∧ RelV (.ref (He.ga K "NoMargin")) u
  c_NoName : ∃ u, mg "NoName" = some u ∧ RelV (.ref (He.ga K "NoName")) u
  c_NoNumber : ∃ u, mg "NoNumber" = some u ∧ RelV (.ref (He.ga K "NoNumber")) u
  c_NoOutcome : ∃ u, mg "NoOutcome" = some u ∧ RelV (.ref (He.ga K "NoOutcome")) u
  c_NoRow : ∃ u, mg "NoRow" = some u ∧ RelV (.ref (He.ga K "NoRow")) u
  c_NoStake : ∃ u, mg "NoStake" = some u ∧ RelV (.ref (He.ga K "NoStake")) u
  c_NoText : ∃ u, mg "NoText" = some u ∧ RelV (.ref (He.ga K "NoText")) u
  c_ONE_games : ∃ u, mg "ONE_games" = some u ∧ RelV (.ref (He.ga K "ONE_games")) u
  t_ONE_games : ∀ H, SqT K H (He.ga K "ONE_games") [V.int 1, V.int 1]
  c_ONE_rules : ∃ u, mg "ONE_rules" = some u ∧ RelV (.ref (He.ga K "ONE_rules")) u
  t_ONE_rules : ∀ H, SqT K H (He.ga K "ONE_rules") [V.int 1, V.int 1]
  c_TooMany : ∃ u, mg "TooMany" = some u ∧ RelV (.ref (He.ga K "TooMany")) u
  cl_Game : Cls K (He.ga K "Game")
  f_Game_many : NoAttr K (He.ga K "Game") "many"
  f_Game_again : NoAttr K (He.ga K "Game") "again"
  f_Game_highest : NoAttr K (He.ga K "Game") "highest"
  f_Game_rule : NoAttr K (He.ga K "Game") "rule"
  f_Game_drawn_values : NoAttr K (He.ga K "Game") "drawn_values"
  f_Game_sum_so_far : NoAttr K (He.ga K "Game") "sum_so_far"
  f_Game_now : NoAttr K (He.ga K "Game") "now"
  f_Game_most : NoAttr K (He.ga K "Game") "most"
  f_Game_certain : NoAttr K (He.ga K "Game") "certain"
  cl_Asked : Cls K (He.ga K "Asked")
  f_Asked_function : NoAttr K (He.ga K "Asked") "function"
  me_Game_ended : Meth K (He.ga K "Game") "ended" (He.ma K (He.ga K "Game") "ended")
  me_Asked_stake : Meth K (He.ga K "Asked") "stake" (He.ma K (He.ga K "Asked") "stake")
  me_Game_price : Meth K (He.ga K "Game") "price" (He.ma K (He.ga K "Game") "price")
  me_Game_worth_behind : Meth K (He.ga K "Game") "worth_behind" (He.ma K (He.ga K "Game") "worth_behind")
  me_Game_play : Meth K (He.ga K "Game") "play" (He.ma K (He.ga K "Game") "play")
  me_Game_reached : Meth K (He.ga K "Game") "reached" (He.ma K (He.ga K "Game") "reached")
  me_Game_turns : Meth K (He.ga K "Game") "turns" (He.ma K (He.ga K "Game") "turns")
  me_Game_past : Meth K (He.ga K "Game") "past" (He.ma K (He.ga K "Game") "past")
  me_Game_worth : Meth K (He.ga K "Game") "worth" (He.ma K (He.ga K "Game") "worth")
  mk_Game : Mk K (He.ga K "Game") (He.ma K (He.ga K "Game") "__init__")
  gk_Game : mg "Game" = some (.ref (He.ga K "Game"))
  mk_Asked : Mk K (He.ga K "Asked") (He.ma K (He.ga K "Asked") "__init__")
  gk_Asked : mg "Asked" = some (.ref (He.ga K "Asked"))
  g_Ended : mg "Ended" = some (.ref (He.ga K "Ended"))
  g_NoFraction : mg "NoFraction" = some (.ref (He.ga K "NoFraction"))
  g_NoStake : mg "NoStake" = some (.ref (He.ga K "NoStake"))
  g_SureError : mg "SureError" = some (.ref (He.ga K "SureError"))
  o_NoStake : OexC K (He.ga K "NoStake")
  oi_NoStake : PySem.W.findIn K (.ref (He.ga K "NoStake")) "__init__" = some (some (.ref (He.ma K (He.ga K "NoStake") "__init__"))) ∧ PySem.W.typeIn K (.ref (He.ma K (He.ga K "NoStake") "__init__")) = some (.type "function")
  f_NoStake_turn : PySem.W.findIn K (.ref (He.ga K "NoStake")) "turn" = some none
  s_SureError : SupC K (He.ga K "SureError")
  xf_NoStake : XfC K (He.ga K "NoStake")
  e_Ended : ExcC K (He.ga K "Ended")
  e_NoStake : ExcC K (He.ga K "NoStake")
  i_Ended_Ended : PySem.W.kitOne K (.ref (He.ga K "Ended")) (.ref (He.ga K "Ended")) = some true
  i_Ended_NoBallot : PySem.W.kitOne K (.ref (He.ga K "Ended")) (.ref (He.ga K "NoBallot")) = some false
  i_Ended_NoFraction : PySem.W.kitOne K (.ref (He.ga K "Ended")) (.ref (He.ga K "NoFraction")) = some false
  i_Ended_NoMargin : PySem.W.kitOne K (.ref (He.ga K "Ended")) (.ref (He.ga K "NoMargin")) = some false
  i_Ended_NoName : PySem.W.kitOne K (.ref (He.ga K "Ended")) (.ref (He.ga K "NoName")) = some false
  i_Ended_NoNumber : PySem.W.kitOne K (.ref (He.ga K "Ended")) (.ref (He.ga K "NoNumber")) = some false
  i_Ended_NoOutcome : PySem.W.kitOne K (.ref (He.ga K "Ended")) (.ref (He.ga K "NoOutcome")) = some false
  i_Ended_NoRow : PySem.W.kitOne K (.ref (He.ga K "Ended")) (.ref (He.ga K "NoRow")) = some false
  i_Ended_NoStake : PySem.W.kitOne K (.ref (He.ga K "Ended")) (.ref (He.ga K "NoStake")) = some false
  i_Ended_NoText : PySem.W.kitOne K (.ref (He.ga K "Ended")) (.ref (He.ga K "NoText")) = some false
  i_Ended_TooMany : PySem.W.kitOne K (.ref (He.ga K "Ended")) (.ref (He.ga K "TooMany")) = some false
  i_Ended_ValueError : PySem.W.kitOne K (.ref (He.ga K "Ended")) (.type "ValueError") = some true
  i_NoStake_Ended : PySem.W.kitOne K (.ref (He.ga K "NoStake")) (.ref (He.ga K "Ended")) = some false
  i_NoStake_NoBallot : PySem.W.kitOne K (.ref (He.ga K "NoStake")) (.ref (He.ga K "NoBallot")) = some false
  i_NoStake_NoFraction : PySem.W.kitOne K (.ref (He.ga K "NoStake")) (.ref (He.ga K "NoFraction")) = some false
  i_NoStake_NoMargin : PySem.W.kitOne K (.ref (He.ga K "NoStake")) (.ref (He.ga K "NoMargin")) = some false
  i_NoStake_NoName : PySem.W.kitOne K (.ref (He.ga K "NoStake")) (.ref (He.ga K "NoName")) = some false
  i_NoStake_NoNumber : PySem.W.kitOne K (.ref (He.ga K "NoStake")) (.ref (He.ga K "NoNumber")) = some false
  i_NoStake_NoOutcome : PySem.W.kitOne K (.ref (He.ga K "NoStake")) (.ref (He.ga K "NoOutcome")) = some false
  i_NoStake_NoRow : PySem.W.kitOne K (.ref (He.ga K "NoStake")) (.ref (He.ga K "NoRow")) = some false
  i_NoStake_NoStake : PySem.W.kitOne K (.ref (He.ga K "NoStake")) (.ref (He.ga K "NoStake")) = some true
  i_NoStake_NoText : PySem.W.kitOne K (.ref (He.ga K "NoStake")) (.ref (He.ga K "NoText")) = some false
  i_NoStake_TooMany : PySem.W.kitOne K (.ref (He.ga K "NoStake")) (.ref (He.ga K "TooMany")) = some false
  i_NoStake_ValueError : PySem.W.kitOne K (.ref (He.ga K "NoStake")) (.type "ValueError") = some true
  m_Ended_SureError : PySem.W.exmOne K (.ref (He.ga K "Ended")) (.ref (He.ga K "SureError")) = some true
  m_NoStake_SureError : PySem.W.exmOne K (.ref (He.ga K "NoStake")) (.ref (He.ga K "SureError")) = some true
  x_Ended : PySem.W.excIn K (He.ga K "Ended") He.veBase "ValueError.__new__" = true ∧ PySem.W.keepIn K (.ref (He.ga K "Ended")) = true ∧ PySem.W.subIn K (.ref (He.ga K "Ended")) (.type "BaseException") = some true ∧ PySem.W.typeIn K (.ref (He.ga K "Ended")) = some (.type "type")
  x_NoFraction : PySem.W.excIn K (He.ga K "NoFraction") He.veBase "ValueError.__new__" = true ∧ PySem.W.keepIn K (.ref (He.ga K "NoFraction")) = true ∧ PySem.W.subIn K (.ref (He.ga K "NoFraction")) (.type "BaseException") = some true ∧ PySem.W.typeIn K (.ref (He.ga K "NoFraction")) = some (.type "type")
end Lw
namespace Lw
open PySem PySem.Spec PyProof.Rows L2 Gx
def d_NoStake___init__ : He.DefD := ⟨("NoStake", some "__init__"), "__init__", "NoStake.__init__", defArgs s_NoStake___init__, defBody s_NoStake___init__, defScope s_NoStake___init__, [], []⟩
def d_is_whole : He.DefD := ⟨("is_whole", none), "is_whole", "is_whole", defArgs s_is_whole, defBody s_is_whole, defScope s_is_whole, [], []⟩
def d_in_common : He.DefD := ⟨("in_common", none), "in_common", "in_common", defArgs s_in_common, defBody s_in_common, defScope s_in_common, [], []⟩
def d_lowest : He.DefD := ⟨("lowest", none), "lowest", "lowest", defArgs s_lowest, defBody s_lowest, defScope s_lowest, [], []⟩
def d_plus : He.DefD := ⟨("plus", none), "plus", "plus", defArgs s_plus, defBody s_plus, defScope s_plus, [], []⟩
def d_minus : He.DefD := ⟨("minus", none), "minus", "minus", defArgs s_minus, defBody s_minus, defScope s_minus, [], []⟩
def d_times : He.DefD := ⟨("times", none), "times", "times", defArgs s_times, defBody s_times, defScope s_times, [], []⟩
def d_over : He.DefD := ⟨("over", none), "over", "over", defArgs s_over, defBody s_over, defScope s_over, [], []⟩
def d_below : He.DefD := ⟨("below", none), "below", "below", defArgs s_below, defBody s_below, defScope s_below, [], []⟩
def d_is_fraction : He.DefD := ⟨("is_fraction", none), "is_fraction", "is_fraction", defArgs s_is_fraction, defBody s_is_fraction, defScope s_is_fraction, [], []⟩
def d_Game___init__ : He.DefD := ⟨("Game", some "__init__"), "__init__", "Game.__init__", defArgs s_Game___init__, defBody s_Game___init__, defScope s_Game___init__, [], []⟩
def d_Game_ended : He.DefD := ⟨("Game", some "ended"), "ended", "Game.ended", defArgs s_Game_ended, defBody s_Game_ended, defScope s_Game_ended, [], []⟩
def d_Game_price : He.DefD := ⟨("Game", some "price"), "price", "Game.price", defArgs s_Game_price, defBody s_Game_price, defScope s_Game_price, [], []⟩
def d_Game_worth_behind : He.DefD := ⟨("Game", some "worth_behind"), "worth_behind", "Game.worth_behind", defArgs s_Game_worth_behind, defBody s_Game_worth_behind, defScope s_Game_worth_behind, [], []⟩
def d_Game_play : He.DefD := ⟨("Game", some "play"), "play", "Game.play", defArgs s_Game_play, defBody s_Game_play, defScope s_Game_play, [], []⟩
def d_Game_worth : He.DefD := ⟨("Game", some "worth"), "worth", "Game.worth", defArgs s_Game_worth, defBody s_Game_worth, defScope s_Game_worth, [], []⟩
def d_Game_turns : He.DefD := ⟨("Game", some "turns"), "turns", "Game.turns", defArgs s_Game_turns, defBody s_Game_turns, defScope s_Game_turns, [], []⟩
def d_Game_past : He.DefD := ⟨("Game", some "past"), "past", "Game.past", defArgs s_Game_past, defBody s_Game_past, defScope s_Game_past, [], []⟩
def d_Game_reached : He.DefD := ⟨("Game", some "reached"), "reached", "Game.reached", defArgs s_Game_reached, defBody s_Game_reached, defScope s_Game_reached, [], []⟩
def d_within : He.DefD := ⟨("within", none), "within", "within", defArgs s_within, defBody s_within, defScope s_within, [], []⟩
def d_Asked___init__ : He.DefD := ⟨("Asked", some "__init__"), "__init__", "Asked.__init__", defArgs s_Asked___init__, defBody s_Asked___init__, defScope s_Asked___init__, [], []⟩
def d_Asked_stake : He.DefD := ⟨("Asked", some "stake"), "stake", "Asked.stake", defArgs s_Asked_stake, defBody s_Asked_stake, defScope s_Asked_stake, [], []⟩
def d__law_cell_at : He.DefD := ⟨("_law_cell_at", none), "_law_cell_at", "_law_cell_at", defArgs s__law_cell_at, defBody s__law_cell_at, defScope s__law_cell_at, [], []⟩
def d__law_begin : He.DefD := ⟨("_law_begin", none), "_law_begin", "_law_begin", defArgs s__law_begin, defBody s__law_begin, defScope s__law_begin, [], []⟩
def d__law_draw : He.DefD := ⟨("_law_draw", none), "_law_draw", "_law_draw", defArgs s__law_draw, defBody s__law_draw, defScope s__law_draw, [], []⟩
def d__law_low : He.DefD := ⟨("_law_low", none), "_law_low", "_law_low", defArgs s__law_low, defBody s__law_low, defScope s__law_low, [], []⟩
def d__law_add : He.DefD := ⟨("_law_add", none), "_law_add", "_law_add", defArgs s__law_add, defBody s__law_add, defScope s__law_add, [], []⟩
def d__law_times : He.DefD := ⟨("_law_times", none), "_law_times", "_law_times", defArgs s__law_times, defBody s__law_times, defScope s__law_times, [], []⟩
def d__law_sum : He.DefD := ⟨("_law_sum", none), "_law_sum", "_law_sum", defArgs s__law_sum, defBody s__law_sum, defScope s__law_sum, [], []⟩
def d__law_top : He.DefD := ⟨("_law_top", none), "_law_top", "_law_top", defArgs s__law_top, defBody s__law_top, defScope s__law_top, [], []⟩
def d__law_value : He.DefD := ⟨("_law_value", none), "_law_value", "_law_value", defArgs s__law_value, defBody s__law_value, defScope s__law_value, [], []⟩
def d__law_is : He.DefD := ⟨("_law_is", none), "_law_is", "_law_is", defArgs s__law_is, defBody s__law_is, defScope s__law_is, [], []⟩
def d__law_price : He.DefD := ⟨("_law_price", none), "_law_price", "_law_price", defArgs s__law_price, defBody s__law_price, defScope s__law_price, [], []⟩
def d__law_behind : He.DefD := ⟨("_law_behind", none), "_law_behind", "_law_behind", defArgs s__law_behind, defBody s__law_behind, defScope s__law_behind, [], []⟩
def d__law_played : He.DefD := ⟨("_law_played", none), "_law_played", "_law_played", defArgs s__law_played, defBody s__law_played, defScope s__law_played, [], []⟩
def d__law_stands : He.DefD := ⟨("_law_stands", none), "_law_stands", "_law_stands", defArgs s__law_stands, defBody s__law_stands, defScope s__law_stands, [], []⟩
def d__law_twice : He.DefD := ⟨("_law_twice", none), "_law_twice", "_law_twice", defArgs s__law_twice, defBody s__law_twice, defScope s__law_twice, [], []⟩
def d__law_right : He.DefD := ⟨("_law_right", none), "_law_right", "_law_right", defArgs s__law_right, defBody s__law_right, defScope s__law_right, [], []⟩
def d_law : He.DefD := ⟨("law", none), "law", "law", defArgs s_law, defBody s_law, defScope s_law, [], []⟩
def fn : List He.DefD := [d_NoStake___init__, d_is_whole, d_in_common, d_lowest, d_plus, d_minus, d_times, d_over, d_below, d_is_fraction, d_Game___init__, d_Game_ended, d_Game_price, d_Game_worth_behind, d_Game_play, d_Game_worth, d_Game_turns, d_Game_past, d_Game_reached, d_within, d_Asked___init__, d_Asked_stake, d__law_cell_at, d__law_begin, d__law_draw, d__law_low, d__law_add, d__law_times, d__law_sum, d__law_top, d__law_value, d__law_is, d__law_price, d__law_behind, d__law_played, d__law_stands, d__law_twice, d__law_right, d_law]
def fa : List He.Fa := [.free "ValueError", .free "abs", .free "bool", .free "int", .free "isinstance", .free "len", .free "range", .free "sum", .free "tuple", .glo "Ended", .glo "NOUGHT_games", .glo "NOUGHT_rules", .glo "NoBallot", .glo "NoFraction", .glo "NoMargin", .glo "NoName", .glo "NoNumber", .glo "NoOutcome", .glo "NoRow", .glo "NoStake", .glo "NoText", .glo "ONE_games", .glo "ONE_rules", .glo "TooMany", .cls "Game", .noat "Game" "many", .noat "Game" "again", .noat "Game" "highest", .noat "Game" "rule", .noat "Game" "drawn_values", .noat "Game" "sum_so_far", .noat "Game" "now", .noat "Game" "most", .noat "Game" "certain", .cls "Asked", .noat "Asked" "function", .meth "Game" "ended", .meth "Asked" "stake", .meth "Game" "price", .meth "Game" "worth_behind", .meth "Game" "play", .meth "Game" "reached", .meth "Game" "turns", .meth "Game" "past", .meth "Game" "worth", .mkr "Game", .glo "Game", .mkr "Asked", .glo "Asked", .glo "Ended", .glo "NoFraction", .glo "NoStake", .glo "SureError", .exm "Ended" "SureError" true, .exm "NoStake" "SureError" true, .noat "NoStake" "turn", .exc "Ended", .exc "NoFraction", .glo "is_whole", .glo "in_common", .glo "lowest", .glo "plus", .glo "minus", .glo "times", .glo "over", .glo "below", .glo "is_fraction", .glo "within", .glo "_law_cell_at", .glo "_law_begin", .glo "_law_draw", .glo "_law_low", .glo "_law_add", .glo "_law_times", .glo "_law_sum", .glo "_law_top", .glo "_law_value", .glo "_law_is", .glo "_law_price", .glo "_law_behind", .glo "_law_played", .glo "_law_stands", .glo "_law_twice", .glo "_law_right", .glo "law"]
abbrev R : PySem.W.OpenRow := PySem.W.OpenLaw.row PySem.Challenge.rw_surecount_k35_plays_refused
def exl : List (PySem.W.Frag → Bool) := [fun K => oexB K "NoStake", fun K => oinB K "NoStake", fun K => He.tupB K "NOUGHT_games" [.int 0, .int 1], fun K => He.tupB K "NOUGHT_rules" [.int 0, .int 1], fun K => He.tupB K "ONE_games" [.int 1, .int 1], fun K => He.tupB K "ONE_rules" [.int 1, .int 1], fun K => supB K "SureError", fun K => xfB K (He.ga K "NoStake"), fun K => excB K "Ended", fun K => excB K "NoStake", fun K => kitB2 K "Ended" (.ref (He.ga K "Ended")) true, fun K => kitB2 K "Ended" (.ref (He.ga K "NoBallot")) false, fun K => kitB2 K "Ended" (.ref (He.ga K "NoFraction")) false, fun K => kitB2 K "Ended" (.ref (He.ga K "NoMargin")) false, fun K => kitB2 K "Ended" (.ref (He.ga K "NoName")) false, fun K => kitB2 K "Ended" (.ref (He.ga K "NoNumber")) false, fun K => kitB2 K "Ended" (.ref (He.ga K "NoOutcome")) false, fun K => kitB2 K "Ended" (.ref (He.ga K "NoRow")) false, fun K => kitB2 K "Ended" (.ref (He.ga K "NoStake")) false, fun K => kitB2 K "Ended" (.ref (He.ga K "NoText")) false, fun K => kitB2 K "Ended" (.ref (He.ga K "TooMany")) false, fun K => kitB2 K "Ended" (.type "ValueError") true, fun K => kitB2 K "NoStake" (.ref (He.ga K "Ended")) false, fun K => kitB2 K "NoStake" (.ref (He.ga K "NoBallot")) false, fun K => kitB2 K "NoStake" (.ref (He.ga K "NoFraction")) false, fun K => kitB2 K "NoStake" (.ref (He.ga K "NoMargin")) false, fun K => kitB2 K "NoStake" (.ref (He.ga K "NoName")) false, fun K => kitB2 K "NoStake" (.ref (He.ga K "NoNumber")) false, fun K => kitB2 K "NoStake" (.ref (He.ga K "NoOutcome")) false, fun K => kitB2 K "NoStake" (.ref (He.ga K "NoRow")) false, fun K => kitB2 K "NoStake" (.ref (He.ga K "NoStake")) true, fun K => kitB2 K "NoStake" (.ref (He.ga K "NoText")) false, fun K => kitB2 K "NoStake" (.ref (He.ga K "TooMany")) false, fun K => kitB2 K "NoStake" (.type "ValueError") true]
def exB (K : PySem.W.Frag) : Bool := exl.all fun f => f K
def reachA : List PySem.Addr := ([3, 6, 4, 21, 31, 44, 56, 68, 80, 92, 104, 116, 128, 147, 166, 185, 194, 201, 208, 215, 222, 229, 236, 243] : List PySem.Addr) ++ ([250, 251, 252, 332, 337, 338, 345, 362, 390, 399, 406, 413, 420, 427, 434, 441, 448, 455, 462, 469, 476, 483, 490, 497] : List PySem.Addr) ++ ([504, 509, 0, 20, 30, 43, 55, 67, 79, 91, 103, 115, 127, 146, 165, 184, 193, 200, 207, 214, 221, 228, 235, 242] : List PySem.Addr) ++ ([249, 331, 344, 361, 389, 398, 405, 412, 419, 426, 433, 440, 447, 454, 461, 468, 475, 482, 489, 496, 503, 508, 15, 16] : List PySem.Addr) ++ ([17, 18, 19, 29, 32, 42, 54, 66, 78, 90, 102, 114, 126, 144, 145, 163, 164, 182, 183, 188, 189, 190, 191, 192] : List PySem.Addr) ++ ([195, 196, 197, 198, 199, 202, 203, 204, 205, 206, 209, 210, 211, 212, 213, 216, 217, 218, 219, 220, 223, 224, 225, 226] : List PySem.Addr) ++ ([227, 230, 231, 232, 233, 234, 237, 238, 239, 240, 241, 244, 245, 246, 247, 248, 266, 273, 280, 287, 294, 301, 308, 315] : List PySem.Addr) ++ ([322, 329, 330, 333, 334, 339, 340, 341, 342, 343, 359, 360, 363, 364, 380, 387, 388, 393, 394, 395, 396, 397, 400, 401] : List PySem.Addr) ++ ([402, 403, 404, 407, 408, 409, 410, 411, 414, 415, 416, 417, 418, 421, 422, 423, 424, 425, 428, 429, 430, 431, 432, 435] : List PySem.Addr) ++ ([436, 437, 438, 439, 442, 443, 444, 445, 446, 449, 450, 451, 452, 453, 456, 457, 458, 459, 460, 463, 464, 465, 466, 467] : List PySem.Addr) ++ ([470, 471, 472, 473, 474, 477, 478, 479, 480, 481, 484, 485, 486, 487, 488, 491, 492, 493, 494, 495, 498, 499, 500, 501] : List PySem.Addr) ++ ([502, 505, 506, 507, 143, 162, 181, 265, 272, 279, 286, 293, 300, 307, 314, 321, 328, 358, 379, 386, 138, 139, 140, 141] : List PySem.Addr) ++ ([142, 157, 158, 159, 160, 161, 176, 177, 178, 179, 180, 260, 261, 262, 263, 264, 267, 268, 269, 270, 271, 274, 275, 276] : List PySem.Addr) ++ ([277, 278, 281, 282, 283, 284, 285, 288, 289, 290, 291, 292, 295, 296, 297, 298, 299, 302, 303, 304, 305, 306, 309, 310] : List PySem.Addr) ++ ([311, 312, 313, 316, 317, 318, 319, 320, 323, 324, 325, 326, 327, 353, 354, 355, 356, 357, 374, 375, 376, 377, 378, 381] : List PySem.Addr) ++ ([382, 383, 384, 385, 2] : List PySem.Addr)
def tf : List He.Defn := [p_law___law_good]
abbrev hk : PySem.W.Hook := Gx.hookTA reachA fa fn exB tf
def ob (s : PySem.W.SharedT) : He.AlD × Bool := Gx.obsTA reachA fa fn exB tf (HandSHeadRun.getT s)
theorem ob_eq (s : PySem.W.SharedT) : ob s = hk.obs s.abs := Gx.obsTA_eq (HandSHeadRun.getT_eq s)
def loose : List PySem.Str := (["_wall", "is_whole", "in_common", "lowest", "plus", "minus", "times", "over", "below", "is_fraction", "within", "_law_cell_at", "_law_begin", "_law_draw", "_law_low", "_law_add"] : List PySem.Str) ++ (["_law_times", "_law_sum", "_law_top", "_law_value", "_law_is", "_law_price", "_law_behind", "_law_played", "_law_stands", "_law_twice", "_law_right", "SureError", "NoFraction", "NoOutcome", "NoNumber", "Ended"] : List PySem.Str) ++ (["NoMargin", "NoBallot", "NoRow", "NoName", "NoText", "TooMany", "NoStake", "Game", "Rule", "Asked", "NOUGHT_games", "ONE_games", "NOUGHT_rules", "ONE_rules"] : List PySem.Str)
def kof (s : PySem.W.SharedT) : PySem.W.Frag := He.frT (HandSHeadRun.getT s) reachA
def exT (s : PySem.W.SharedT) : Bool := exB (kof s) && He.tabsB (HandSHeadRun.getT s) tf (kof s)
open PySem PySem.W HandSHeadRun PySem.Calls in
theorem runB1 (w : World) : ∀ os : OsState, (HandSHeadRun.endF (HandSHeadRun.stepQ (HandSHeadRun.denQ HandSHeadRun.tabQ) R.prog w) 12000 R.prog w os).map (fun s => looksF R.prog (boot_heap w.params) s.abs) = some true := by
  intro os
  kernel_rfl
open PySem PySem.W HandSHeadRun PySem.Calls in
theorem runB2 (w : World) : ∀ os : OsState, (HandSHeadRun.endF (HandSHeadRun.stepQ (HandSHeadRun.denQ HandSHeadRun.tabQ) R.prog w) 12000 R.prog w os).map (fun s => ((fa.all fun f => f.ok (kof s)) && exT s)) = some true := by
  intro os
  kernel_rfl
open PySem PySem.W HandSHeadRun PySem.Calls in
theorem runB3 (w : World) : ∀ os : OsState, (HandSHeadRun.endF (HandSHeadRun.stepQ (HandSHeadRun.denQ HandSHeadRun.tabQ) R.prog w) 12000 R.prog w os).map (fun s => (fn.all fun d => d.ok (kof s))) = some true := by
  intro os
  kernel_rfl
open PySem PySem.W HandSHeadRun PySem.Calls in
theorem runS (w : World) : ∀ os : OsState, (HandSHeadRun.endF (HandSHeadRun.stepQ (HandSHeadRun.denQ HandSHeadRun.tabQ) R.prog w) 12000 R.prog w os).map (fun s => seenQ (PySem.W.view R.prog [51]) loose (importedModules R.prog.main.body) (fun s => xlAt (PySem.W.view R.prog [51]) [] s && recOk R.toRowW.records s) s.abs) = some (openGood (PySem.W.view R.prog [51]) loose) := by
  intro os
  kernel_rfl
open PySem PySem.W HandSHeadRun PySem.Calls in
theorem runF (w : World) : ∀ os : OsState, (HandSHeadRun.endF (HandSHeadRun.stepQ (HandSHeadRun.denQ HandSHeadRun.tabQ) R.prog w) 12000 R.prog w os).map (fun s => fn.map fun d => He.fnW (kof s) d.at_) = some (fn.map He.DefD.val) := by
  intro os
  kernel_rfl
theorem map3 {α γ ε : Type} {x : Option α} {l : α → Bool} {a b e : α → Bool} {g : α → γ} {h : α → ε} {vg : γ} {vh : ε} (h1 : x.map l = some true) (h4 : x.map (fun s => a s && e s) = some true) (h5 : x.map b = some true) (h2 : x.map g = some vg) (h3 : x.map h = some vh) : x.map (fun s => (l s, g s, ((a s && b s, h s), e s))) = some (true, vg, ((true, vh), true)) := by
  cases x with
  | none => cases h1
  | some s =>
    rw [Option.map_some] at h1 h2 h3 h4 h5 ⊢
    have k2 := Bool.and_eq_true_iff.mp (Option.some.inj h4)
    rw [Option.some.inj h1, k2.1, k2.2, Option.some.inj h5, Option.some.inj h2, Option.some.inj h3]
    rfl
theorem run (w : World) : HandSHeadRun.RunEq R (PySem.W.view R.prog [51]) hk ob 12000 loose w := fun os => map3 (runB1 w os) (runB2 w os) (runB3 w os) (runS w os) (runF w os)
end Lw
namespace Dk
open PySem PySem.Spec PyProof.Rows L2
theorem at_map {ns : List Int} {i : Int} (h0 : 0 ≤ i) (h1 : i < ns.length) : ∃ z : Int, atI (ns.map V.int) i = some (.int z) := by
  obtain ⟨n, rfl⟩ : ∃ n : Nat, i = (n : Int) := ⟨i.toNat, by omega⟩
  have hl : n < ns.length := by omega
  exact ⟨ns[n], atI_nat (by simp [hl])⟩
theorem dp_all {K : PySem.W.Frag} {H : Hp} : ∀ ns : List Int, DpAll K H (ns.map V.int) (ns.map PyData.int)
  | [] => .nil
  | n :: r => .cons (.int n) (dp_all r)
theorem dp_ints {K : PySem.W.Frag} {H : Hp} {a : Addr} {ns : List Int} (h : SqL K H a (ns.map V.int)) : Dp K H (.ref a) (.list (ns.map PyData.int)) := .lst h (dp_all ns)
theorem shaped_ints (ns : List Int) : SeqAt.shaped (.list (ns.map PyData.int)) = true := by
  have h : ∀ l : List Int, PyData.canLayAll0 (l.map PyData.int) = true ∧ PyData.depthAll (l.map PyData.int) = 0 := fun l => by
    induction l with
    | nil => exact ⟨by simp [PyData.canLayAll0], by simp [PyData.depthAll]⟩
    | cons n r ih => exact ⟨by simp [PyData.canLayAll0, PyData.canLay0, ih.1], by simp [PyData.depthAll, PyData.depth, ih.2]⟩
  obtain ⟨h1, h2⟩ := h ns
  simp [SeqAt.shaped, PyData.canLay0, PyData.depth, h1, h2]
theorem eqv_nil (ns : List Int) : (!PyData.eqv (.list (ns.map PyData.int)) (.list [])) = !ns.isEmpty := by
  cases ns <;> simp [PyData.eqv, PyData.eqvAll]
theorem last (ds : List Int) (h : 0 < ds.length) : ∃ es e, ds = es ++ [e] := ⟨ds.dropLast, ds.getLast (by intro z; rw [z] at h; exact absurd h (by decide)), (List.dropLast_concat_getLast _).symm⟩
theorem last2 (ds : List Int) (h : 1 < ds.length) : ∃ es e2 e1, ds = es ++ [e2, e1] := by
  obtain ⟨fs, e1, rfl⟩ := last ds (by omega)
  obtain ⟨es, e2, rfl⟩ := last fs (by simp at h; omega)
  exact ⟨es, e2, e1, by simp⟩
theorem last3 (ds : List Int) (h : 2 < ds.length) : ∃ es e3 e2 e1, ds = es ++ [e3, e2, e1] := by
  obtain ⟨fs, e1, rfl⟩ := last ds (by omega)
  obtain ⟨es, e3, e2, rfl⟩ := last2 fs (by simp at h; omega)
  exact ⟨es, e3, e2, e1, by simp⟩
theorem sub {P : Int → Prop} {es r : List Int} (h : ∀ d ∈ es ++ r, P d) : ∀ d ∈ es, P d := fun d hd => h d (List.mem_append_left _ hd)
theorem shaped_tints (ns : List Int) : SeqAt.shaped (.tuple (ns.map PyData.int)) = true := by
  have h : ∀ l : List Int, PyData.canLayAll0 (l.map PyData.int) = true ∧ PyData.depthAll (l.map PyData.int) = 0 := fun l => by
    induction l with
    | nil => exact ⟨by simp [PyData.canLayAll0], by simp [PyData.depthAll]⟩
    | cons n r ih => exact ⟨by simp [PyData.canLayAll0, PyData.canLay0, ih.1], by simp [PyData.depthAll, PyData.depth, ih.2]⟩
  obtain ⟨h1, h2⟩ := h ns
  simp [SeqAt.shaped, PyData.canLay0, PyData.depth, h1, h2]
theorem emod_le {a b : Int} (h : 0 ≤ a) (hb : 0 < b) : a % b ≤ a := by
  have e := Int.emod_add_mul_ediv a b
  have z := Int.mul_nonneg (Int.le_of_lt hb) (Int.ediv_nonneg h (Int.le_of_lt hb))
  omega
end Dk
namespace Lw
open PySem PySem.Spec PyProof.Rows L2 Gx
/-- a deck: a new list of so many numbers, each from 0 on, of at most 61 figures -/
def Deck (ds : List Int) : Prop := ∀ d ∈ ds, 0 ≤ d ∧ d < 10000000000000000000000000000000000000000000000000000000000000
theorem Deck.last {es : List Int} {e : Int} (h : Deck (es ++ [e])) : Deck es ∧ 0 ≤ e ∧ e < 10000000000000000000000000000000000000000000000000000000000000 := ⟨fun d hd => h d (List.mem_append_left _ hd), h e (by simp)⟩
end Lw
namespace Ct
open PySem PySem.Spec PyProof.Rows L2
theorem to {xs : List V} {k : Nat} (h : k ≤ xs.length) : cutV xs none (some (k : Int)) = xs.take k := by
  unfold cutV
  rw [HT.sIx_none, HT.sIx_nat, Nat.min_eq_left h]
  simp
theorem from_ {xs : List V} {k : Nat} (h : k ≤ xs.length) : cutV xs (some (k : Int)) none = xs.drop k := by
  unfold cutV
  rw [HT.sIx_none, HT.sIx_nat, Nat.min_eq_left h]
  rw [List.take_of_length_le]
  simp
theorem but1 {xs : List V} : cutV xs none (some (-1)) = xs.dropLast := by
  unfold cutV
  rw [HT.sIx_none]
  have e : HT.sIx xs.length xs.length (some (-1)) = xs.length - 1 := by
    unfold HT.sIx
    simp
    omega
  rw [e, List.dropLast_eq_take]
  simp
theorem cutI {ns : List Int} {lo hi : Nat} : ∃ ms : List Int, cutV (ns.map V.int) (some (lo : Int)) (some (hi : Int)) = ms.map V.int ∧ ms.length ≤ hi - lo := by
  refine ⟨(ns.drop (min lo ns.length)).take (min hi ns.length - min lo ns.length), ?_, ?_⟩
  · unfold cutV
    rw [HT.sIx_nat, HT.sIx_nat, List.length_map, List.map_take, List.map_drop]
  · rw [List.length_take, List.length_drop]
    omega
end Ct
namespace Dt
open PySem PySem.Spec PyProof.Rows L2 Gx
/-! shape, with its depth -/
def Sh (k : Nat) (d : PyData) : Prop := d.canLay0 = true ∧ d.depth ≤ k
theorem sh_int {k : Nat} (i : Int) : Sh k (.int i) := ⟨by simp [PyData.canLay0], by simp [PyData.depth]⟩
theorem sh_bl {k : Nat} (b : Bool) : Sh k (.bool b) := ⟨by simp [PyData.canLay0], by simp [PyData.depth]⟩
theorem sh_non {k : Nat} : Sh k .none := ⟨by simp [PyData.canLay0], by simp [PyData.depth]⟩
theorem sh_str {k : Nat} {x : Str} (h : PyData.strOk x = true) : Sh k (.str x) := ⟨by simpa [PyData.canLay0] using h, by simp [PyData.depth]⟩
theorem shAll {k : Nat} : ∀ {ds : List PyData}, (∀ d ∈ ds, Sh k d) → PyData.canLayAll0 ds = true ∧ PyData.depthAll ds ≤ k
  | [], _ => ⟨by simp [PyData.canLayAll0], by simp [PyData.depthAll]⟩
  | d :: ds, h => by
    obtain ⟨h1, h2⟩ := shAll fun x hx => h x (List.mem_cons_of_mem d hx)
    obtain ⟨g1, g2⟩ := h d (List.mem_cons_self ..)
    exact ⟨by simp [PyData.canLayAll0, g1, h1], by simp [PyData.depthAll]; omega⟩
theorem sh_tup {k : Nat} {ds : List PyData} (h : ∀ d ∈ ds, Sh k d) : Sh (k + 1) (.tuple ds) := by
  obtain ⟨h1, h2⟩ := shAll h
  exact ⟨by simpa [PyData.canLay0] using h1, by simp [PyData.depth]; omega⟩
theorem sh_lst {k : Nat} {ds : List PyData} (h : ∀ d ∈ ds, Sh k d) : Sh (k + 1) (.list ds) := by
  obtain ⟨h1, h2⟩ := shAll h
  exact ⟨by simpa [PyData.canLay0] using h1, by simp [PyData.depth]; omega⟩
theorem Sh.mono {k n : Nat} {d : PyData} (h : Sh k d) (e : k ≤ n) : Sh n d := ⟨h.1, Nat.le_trans h.2 e⟩
theorem Sh.ok {k : Nat} {d : PyData} (h : Sh k d) (e : k ≤ 64 := by decide) : SeqAt.shaped d = true := by
  unfold SeqAt.shaped
  rw [h.1, decide_eq_true (Nat.le_trans h.2 e)]
  rfl
theorem refl {k : Nat} {d : PyData} (h : Sh k d) : PyData.eqv d d = true := SeqAt.eqv_refl _ h.1
/-! data taken apart -/
variable {K : PySem.W.Frag} {H : Hp}
theorem tup {v : V} {ds : List PyData} (h : Dp K H v (.tuple ds)) : ∃ p xs, v = .ref p ∧ SqT K H p xs ∧ DpAll K H xs ds := by
  cases h with
  | tup a b => exact ⟨_, _, rfl, a, b⟩
theorem lst {v : V} {ds : List PyData} (h : Dp K H v (.list ds)) : ∃ p xs, v = .ref p ∧ SqL K H p xs ∧ DpAll K H xs ds := by
  cases h with
  | lst a b => exact ⟨_, _, rfl, a, b⟩
theorem int {v : V} {i : Int} (h : Dp K H v (.int i)) : v = .int i := by cases h; rfl
theorem str {v : V} {x : Str} (h : Dp K H v (.str x)) : v = .str x := by cases h; rfl
theorem bl {v : V} {b : Bool} (h : Dp K H v (.bool b)) : v = .bl b := by cases h; rfl
theorem non {v : V} (h : Dp K H v .none) : v = .non := by cases h; rfl
theorem len : ∀ {xs : List V} {ds : List PyData}, DpAll K H xs ds → xs.length = ds.length
  | _, _, .nil => rfl
  | _, _, .cons _ r => congrArg (· + 1) (len r)
theorem at_ : ∀ {xs : List V} {ds : List PyData} {i : Nat} {x : V}, DpAll K H xs ds → xs[i]? = some x → ∃ d, ds[i]? = some d ∧ Dp K H x d
  | _, _, 0, x, .cons (d := d) a r, e => ⟨d, rfl, (Option.some.inj e) ▸ a⟩
  | _, _, i + 1, x, .cons a r, e => at_ (i := i) r e
theorem at2 : ∀ {xs : List V} {ds : List PyData} {i : Nat} {d : PyData}, DpAll K H xs ds → ds[i]? = some d → ∃ x, xs[i]? = some x ∧ Dp K H x d
  | _, _, 0, d, .cons (v := v) a r, e => ⟨v, rfl, (Option.some.inj e) ▸ a⟩
  | _, _, i + 1, d, .cons a r, e => at2 (i := i) r e
theorem cons {x : V} {xs : List V} {d : PyData} {ds : List PyData} (h : DpAll K H (x :: xs) (d :: ds)) : Dp K H x d ∧ DpAll K H xs ds := by
  cases h with
  | cons a b => exact ⟨a, b⟩
theorem pair {v : V} {a b : PyData} (h : Dp K H v (.tuple [a, b])) : ∃ p x y, v = .ref p ∧ SqT K H p [x, y] ∧ Dp K H x a ∧ Dp K H y b := by
  obtain ⟨p, xs, rfl, s, g⟩ := tup h
  cases g with
  | cons h1 g =>
    cases g with
    | cons h2 g =>
      cases g
      exact ⟨p, _, _, rfl, s, h1, h2⟩
theorem app : ∀ {xs : List V} {ds : List PyData} {ys : List V} {es : List PyData}, DpAll K H xs ds → DpAll K H ys es → DpAll K H (xs ++ ys) (ds ++ es)
  | _, _, _, _, .nil, g => g
  | _, _, _, _, .cons a r, g => .cons a (app r g)
theorem take : ∀ {xs : List V} {ds : List PyData} (n : Nat), DpAll K H xs ds → DpAll K H (xs.take n) (ds.take n)
  | _, _, 0, _ => .nil
  | _, _, n + 1, .nil => .nil
  | _, _, n + 1, .cons a r => .cons a (take n r)
theorem drop : ∀ {xs : List V} {ds : List PyData} (n : Nat), DpAll K H xs ds → DpAll K H (xs.drop n) (ds.drop n)
  | _, _, 0, h => h
  | _, _, n + 1, .nil => .nil
  | _, _, n + 1, .cons a r => drop n r
theorem set : ∀ {xs : List V} {ds : List PyData} (n : Nat) {x : V} {d : PyData}, DpAll K H xs ds → Dp K H x d → DpAll K H (xs.set n x) (ds.set n d)
  | _, _, _, _, _, .nil, _ => .nil
  | _, _, 0, _, _, .cons a r, h => .cons h r
  | _, _, n + 1, _, _, .cons a r, h => .cons a (set n r h)
theorem two {x y : V} {a b : PyData} (h1 : Dp K H x a) (h2 : Dp K H y b) : DpAll K H [x, y] [a, b] := .cons h1 (.cons h2 .nil)
theorem intz (ns : List Int) : DpAll K H (ns.map V.int) (ns.map PyData.int) := Dk.dp_all ns
theorem strz : ∀ ns : List Str, DpAll K H (ns.map V.str) (ns.map PyData.str)
  | [] => .nil
  | n :: r => .cons (.str n) (strz r)
theorem of_strs : ∀ {xs : List V} {ns : List Str}, DpAll K H xs (ns.map PyData.str) → xs = ns.map V.str
  | _, [], .nil => rfl
  | _, n :: r, .cons a g => by rw [str a, of_strs g]; rfl
theorem of_ints : ∀ {xs : List V} {ns : List Int}, DpAll K H xs (ns.map PyData.int) → xs = ns.map V.int
  | _, [], .nil => rfl
  | _, n :: r, .cons a g => by rw [int a, of_ints g]; rfl
/-- the list's own data, once more where others are appended -/
theorem snoc {xs : List V} {ds : List PyData} {x : V} {d : PyData} (h : DpAll K H xs ds) (g : Dp K H x d) : DpAll K H (xs ++ [x]) (ds ++ [d]) := app h (.cons g .nil)
theorem noLs_of : ∀ {ds : List PyData}, (∀ d ∈ ds, noL d = true) → noLs ds = true
  | [], _ => by simp [noLs]
  | d :: ds, h => by simp [noLs, h d (List.mem_cons_self ..), noLs_of fun x hx => h x (List.mem_cons_of_mem d hx)]
theorem noL_tup {ds : List PyData} (h : ∀ d ∈ ds, noL d = true) : noL (.tuple ds) = true := by simpa [noL] using noLs_of h
/-! == of data, told -/
theorem eqv_int (a b : Int) : PyData.eqv (.int a) (.int b) = decide (a = b) := by simp [PyData.eqv]; by_cases h : a = b <;> simp [h]
theorem eqv_bl (a b : Bool) : PyData.eqv (.bool a) (.bool b) = decide (a = b) := by cases a <;> cases b <;> simp [PyData.eqv]
end Dt
namespace Dt
open PySem PySem.Spec PyProof.Rows L2 Gx
theorem k_ne {K : PySem.W.Frag} {H : Hp} {Q : VK} {x y : V} {d : PyData} {k : Nat} (hx : Dp K H x d) (hy : Dp K H y d) (s : Sh k d) (q : Q (.bl false) H) (e : k ≤ 64 := by decide) : rNeU K x y H Q := k_neD hx hy (by rw [refl s]; exact q) (s.ok e) (s.ok e)
end Dt
namespace Dt
open PySem PySem.Spec PyProof.Rows L2 Gx
theorem bools {K : PySem.W.Frag} {H : Hp} : ∀ bs : List Bool, DpAll K H (bs.map V.bl) (bs.map PyData.bool)
  | [] => .nil
  | b :: r => .cons (.bl b) (bools r)
theorem sh_bools (bs : List Bool) : Sh 1 (.tuple (bs.map PyData.bool)) := sh_tup fun d hd => by
  obtain ⟨b, _, rfl⟩ := List.mem_map.mp hd
  exact sh_bl b
end Dt
namespace Fr
open PySem PySem.Spec PyProof.Rows L2
/-- a fraction's two parts -/
abbrev fq (q : Rat) : List V := [.int q.num, .int (q.den : Int)]
def fqd (q : Rat) : PyData := .tuple [.int q.num, .int (q.den : Int)]
theorem dp_fq {K : PySem.W.Frag} {H : Hp} {p : Addr} {q : Rat} (h : SqT K H p (fq q)) : Dp K H (.ref p) (fqd q) := .tup h (.cons (.int _) (.cons (.int _) .nil))
theorem shaped_fq (q : Rat) : SeqAt.shaped (fqd q) = true := by simp [SeqAt.shaped, fqd, PyData.canLay0, PyData.canLayAll0, PyData.depth, PyData.depthAll]
theorem eqv_fq (x y : Rat) : PyData.eqv (fqd x) (fqd y) = decide (x = y) := by
  have e : PyData.eqv (fqd x) (fqd y) = (decide (x.num = y.num) && decide (x.den = y.den)) := by
    simp [fqd, PyData.eqv, PyData.eqvAll]
    by_cases h1 : x.num = y.num <;> by_cases h2 : x.den = y.den <;> simp [h1, h2] <;> omega
  rw [e]
  by_cases h : x = y
  · simp [h]
  · have : ¬ (x.num = y.num ∧ x.den = y.den) := fun z => h (Rat.ext z.1 z.2)
    simp [h]
    exact fun z w => this ⟨z, w⟩
/-! ### the greatest divisor -/
theorem gcd_fmod (a b : Int) : Int.gcd b (a.fmod b) = Int.gcd a b := by
  rw [Int.fmod_def, Int.gcd_sub_mul_left_right, Int.gcd_comm]
theorem fmod_nn (a : Int) {b : Int} (h : 0 < b) : 0 ≤ a.fmod b := by
  rw [Int.fmod_eq_emod_of_nonneg a (by omega)]
  exact Int.emod_nonneg _ (by omega)
theorem fmod_less {a b : Int} (h : b ≠ 0) : (a.fmod b).natAbs < b.natAbs := by
  rcases Int.lt_or_lt_of_ne h with c | c
  · have e : a.fmod b = -((-a).fmod (-b)) := by
      rw [Int.fmod_def, Int.fmod_def, Int.neg_fdiv_neg]
      have := Int.neg_mul b (a.fdiv b)
      omega
    have h1 := fmod_nn (-a) (show 0 < -b by omega)
    have h2 := Int.fmod_lt_of_pos (-a) (show 0 < -b by omega)
    omega
  · have h1 := fmod_nn a c
    have h2 := Int.fmod_lt_of_pos a c
    omega
/-- what lowest makes -/
theorem low_num {a b d : Int} (hb : b ≠ 0) (hd : d = if b < 0 then 0 - (Int.gcd a b : Int) else (Int.gcd a b : Int)) : a.fdiv d = (Rat.divInt a b).num := by
  have g0 : (0 : Int) < Int.gcd a b := by have := Int.gcd_pos_of_ne_zero_right a hb; omega
  obtain ⟨k, hk⟩ := Int.gcd_dvd_left a b
  rw [Rat.num_divInt, Int.gcd_comm b a]
  rcases Int.lt_or_lt_of_ne hb with c | c
  · rw [if_pos c] at hd
    rw [Int.sign_eq_neg_one_of_neg c]
    have e1 : a.fdiv d = -k := by
      have : a = d * (-k) := by rw [hd, Int.zero_sub, Int.neg_mul_neg]; exact hk
      rw [this]
      exact Int.mul_fdiv_cancel_left _ (by omega)
    have e2 : -1 * a / (Int.gcd a b : Int) = -k := by
      have : -1 * a = (Int.gcd a b : Int) * (-k) := by rw [Int.mul_neg, ← hk]; omega
      rw [this]
      exact Int.mul_ediv_cancel_left _ (by omega)
    rw [e1, e2]
  · rw [if_neg (by omega)] at hd
    rw [Int.sign_eq_one_of_pos c, Int.one_mul, hd, Int.fdiv_eq_ediv_of_nonneg a (by omega)]
theorem low_den {a b d : Int} (hb : b ≠ 0) (hd : d = if b < 0 then 0 - (Int.gcd a b : Int) else (Int.gcd a b : Int)) : b.fdiv d = ((Rat.divInt a b).den : Int) := by
  have g0 : (0 : Int) < Int.gcd a b := by have := Int.gcd_pos_of_ne_zero_right a hb; omega
  obtain ⟨k, hk⟩ := Int.gcd_dvd_right a b
  have e3 : ((Rat.divInt a b).den : Int) = (b.natAbs : Int) / (Int.gcd a b : Int) := by
    rw [Rat.den_divInt, if_neg hb, Int.gcd_comm b a]
    rfl
  rw [e3]
  rcases Int.lt_or_lt_of_ne hb with c | c
  · rw [if_pos c] at hd
    have e1 : b.fdiv d = -k := by
      have : b = d * (-k) := by rw [hd, Int.zero_sub, Int.neg_mul_neg]; exact hk
      rw [this]
      exact Int.mul_fdiv_cancel_left _ (by omega)
    have e2 : (b.natAbs : Int) / (Int.gcd a b : Int) = -k := by
      have : (b.natAbs : Int) = (Int.gcd a b : Int) * (-k) := by rw [Int.mul_neg, ← hk]; omega
      rw [this]
      exact Int.mul_ediv_cancel_left _ (by omega)
    rw [e1, e2]
  · rw [if_neg (by omega)] at hd
    rw [hd, Int.fdiv_eq_ediv_of_nonneg b (by omega)]
    congr 1
    omega
/-! ### sizes -/
def Sz (n : Nat) (q : Rat) : Prop := q.num.natAbs < 2 ^ n ∧ q.den < 2 ^ n
theorem pw {a b : Nat} (h : a ≤ b) : 2 ^ a ≤ 2 ^ b := Nat.pow_le_pow_right (by decide) h
theorem Sz.mono {m n : Nat} {q : Rat} (h : Sz m q) (l : m ≤ n) : Sz n q := ⟨Nat.lt_of_lt_of_le h.1 (pw l), Nat.lt_of_lt_of_le h.2 (pw l)⟩
theorem divInt_num_le {a b : Int} (hb : b ≠ 0) : (Rat.divInt a b).num.natAbs ≤ a.natAbs := by
  rw [Rat.num_divInt]
  have h : (b.sign * a / (Int.gcd b a : Int)).natAbs ≤ (b.sign * a).natAbs := Int.natAbs_ediv_le_natAbs _ _
  have e : (b.sign * a).natAbs = a.natAbs := by
    rw [Int.natAbs_mul, Int.natAbs_sign_of_ne_zero hb, Nat.one_mul]
  omega
theorem divInt_den_le {a b : Int} (hb : b ≠ 0) : (Rat.divInt a b).den ≤ b.natAbs := by
  rw [Rat.den_divInt, if_neg hb]
  exact Nat.div_le_self _ _
theorem sz_divInt {a b : Int} {n : Nat} (hb : b ≠ 0) (h1 : a.natAbs < 2 ^ n) (h2 : b.natAbs < 2 ^ n) : Sz n (Rat.divInt a b) := ⟨Nat.lt_of_le_of_lt (divInt_num_le hb) h1, Nat.lt_of_le_of_lt (divInt_den_le hb) h2⟩
theorem mul_lt {a b : Int} {m n : Nat} (ha : a.natAbs < 2 ^ m) (hb : b.natAbs < 2 ^ n) : (a * b).natAbs < 2 ^ (m + n) := by
  rw [Int.natAbs_mul, Nat.pow_add]
  exact Nat.mul_lt_mul'' ha hb
theorem add_lt {a b : Int} {m : Nat} (ha : a.natAbs < 2 ^ m) (hb : b.natAbs < 2 ^ m) : (a + b).natAbs < 2 ^ (m + 1) := by
  rw [Nat.pow_succ]
  omega
theorem sub_lt {a b : Int} {m : Nat} (ha : a.natAbs < 2 ^ m) (hb : b.natAbs < 2 ^ m) : (a - b).natAbs < 2 ^ (m + 1) := by
  rw [Nat.pow_succ]
  omega
theorem den_ne (q : Rat) : (q.den : Int) ≠ 0 := by have := q.den_nz; omega
theorem den_pos (q : Rat) : (0 : Int) < (q.den : Int) := by have := q.den_nz; omega
theorem add_eq (x y : Rat) : Rat.divInt (x.num * y.den + y.num * x.den) (x.den * y.den) = x + y := by
  rw [Rat.add_def']
  exact Rat.divInt_ofNat _ (x.den * y.den)
theorem sub_eq (x y : Rat) : Rat.divInt (x.num * y.den - y.num * x.den) (x.den * y.den) = x - y := by
  rw [Rat.sub_def']
  exact Rat.divInt_ofNat _ (x.den * y.den)
theorem mul_eq (x y : Rat) : Rat.divInt (x.num * y.num) (x.den * y.den) = x * y := by
  rw [Rat.mul_def']
  exact Rat.divInt_ofNat _ (x.den * y.den)
theorem div_eq (x y : Rat) : Rat.divInt (x.num * y.den) (x.den * y.num) = x / y := by
  rw [Rat.div_def, Rat.inv_def, ← Rat.divInt_mul_divInt, Rat.num_divInt_den]
theorem Sz.den {n : Nat} {q : Rat} (h : Sz n q) : ((q.den : Int)).natAbs < 2 ^ n := h.2
theorem dd_lt {x y : Rat} {m n : Nat} (hx : Sz m x) (hy : Sz n y) : ((x.den : Int) * (y.den : Int)).natAbs < 2 ^ (m + n) := mul_lt hx.den hy.den
theorem up1 {a : Int} {n : Nat} (h : a.natAbs < 2 ^ n) : a.natAbs < 2 ^ (n + 1) := Nat.lt_of_lt_of_le h (pw (by omega))
theorem nn_lt {x y : Rat} {m n : Nat} (hx : Sz m x) (hy : Sz n y) : (x.num * (y.den : Int) + y.num * (x.den : Int)).natAbs < 2 ^ (m + n + 1) := by
  have h1 := mul_lt hx.1 hy.den
  have h2 := mul_lt hy.1 hx.den
  rw [Nat.add_comm n m] at h2
  exact add_lt h1 h2
theorem ns_lt {x y : Rat} {m n : Nat} (hx : Sz m x) (hy : Sz n y) : (x.num * (y.den : Int) - y.num * (x.den : Int)).natAbs < 2 ^ (m + n + 1) := by
  have h1 := mul_lt hx.1 hy.den
  have h2 := mul_lt hy.1 hx.den
  rw [Nat.add_comm n m] at h2
  exact sub_lt h1 h2
theorem Sz.add {x y : Rat} {m n : Nat} (hx : Sz m x) (hy : Sz n y) : Sz (m + n + 1) (x + y) := by
  rw [← add_eq]
  exact sz_divInt (Int.mul_ne_zero (den_ne x) (den_ne y)) (nn_lt hx hy) (up1 (dd_lt hx hy))
theorem Sz.sub {x y : Rat} {m n : Nat} (hx : Sz m x) (hy : Sz n y) : Sz (m + n + 1) (x - y) := by
  rw [← sub_eq]
  exact sz_divInt (Int.mul_ne_zero (den_ne x) (den_ne y)) (ns_lt hx hy) (up1 (dd_lt hx hy))
theorem Sz.mul {x y : Rat} {m n : Nat} (hx : Sz m x) (hy : Sz n y) : Sz (m + n) (x * y) := by
  rw [← mul_eq]
  exact sz_divInt (Int.mul_ne_zero (den_ne x) (den_ne y)) (mul_lt hx.1 hy.1) (dd_lt hx hy)
theorem num_ne {y : Rat} (h : y ≠ 0) : y.num ≠ 0 := fun z => h (Rat.num_eq_zero.mp z)
theorem Sz.div {x y : Rat} {m n : Nat} (hx : Sz m x) (hy : Sz n y) : Sz (m + n) (x / y) := by
  by_cases h : y = 0
  · rw [h, Rat.div_def, Rat.inv_zero, Rat.mul_zero]
    have h3 : 1 < 2 ^ m := by have := hx.2; have := x.den_nz; omega
    exact ⟨Nat.lt_of_lt_of_le (by decide) (Nat.one_le_two_pow (n := m + n)), Nat.lt_of_lt_of_le h3 (pw (by omega))⟩
  · rw [← div_eq]
    exact sz_divInt (Int.mul_ne_zero (den_ne x) (num_ne h)) (mul_lt hx.1 hy.den) (mul_lt hx.den hy.1)
theorem gcd_small {a b : Int} {n : Nat} (hb : b ≠ 0) (h : b.natAbs < 2 ^ n) : Int.gcd a b < 2 ^ n := Nat.lt_of_le_of_lt (Int.gcd_le_natAbs_right a hb) h
end Fr
namespace Lw
open PySem PySem.Spec PyProof.Rows L2 Gx
/-- a divisor that the division may have -/
def Okd (a b : Int) : Prop := (a.natAbs < 2 ^ 13500 ∧ b.natAbs < 2 ^ 13500) ∨ Int.gcd a b < 2 ^ 9000
theorem Okd.div {a b d : Int} (h : Okd a b) (e : d.natAbs = Int.gcd a b) : Builtin.divisionGoesByPylong a d = false ∧ Builtin.divisionGoesByPylong b d = false := by
  rcases h with ⟨h1, h2⟩ | h
  · exact ⟨noPy_mid h1, noPy_mid h2⟩
  · exact ⟨noPy_low (by rw [e]; exact h), noPy_low (by rw [e]; exact h)⟩
theorem okd_den {a b : Int} {n : Nat} (hb : b ≠ 0) (h : b.natAbs < 2 ^ n) (hn : n ≤ 9000) : Okd a b := .inr (Nat.lt_of_lt_of_le (Fr.gcd_small hb h) (Fr.pw hn))
/-- a great fraction times a small one: what both parts have in common is small -/
theorem okd_mul {x y : Rat} {n : Nat} (hy : y ≠ 0) (sy : Fr.Sz n y) (h : 2 * n ≤ 9000) : Okd (x.num * y.num) ((x.den : Int) * (y.den : Int)) := by
  refine .inr (Nat.lt_of_lt_of_le ?_ (Fr.pw h))
  have e : Int.gcd (x.num * y.num) ((x.den : Int) * (y.den : Int)) = Nat.gcd (x.num.natAbs * y.num.natAbs) (x.den * y.den) := by
    unfold Int.gcd
    rw [Int.natAbs_mul, Int.natAbs_mul, Int.natAbs_natCast, Int.natAbs_natCast]
  rw [e]
  have d := Nat.gcd_mul_right_dvd_mul_gcd (x.num.natAbs * y.num.natAbs) x.den y.den
  have c0 : Nat.gcd (x.num.natAbs * y.num.natAbs) x.den ∣ y.num.natAbs := by
    have cp : Nat.Coprime x.den x.num.natAbs := x.reduced.symm
    have h2 : Nat.Coprime (Nat.gcd (x.num.natAbs * y.num.natAbs) x.den) x.num.natAbs := Nat.Coprime.coprime_dvd_left (Nat.gcd_dvd_right ..) cp
    exact h2.dvd_of_dvd_mul_left (Nat.gcd_dvd_left ..)
  have c1 := Nat.gcd_dvd_right (x.num.natAbs * y.num.natAbs) y.den
  have yn : y.num.natAbs ≠ 0 := fun z => hy (Rat.num_eq_zero.mp (Int.natAbs_eq_zero.mp z))
  have l0 := Nat.le_of_dvd (by omega) c0
  have l1 := Nat.le_of_dvd y.den_pos c1
  have pos : 0 < Nat.gcd (x.num.natAbs * y.num.natAbs) x.den * Nat.gcd (x.num.natAbs * y.num.natAbs) y.den := Nat.mul_pos (Nat.gcd_pos_of_pos_right _ x.den_pos) (Nat.gcd_pos_of_pos_right _ y.den_pos)
  have l2 := Nat.le_of_dvd pos d
  have l3 := Nat.mul_le_mul l0 l1
  have l4 : y.num.natAbs * y.den < 2 ^ n * 2 ^ n := Nat.mul_lt_mul'' sy.1 sy.2
  have e2 : 2 ^ (2 * n) = 2 ^ n * 2 ^ n := by rw [Nat.two_mul, Nat.pow_add]
  omega
end Lw
namespace Lw
open PySem PySem.Spec PyProof.Rows L2 Gx
/-- whether a value is a whole number, by its type -/
def Whole (K : PySem.W.Frag) (H : Hp) (x : V) (b : Bool) : Prop := ∃ (t : Value) (b1 b2 : Bool), TyX K H x t ∧ PySem.W.kitOne K t (.type "int") = some b1 ∧ PySem.W.kitOne K t (.type "bool") = some b2 ∧ b = (b1 && !b2)
theorem Whole.int {K : PySem.W.Frag} {H : Hp} (i : Int) : Whole K H (.int i) true := ⟨.type "int", true, false, .base (.int i), kit_ty (by decide +kernel), kit_ty (by decide +kernel), rfl⟩
theorem Whole.bl {K : PySem.W.Frag} {H : Hp} (b : Bool) : Whole K H (.bl b) false := ⟨.type "bool", true, true, .base (.bl b), kit_ty (by decide +kernel), kit_ty (by decide +kernel), rfl⟩
theorem Whole.str {K : PySem.W.Frag} {H : Hp} (x : Str) : Whole K H (.str x) false := ⟨.type "str", false, false, .base (.str x), kit_ty (by decide +kernel), kit_ty (by decide +kernel), rfl⟩
theorem Whole.non {K : PySem.W.Frag} {H : Hp} : Whole K H .non false := ⟨.type "NoneType", false, false, .base .non, kit_ty (by decide +kernel), kit_ty (by decide +kernel), rfl⟩
theorem Whole.same {K : PySem.W.Frag} {H H' : Hp} (e : Same H H') {x : V} {b : Bool} (h : Whole K H x b) : Whole K H' x b := by
  obtain ⟨t, b1, b2, ht, h⟩ := h
  exact ⟨t, b1, b2, tyx_same e ht, h⟩
theorem Whole.tup {K : PySem.W.Frag} {H : Hp} {p : Addr} {xs : List V} (h : SqT K H p xs) : Whole K H (.ref p) false := ⟨.type "tuple", false, false, ty_tup h, kit_ty (by decide +kernel), kit_ty (by decide +kernel), rfl⟩
theorem Whole.lst {K : PySem.W.Frag} {H : Hp} {p : Addr} {xs : List V} (h : SqL K H p xs) : Whole K H (.ref p) false := ⟨.type "list", false, false, ty_lst h, kit_ty (by decide +kernel), kit_ty (by decide +kernel), rfl⟩
theorem Whole.dict {K : PySem.W.Frag} {H : Hp} {p : Addr} {kvs : List (Key × V)} (h : H p = some (.dK kvs)) : Whole K H (.ref p) false := ⟨.type "dict", false, false, .base (.dK h), kit_ty (by decide +kernel), kit_ty (by decide +kernel), rfl⟩
/-- whether a thing is a fraction -/
inductive IsF (K : PySem.W.Frag) (H : Hp) : V → Bool → Prop
  | kind {x : V} {t : Value} (ht : TyX K H x t) (hk : PySem.W.kitOne K t (.type "tuple") = some false) : IsF K H x false
  | len {p : Addr} {xs : List V} (h : SqT K H p xs) (hl : xs.length ≠ 2) : IsF K H (.ref p) false
  | parts {p : Addr} {u v : V} {bu bv : Bool} (h : SqT K H p [u, v]) (hu : Whole K H u bu) (hv : Whole K H v bv) (hb : (bu && bv) = false) : IsF K H (.ref p) false
  | whole {p : Addr} {c d : Int} (h : SqT K H p [.int c, .int d]) : IsF K H (.ref p) (decide (0 < d) && decide (Int.gcd c d = 1))
theorem IsF.int {K : PySem.W.Frag} {H : Hp} (i : Int) : IsF K H (.int i) false := .kind (.base (.int i)) (kit_ty (by decide +kernel))
theorem IsF.bl {K : PySem.W.Frag} {H : Hp} (b : Bool) : IsF K H (.bl b) false := .kind (.base (.bl b)) (kit_ty (by decide +kernel))
theorem IsF.str {K : PySem.W.Frag} {H : Hp} (x : Str) : IsF K H (.str x) false := .kind (.base (.str x)) (kit_ty (by decide +kernel))
theorem IsF.non {K : PySem.W.Frag} {H : Hp} : IsF K H .non false := .kind (.base .non) (kit_ty (by decide +kernel))
theorem IsF.lst {K : PySem.W.Frag} {H : Hp} {p : Addr} {xs : List V} (h : SqL K H p xs) : IsF K H (.ref p) false := .kind (ty_lst h) (kit_ty (by decide +kernel))
theorem IsF.dict {K : PySem.W.Frag} {H : Hp} {p : Addr} {kvs : List (Key × V)} (h : H p = some (.dK kvs)) : IsF K H (.ref p) false := .kind (.base (.dK h)) (kit_ty (by decide +kernel))
theorem IsF.yes {K : PySem.W.Frag} {H : Hp} {p : Addr} {q : Rat} (h : SqT K H p (Fr.fq q)) : IsF K H (.ref p) true := by
  have e2 : Int.gcd q.num (q.den : Int) = 1 := q.reduced
  have z := IsF.whole h
  rw [decide_eq_true (Fr.den_pos q), decide_eq_true e2] at z
  exact z
theorem all_cons {α : Type} {P : α → Prop} {a : α} {l : List α} (h : P a) (r : ∀ x ∈ l, P x) : ∀ x ∈ a :: l, P x := fun x hx => by
  rcases List.mem_cons.mp hx with e | e
  · rw [e]; exact h
  · exact r x e
theorem at_mem {xs : List V} {i : Int} (h0 : 0 ≤ i) (h1 : i < xs.length) : ∃ v, v ∈ xs ∧ atI xs i = some v := by
  obtain ⟨n, rfl⟩ : ∃ n : Nat, i = (n : Int) := ⟨i.toNat, by omega⟩
  exact ⟨xs[n]'(by omega), List.getElem_mem _, atI_nat (by simp)⟩
end Lw
namespace Lw
open PySem PySem.Spec PyProof.Rows L2 Gx
/-- fractions at some addresses -/
def Fqs (K : PySem.W.Frag) (H : Hp) (vs : List V) (qs : List Rat) : Prop := Paired (fun v q => ∃ p, v = V.ref p ∧ SqT K H p (Fr.fq q)) vs qs
theorem Fqs.same {K : PySem.W.Frag} {H H' : Hp} (e : Same H H') : ∀ {vs : List V} {qs : List Rat}, Fqs K H vs qs → Fqs K H' vs qs
  | _, _, .nil => .nil
  | _, _, .cons ⟨p, h1, h2⟩ r => .cons ⟨p, h1, seqT_same e h2⟩ (Fqs.same e r)
theorem Fqs.get {K : PySem.W.Frag} {H : Hp} : ∀ {vs : List V} {qs : List Rat} {i : Nat} {v : V}, Fqs K H vs qs → vs[i]? = some v → ∃ p q, v = .ref p ∧ qs[i]? = some q ∧ SqT K H p (Fr.fq q)
  | _, _, 0, v, .cons (b := q) ⟨p, h1, h2⟩ r, e => ⟨p, q, (Option.some.inj e).symm.trans h1, rfl, h2⟩
  | _, _, i + 1, v, .cons ⟨p, h1, h2⟩ r, e => Fqs.get (i := i) r e
theorem Fqs.len {K : PySem.W.Frag} {H : Hp} {vs : List V} {qs : List Rat} (h : Fqs K H vs qs) : vs.length = qs.length := Paired.length h
def sum (qs : List Rat) : Rat := qs.foldl (· + ·) 0
def szs (ns : List Nat) : Nat := ns.foldl (fun a n => a + n + 1) 1
theorem szs_snoc (l : List Nat) (n : Nat) : szs (l ++ [n]) = szs l + n + 1 := by simp [szs]
theorem sum_snoc (l : List Rat) (q : Rat) : sum (l ++ [q]) = sum l + q := by simp [sum]
theorem szs_take (l : List Nat) (i : Nat) : szs (l.take i) ≤ szs l := by
  have h : ∀ (m : List Nat) (a b : Nat), a ≤ b → a ≤ m.foldl (fun a n => a + n + 1) b := fun m => by
    induction m with
    | nil => intro a b h; exact h
    | cons x r ih => intro a b h; exact ih a _ (show a ≤ b + x + 1 by omega)
  have e : szs l = (l.drop i).foldl (fun a n => a + n + 1) (szs (l.take i)) := by
    unfold szs
    rw [← List.foldl_append, List.take_append_drop]
  rw [e]
  exact h _ _ _ (Nat.le_refl _)
theorem take_snoc {α : Type} {l : List α} {i : Nat} {x : α} (h : l[i]? = some x) : l.take (i + 1) = l.take i ++ [x] := by
  rw [List.take_add_one, h]
  rfl
theorem Paired.get {α β : Type} {F : α → β → Prop} : ∀ {as : List α} {bs : List β} {i : Nat} {a : α}, Paired F as bs → as[i]? = some a → ∃ b, bs[i]? = some b ∧ F a b
  | _, _, 0, a, .cons (b := b) h r, e => ⟨b, rfl, (Option.some.inj e) ▸ h⟩
  | _, _, i + 1, a, .cons h r, e => Paired.get (i := i) r e
theorem Fqs.snoc {K : PySem.W.Frag} {H : Hp} {p : Addr} {q : Rat} (h : SqT K H p (Fr.fq q)) : ∀ {vs : List V} {qs : List Rat}, Fqs K H vs qs → Fqs K H (vs ++ [.ref p]) (qs ++ [q])
  | _, _, .nil => .cons ⟨p, rfl, h⟩ .nil
  | _, _, .cons a r => .cons a (Fqs.snoc h r)
theorem Fqs.put {K : PySem.W.Frag} {H : Hp} {p : Addr} {q : Rat} (h : SqT K H p (Fr.fq q)) : ∀ (k : Nat) {vs : List V} {qs : List Rat}, Fqs K H vs qs → Fqs K H (vs.take k ++ [.ref p] ++ vs.drop k) (qs.take k ++ [q] ++ qs.drop k)
  | 0, _, _, r => .cons ⟨p, rfl, h⟩ r
  | _ + 1, _, _, .nil => .cons ⟨p, rfl, h⟩ .nil
  | k + 1, _, _, .cons a r => .cons a (Fqs.put h k r)
theorem foldl_add (l : List Rat) (a : Rat) : l.foldl (· + ·) a = a + sum l := by
  induction l generalizing a with
  | nil => show a = a + 0; rw [Rat.add_zero]
  | cons x r ih =>
    show r.foldl (· + ·) (a + x) = a + r.foldl (· + ·) (0 + x)
    rw [ih, ih, Rat.zero_add, Rat.add_assoc]
theorem sum_app (l m : List Rat) : sum (l ++ m) = sum l + sum m := by
  show (l ++ m).foldl (· + ·) 0 = _
  rw [List.foldl_append]
  exact foldl_add m _
theorem sum_put (l : List Rat) (k : Nat) (q : Rat) : sum (l.take k ++ [q] ++ l.drop k) = sum l + q := by
  have e : sum l = sum (l.take k) + sum (l.drop k) := by rw [← sum_app, List.take_append_drop]
  rw [sum_app, sum_app, e, show sum [q] = q from Rat.zero_add q, Rat.add_assoc, Rat.add_assoc, Rat.add_comm q]
theorem Fqs.dp {K : PySem.W.Frag} {H : Hp} : ∀ {vs : List V} {qs : List Rat}, Fqs K H vs qs → DpAll K H vs (qs.map Fr.fqd)
  | _, _, .nil => .nil
  | _, _, .cons ⟨p, e, h⟩ r => by
    subst e
    exact .cons (Fr.dp_fq h) (Fqs.dp r)
theorem shaped_fqs (qs : List Rat) : SeqAt.shaped (.list (qs.map Fr.fqd)) = true := by
  have h : ∀ l : List Rat, PyData.canLayAll0 (l.map Fr.fqd) = true ∧ PyData.depthAll (l.map Fr.fqd) ≤ 1 := fun l => by
    induction l with
    | nil => exact ⟨by simp [PyData.canLayAll0], by simp [PyData.depthAll]⟩
    | cons n r ih => exact ⟨by simp [PyData.canLayAll0, PyData.canLay0, Fr.fqd, ih.1], by simp [PyData.depthAll, PyData.depth, Fr.fqd]; have := ih.2; omega⟩
  obtain ⟨h1, h2⟩ := h qs
  have h3 : PyData.depthAll (qs.map Fr.fqd) + 1 ≤ 64 := by omega
  simp [SeqAt.shaped, PyData.canLay0, PyData.depth, h1, h3]
theorem szs_rep (n : Nat) : szs (List.replicate n 200) = 1 + 201 * n := by
  induction n with
  | zero => rfl
  | succ n ih => rw [List.replicate_succ', szs_snoc, ih]; omega
def All200 (qs : List Rat) : Prop := ∀ q ∈ qs, Fr.Sz 200 q
theorem All200.paired : ∀ {qs : List Rat}, All200 qs → Paired (fun q n => Fr.Sz n q) qs (List.replicate qs.length 200)
  | [], _ => .nil
  | q :: r, h => .cons (h q (List.mem_cons_self ..)) (All200.paired fun x hx => h x (List.mem_cons_of_mem _ hx))
end Lw
namespace Lw
open PySem PySem.Spec PyProof.Rows L2 Gx
theorem Fqs.imm {K : PySem.W.Frag} {H H' : Hp} (e : Imm H H') : ∀ {vs : List V} {qs : List Rat}, Fqs K H vs qs → Fqs K H' vs qs
  | _, _, .nil => .nil
  | _, _, .cons ⟨p, h, g⟩ r => .cons ⟨p, h, seqT_imm e g⟩ (Fqs.imm e r)
end Lw
namespace Cm
open PySem PySem.Spec PyProof.Rows L2 Gx
/-- a claim -/
inductive C
  | claim
  | beats (o t : Str)
  | over (n : Str) (s : Rat)
  | under (n : Str) (s : Rat)
def greatest : C → Rat
  | .claim => 1/2
  | .beats _ _ => 1
  | .over _ s => (1/2) / s
  | .under _ s => (1/2) / (1 - s)
def valueOf : C → Option Str → Rat
  | .claim, _ => 1/2
  | .beats o t, m => if m = some o then 1 else if m = some t then 0 else 1/2
  | .over n s, m => if m = none ∨ m = some (Str.ofString "") then 1/2 else if m = some n then greatest (.over n s) else 0
  | .under n s, m => if m = none ∨ m = some (Str.ofString "") then 1/2 else if m = some n then 0 else greatest (.under n s)
def value (c : C) (m : Option Str) : Rat := if m = some (Str.ofString "?") then 0 else valueOf c m
def Ok (n : Nat) : C → Prop
  | .over _ s => 0 < s ∧ s < 1 ∧ Fr.Sz n s
  | .under _ s => 0 < s ∧ s < 1 ∧ Fr.Sz n s
  | _ => True
def At (K : PySem.W.Frag) (H : Hp) (a : Addr) : C → Prop
  | .claim => ∃ dx, H a = some (.ins (He.ga K "Claim") dx [])
  | .beats o t => ∃ dx, H a = some (.ins (He.ga K "Beats") dx [("one", .str o), ("other", .str t)])
  | .over n s => ∃ dx q, H a = some (.ins (He.ga K "Over") dx [("name", .str n), ("share", .ref q)]) ∧ SqT K H q (Fr.fq s)
  | .under n s => ∃ dx q, H a = some (.ins (He.ga K "Under") dx [("name", .str n), ("share", .ref q)]) ∧ SqT K H q (Fr.fq s)
theorem At.same {K : PySem.W.Frag} {H H' : Hp} (e : Same H H') {a : Addr} : ∀ {c : C}, At K H a c → At K H' a c
  | .claim, ⟨dx, h⟩ => ⟨dx, e _ _ h⟩
  | .beats _ _, ⟨dx, h⟩ => ⟨dx, e _ _ h⟩
  | .over _ _, ⟨dx, q, h, g⟩ => ⟨dx, q, e _ _ h, seqT_same e g⟩
  | .under _ _, ⟨dx, q, h, g⟩ => ⟨dx, q, e _ _ h, seqT_same e g⟩
theorem ins_lst {C dx : Addr} {fs : List (Str × V)} {xs : List V} : HO.ins C dx fs ≠ HO.lst xs := fun z => by cases z
theorem At.but {K : PySem.W.Frag} {H H' : Hp} {l : Addr} {ys : List V} (b : But l H H') (hl : H l = some (.lst ys)) {a : Addr} : ∀ {c : C}, At K H a c → At K H' a c
  | .claim, ⟨dx, h⟩ => ⟨dx, b _ _ (ne_of h hl ins_lst) h⟩
  | .beats _ _, ⟨dx, h⟩ => ⟨dx, b _ _ (ne_of h hl ins_lst) h⟩
  | .over _ _, ⟨dx, q, h, g⟩ => ⟨dx, q, b _ _ (ne_of h hl ins_lst) h, seqT_but b hl g⟩
  | .under _ _, ⟨dx, q, h, g⟩ => ⟨dx, q, b _ _ (ne_of h hl ins_lst) h, seqT_but b hl g⟩
/-- a mark: a text, or None -/
def mv : Option Str → V
  | none => .non
  | some s => .str s
theorem k_eqM {K : PySem.W.Frag} {H : Hp} {Q : VK} {m : Option Str} {s : Str} (q : Q (.bl (decide (m = some s))) H) : rEqU K (mv m) (.str s) H Q := by
  cases m with
  | none => exact k_eqS rfl (by rw [show decide (mv none = .str s) = decide ((none : Option Str) = some s) by simp [mv]]; exact q)
  | some t => exact k_eqT (by rw [show decide (t = s) = decide (some t = some s) by by_cases h : t = s <;> simp [h]]; exact q)
theorem k_neM {K : PySem.W.Frag} {H : Hp} {Q : VK} {m : Option Str} {s : Str} (q : Q (.bl (!decide (m = some s))) H) : rNeU K (mv m) (.str s) H Q := by
  cases m with
  | none => exact k_neS rfl (by rw [show decide (mv none = .str s) = decide ((none : Option Str) = some s) by simp [mv]]; exact q)
  | some t => exact k_neT (by rw [show decide (t = s) = decide (some t = some s) by by_cases h : t = s <;> simp [h]]; exact q)
theorem dec_non (m : Option Str) : decide (mv m = V.non) = decide (m = none) := by
  cases m <;> simp [mv]
theorem fq0 : Fr.fq 0 = [.int 0, .int 1] := rfl
theorem fq1 : Fr.fq 1 = [.int 1, .int 1] := rfl
theorem fqh : Fr.fq (1/2) = [.int 1, .int 2] := by
  have e1 : (1/2 : Rat).num = 1 := by decide +kernel
  have e2 : (1/2 : Rat).den = 2 := by decide +kernel
  show [V.int (1/2 : Rat).num, V.int ((1/2 : Rat).den : Int)] = _
  rw [e1, e2]
  rfl
theorem sz0 {n : Nat} : Fr.Sz (n + 2) 0 := ⟨by show (0 : Int).natAbs < _; exact Nat.two_pow_pos _, by show 1 < 2 ^ (n + 2); have := Nat.two_pow_pos n; rw [Nat.pow_add]; omega⟩
theorem sz1 {n : Nat} : Fr.Sz (n + 2) 1 := ⟨by show 1 < 2 ^ (n + 2); have := Nat.two_pow_pos n; rw [Nat.pow_add]; omega, by show 1 < 2 ^ (n + 2); have := Nat.two_pow_pos n; rw [Nat.pow_add]; omega⟩
theorem szh {n : Nat} : Fr.Sz (n + 2) (1/2) := by
  have e1 : (1/2 : Rat).num = 1 := by decide +kernel
  have e2 : (1/2 : Rat).den = 2 := by decide +kernel
  have := Nat.two_pow_pos n
  refine ⟨?_, ?_⟩
  · rw [e1, Nat.pow_add]; show 1 < _; omega
  · rw [e2, Nat.pow_add]; omega
theorem ne1 {s : Rat} (h : s < 1) : 1 - s ≠ 0 := fun z => by
  have e : s = 1 := by grind
  rw [e] at h
  exact absurd h (by decide)
theorem ne0 {s : Rat} (h : 0 < s) : s ≠ 0 := fun z => by rw [z] at h; exact absurd h (by decide)
theorem sz_greatest {n : Nat} : ∀ {c : C}, Ok n c → Fr.Sz (n + 5) (greatest c)
  | .claim, _ => (szh (n := n)).mono (by omega)
  | .beats _ _, _ => (sz1 (n := n)).mono (by omega)
  | .over _ s, h => (Fr.Sz.div (m := 2) (szh (n := 0)) h.2.2).mono (by omega)
  | .under _ s, h => (Fr.Sz.div (m := 2) (szh (n := 0)) (Fr.Sz.sub (m := 2) (sz1 (n := 0)) h.2.2)).mono (by omega)
theorem sz_valueOf {n : Nat} (c : C) (h : Ok n c) (m : Option Str) : Fr.Sz (n + 5) (valueOf c m) := by
  have g := sz_greatest h
  have a0 : Fr.Sz (n + 5) 0 := (sz0 (n := n)).mono (by omega)
  have a1 : Fr.Sz (n + 5) 1 := (sz1 (n := n)).mono (by omega)
  have ah : Fr.Sz (n + 5) (1/2) := (szh (n := n)).mono (by omega)
  cases c with
  | claim => exact ah
  | beats o t =>
    show Fr.Sz (n + 5) (if m = some o then 1 else if m = some t then 0 else 1/2)
    split
    · exact a1
    · split
      · exact a0
      · exact ah
  | over k s =>
    show Fr.Sz (n + 5) (if m = none ∨ m = some (Str.ofString "") then 1/2 else if m = some k then greatest (.over k s) else 0)
    split
    · exact ah
    · split
      · exact g
      · exact a0
  | under k s =>
    show Fr.Sz (n + 5) (if m = none ∨ m = some (Str.ofString "") then 1/2 else if m = some k then 0 else greatest (.under k s))
    split
    · exact ah
    · split
      · exact a0
      · exact g
theorem sz_value {n : Nat} (c : C) (h : Ok n c) (m : Option Str) : Fr.Sz (n + 5) (value c m) := by
  unfold value
  split
  · exact (sz0 (n := n)).mono (by omega)
  · exact sz_valueOf c h m
/-! shares -/
theorem num_pos {s : Rat} (h : 0 < s) : 0 < s.num := by
  have := (Rat.lt_iff 0 s).mp h
  have e : (0 : Rat).num * (s.den : Int) = 0 := by rw [show (0 : Rat).num = 0 from rfl, Int.zero_mul]
  have e2 : s.num * ((0 : Rat).den : Int) = s.num := by rw [show (0 : Rat).den = 1 from rfl]; omega
  rw [e, e2] at this
  exact this
theorem num_lt {s : Rat} (h : s < 1) : s.num < (s.den : Int) := by
  have := (Rat.lt_iff s 1).mp h
  have e : s.num * ((1 : Rat).den : Int) = s.num := by rw [show (1 : Rat).den = 1 from rfl]; omega
  have e2 : (1 : Rat).num * (s.den : Int) = (s.den : Int) := by rw [show (1 : Rat).num = 1 from rfl]; omega
  rw [e, e2] at this
  exact this
theorem share_pos {a b : Int} (ha : 1 ≤ a) (hb : a < b) : 0 < Rat.divInt a b ∧ Rat.divInt a b < 1 := by
  constructor
  · have e : Rat.divInt a b = (a : Rat) / (b : Rat) := Rat.divInt_eq_div a b
    rw [e, Rat.lt_div_iff (by exact_mod_cast (show (0 : Int) < b by omega)), Rat.zero_mul]
    exact_mod_cast (show (0 : Int) < a by omega)
  · have e : Rat.divInt a b = (a : Rat) / (b : Rat) := Rat.divInt_eq_div a b
    rw [e, Rat.div_lt_iff (by exact_mod_cast (show (0 : Int) < b by omega)), Rat.one_mul]
    exact_mod_cast hb
theorem half_num : (1/2 : Rat).num = 1 := by decide +kernel
theorem half_den : (1/2 : Rat).den = 2 := by decide +kernel
theorem half_over (s : Rat) : Rat.divInt (s.den : Int) (2 * s.num) = (1/2) / s := by
  rw [← Fr.div_eq, half_num, half_den, Int.one_mul]
  rfl
theorem one_sub (s : Rat) : Rat.divInt ((s.den : Int) - s.num) (s.den : Int) = 1 - s := by
  rw [← Fr.sub_eq]
  show _ = Rat.divInt (1 * (s.den : Int) - s.num * 1) (1 * (s.den : Int))
  rw [Int.one_mul, Int.mul_one]
theorem half_under (s : Rat) : Rat.divInt (s.den : Int) (2 * ((s.den : Int) - s.num)) = (1/2) / (1 - s) := by
  rw [← one_sub s]
  have e : (1/2 : Rat) = Rat.divInt 1 2 := by decide +kernel
  rw [e, Rat.div_def, Rat.inv_divInt, Rat.divInt_mul_divInt, Int.one_mul]
/-! marks among names -/
theorem flat_mv (m : Option Str) : flatV (mv m) = true := by cases m <;> rfl
theorem flat_strs (ns : List Str) : (ns.map V.str).all flatV = true := by simp [flatV]
theorem in_mv (m : Option Str) : ∀ ns : List Str, inV (mv m) (ns.map V.str) = decide (∃ n ∈ ns, m = some n) := fun ns => by
  unfold inV
  induction ns with
  | nil => simp
  | cons a r ih =>
    rw [List.map_cons, List.any_cons, ih]
    cases m with
    | none => simp [mv, eqV]
    | some t =>
      have e : eqV (V.str a) (mv (some t)) = decide (a = t) := by
        show (a == t) = _
        by_cases h : a = t
        · simp [h]
        · rw [decide_eq_false h, beq_eq_false_iff_ne.mpr h]
      rw [e]
      by_cases h : a = t
      · simp [h]
      · have h2 : ¬ t = a := fun z => h z.symm
        simp [h, h2]
/-! a claim's method, whatever its class -/
def pick {α : Type} (c : C) (a b d e : α) : α := match c with
  | .claim => a
  | .beats _ _ => b
  | .over _ _ => d
  | .under _ _ => e
theorem pick_same {α : Type} (c : C) (a : α) : pick c a a a a = a := by cases c <;> rfl
theorem k_m4 {K : PySem.W.Frag} {σ : L2.St} {H : Hp} {Q : VK} {ta : TE} {t : TA} {m : Str} {sp1 sp2 sp3 sp4 : Sp} {E : L2.St → XK} {a : Addr} {c : C} (hev : ∀ Q : VK, Q (.ref a) H → ta σ H Q) (hc : At K H a c) (q : t σ H fun vs H2 => (pick c sp1 sp2 sp3 sp4) (.ref a :: vs) H2 Q (E σ))
    (h1 : (m == (Str.ofString "one")) = false := by decide +kernel) (h2 : (m == (Str.ofString "other")) = false := by decide +kernel) (h3 : (m == (Str.ofString "name")) = false := by decide +kernel) (h4 : (m == (Str.ofString "share")) = false := by decide +kernel) :
    tOr2 (tMethS (He.ga K "Claim") m sp1 E ta t) (tOr2 (tMethS (He.ga K "Beats") m sp2 E ta t) (tOr2 (tMethS (He.ga K "Over") m sp3 E ta t) (tMethS (He.ga K "Under") m sp4 E ta t))) σ H Q := by
  cases c with
  | claim =>
    obtain ⟨dx, hi⟩ := hc
    exact k_o1 (k_meth (hev _ (k_methx hi lk0 q)))
  | beats o u =>
    obtain ⟨dx, hi⟩ := hc
    exact k_o2 (k_o1 (k_meth (hev _ (k_methx hi (lkz h1 (lkz h2 lk0)) q))))
  | over n s =>
    obtain ⟨dx, p, hi, _⟩ := hc
    exact k_o2 (k_o2 (k_o1 (k_meth (hev _ (k_methx hi (lkz h3 (lkz h4 lk0)) q)))))
  | under n s =>
    obtain ⟨dx, p, hi, _⟩ := hc
    exact k_o2 (k_o2 (k_o2 (k_meth (hev _ (k_methx hi (lkz h3 (lkz h4 lk0)) q)))))
end Cm
namespace Cm
open PySem PySem.Spec PyProof.Rows L2 Gx Lw
theorem Fqs.but {K : PySem.W.Frag} {H H' : Hp} {l : Addr} {ys : List V} (b : But l H H') (hl : H l = some (.lst ys)) : ∀ {vs : List V} {qs : List Rat}, Fqs K H vs qs → Fqs K H' vs qs
  | _, _, .nil => .nil
  | _, _, .cons ⟨p, h1, h2⟩ r => .cons ⟨p, h1, seqT_but b hl h2⟩ (Fqs.but b hl r)
/-- whether a claim holds of marks -/
def holds (c : C) (ms : List (Option Str)) : Prop := (ms.length : Rat) / 2 < Lw.sum (ms.map (value c))
instance (c : C) (ms : List (Option Str)) : Decidable (holds c ms) := inferInstanceAs (Decidable ((ms.length : Rat) / 2 < Lw.sum (ms.map (value c))))
theorem sizes {n : Nat} (c : C) (h : Ok n c) : ∀ ms : List (Option Str), Paired (fun q k => Fr.Sz k q) (ms.map (value c)) (ms.map fun _ => n + 5)
  | [] => .nil
  | m :: r => .cons (sz_value c h m) (sizes c h r)
theorem szs_rep {α : Type} (n : Nat) : ∀ ms : List α, Lw.szs (ms.map fun _ => n + 5) = ms.length * (n + 6) + 1 := fun ms => by
  have h : ∀ (l : List α) (b : Nat), (l.map fun _ => n + 5).foldl (fun a n => a + n + 1) b = b + l.length * (n + 6) := fun l => by
    induction l with
    | nil => intro b; simp
    | cons x r ih =>
      intro b
      rw [List.map_cons, List.foldl_cons, ih, List.length_cons, Nat.succ_mul]
      omega
  unfold Lw.szs
  rw [h]
  omega
theorem half_of (n : Nat) : Rat.divInt (n : Int) 2 = (n : Rat) / 2 := by
  rw [Rat.divInt_eq_div]
  rfl
end Cm
namespace Lw
open PySem PySem.Spec PyProof.Rows L2 Gx
theorem Fqs.but {K : PySem.W.Frag} {H H' : Hp} {l : Addr} {ys : List V} (b : But l H H') (hl : H l = some (.lst ys)) {vs : List V} {qs : List Rat} (a : Fqs K H vs qs) : Fqs K H' vs qs := Cm.Fqs.but b hl a
end Lw
namespace Cm
open PySem PySem.Spec PyProof.Rows L2 Gx
/-- what a dealt mark may be -/
def Mk (ns : List Str) (b : Bool) (m : Option Str) : Prop := (∃ n ∈ ns, m = some n) ∨ m = some (Str.ofString "") ∨ m = none ∨ (b = true ∧ m = some (Str.ofString "?"))
theorem strs_mv (ns : List Str) : ns.map V.str = (ns.map some).map mv := by rw [List.map_map]; rfl
theorem mk_names {ns : List Str} {b : Bool} : ∀ m ∈ ns.map some, Mk ns b m := fun m hm => by
  obtain ⟨n, hn, rfl⟩ := List.mem_map.mp hm
  exact .inl ⟨n, hn, rfl⟩
theorem all_app {α : Type} {P : α → Prop} {a b : List α} (h : ∀ x ∈ a, P x) (g : ∀ x ∈ b, P x) : ∀ x ∈ a ++ b, P x := fun x hx => (List.mem_append.mp hx).elim (h x) (g x)
theorem all_take {α : Type} {P : α → Prop} {a : List α} {n : Nat} (h : ∀ x ∈ a, P x) : ∀ x ∈ a.take n, P x := fun x hx => h x (List.mem_of_mem_take hx)
theorem all_drop {α : Type} {P : α → Prop} {a : List α} {n : Nat} (h : ∀ x ∈ a, P x) : ∀ x ∈ a.drop n, P x := fun x hx => h x (List.mem_of_mem_drop hx)
theorem get_map {α : Type} {f : α → V} {xs : List α} {j : Nat} {x : V} (h : (xs.map f)[j]? = some x) : ∃ a, xs[j]? = some a ∧ x = f a := by
  rw [List.getElem?_map] at h
  cases e : xs[j]? with
  | none => rw [e] at h; cases h
  | some m => rw [e] at h; exact ⟨m, rfl, (Option.some.inj h).symm⟩
theorem at_map {α : Type} {f : α → V} {xs : List α} {i : Int} (h0 : 0 ≤ i) (h1 : i < xs.length) : ∃ a, a ∈ xs ∧ atI (xs.map f) i = some (f a) := by
  obtain ⟨n, rfl⟩ := Int.eq_ofNat_of_zero_le h0
  exact ⟨xs[n]'(by omega), List.getElem_mem _, atI_nat (by rw [List.getElem?_map, List.getElem?_eq_getElem (by omega)]; rfl)⟩
end Cm
namespace Cm
open PySem PySem.Spec PyProof.Rows L2 Gx
/-! more about values -/
theorem half_nn : (0 : Rat) ≤ 1/2 := by decide +kernel
theorem one_nn : (0 : Rat) ≤ 1 := by decide +kernel
theorem half_le {s : Rat} (h0 : 0 < s) (h1 : s < 1) : (1/2 : Rat) ≤ (1/2) / s := by
  refine Rat.not_lt.mp fun z => ?_
  rw [Rat.div_lt_iff h0] at z
  have := Rat.mul_le_mul_of_nonneg_left (Rat.le_of_lt h1) half_nn
  rw [Rat.mul_one] at this
  exact absurd (Std.lt_of_lt_of_le z this) (Rat.lt_irrefl)
theorem sub_pos {s : Rat} (h1 : s < 1) : 0 < 1 - s ∧ (0 < s → 1 - s < 1) := by
  constructor
  · grind
  · intro h; grind
theorem val_nn {n : Nat} (c : C) (h : Ok n c) (m : Option Str) : 0 ≤ value c m ∧ value c m ≤ greatest c := by
  have g : 0 ≤ greatest c ∧ (1/2 : Rat) ≤ greatest c := by
    cases c with
    | claim => exact ⟨half_nn, Rat.le_refl⟩
    | beats o t => exact ⟨one_nn, show (1/2 : Rat) ≤ 1 by decide +kernel⟩
    | over k s => have := half_le h.1 h.2.1; exact ⟨Rat.le_trans half_nn this, this⟩
    | under k s =>
      obtain ⟨p1, p2⟩ := sub_pos h.2.1
      have := half_le p1 (p2 h.1)
      exact ⟨Rat.le_trans half_nn this, this⟩
  have z : (0 : Rat) ≤ 0 ∧ (0 : Rat) ≤ greatest c := ⟨Rat.le_refl, g.1⟩
  unfold value
  split
  · exact z
  · cases c with
    | claim => exact ⟨half_nn, g.2⟩
    | beats o t =>
      show 0 ≤ (if m = some o then 1 else if m = some t then 0 else 1/2) ∧ (if m = some o then 1 else if m = some t then 0 else 1/2) ≤ _
      split
      · exact ⟨one_nn, Rat.le_refl⟩
      · split
        · exact z
        · exact ⟨half_nn, g.2⟩
    | over k s =>
      show 0 ≤ (if m = none ∨ m = some (Str.ofString "") then 1/2 else if m = some k then greatest (.over k s) else 0) ∧ (if m = none ∨ m = some (Str.ofString "") then 1/2 else if m = some k then greatest (.over k s) else 0) ≤ _
      split
      · exact ⟨half_nn, g.2⟩
      · split
        · exact ⟨g.1, Rat.le_refl⟩
        · exact z
    | under k s =>
      show 0 ≤ (if m = none ∨ m = some (Str.ofString "") then 1/2 else if m = some k then 0 else greatest (.under k s)) ∧ (if m = none ∨ m = some (Str.ofString "") then 1/2 else if m = some k then 0 else greatest (.under k s)) ≤ _
      split
      · exact ⟨half_nn, g.2⟩
      · split
        · exact z
        · exact ⟨g.1, Rat.le_refl⟩
theorem value_q (c : C) : value c (some (Str.ofString "?")) = 0 := if_pos rfl
theorem sum_add : ∀ (qs : List Rat) (a : Rat), qs.foldl (· + ·) a = a + qs.foldl (· + ·) 0
  | [], a => by simp [Rat.add_zero]
  | q :: r, a => by
    rw [List.foldl_cons, List.foldl_cons, sum_add r (a + q), sum_add r (0 + q)]
    grind
theorem sum_cons (q : Rat) (r : List Rat) : Lw.sum (q :: r) = q + Lw.sum r := by
  unfold Lw.sum
  rw [List.foldl_cons, sum_add, Rat.zero_add]
/-- each mark either the same, or one said in place of one that lacks -/
def Said (m m' : Option Str) : Prop := m' = m ∨ m = some (Str.ofString "?")
theorem sum_said {n : Nat} (c : C) (h : Ok n c) : ∀ {ms ms' : List (Option Str)}, PySem.Paired Said ms ms' → Lw.sum (ms.map (value c)) ≤ Lw.sum (ms'.map (value c))
  | _, _, .nil => Rat.le_refl
  | _, _, .cons (a := a) (b := b) p r => by
    rw [List.map_cons, List.map_cons, sum_cons, sum_cons]
    have i := sum_said c h r
    have q : value c a ≤ value c b := by
      rcases p with e | e
      · rw [e]; exact Rat.le_refl
      · rw [e, value_q]; exact (val_nn c h b).1
    grind
theorem holds_said {n : Nat} (c : C) (h : Ok n c) {ms ms' : List (Option Str)} (p : PySem.Paired Said ms ms') (g : holds c ms) : holds c ms' := by
  have e := PySem.Paired.length p
  unfold holds at *
  rw [← e]
  exact Std.lt_of_lt_of_le g (sum_said c h p)
theorem holds_more {c : C} {ms : List (Option Str)} (g : holds c (ms ++ [some (Str.ofString "?")])) : holds c ms := by
  unfold holds at *
  rw [List.map_append, List.length_append] at g
  have e : Lw.sum (ms.map (value c) ++ [value c (some (Str.ofString "?"))]) = Lw.sum (ms.map (value c)) := by
    rw [Lw.sum_snoc, value_q, Rat.add_zero]
  rw [show [some (Str.ofString "?")].map (value c) = [value c (some (Str.ofString "?"))] from rfl, e] at g
  have l : ((ms.length : Rat)) / 2 ≤ ((ms.length + [some (Str.ofString "?")].length : Nat) : Rat) / 2 := by
    show ((ms.length : Rat)) / 2 ≤ ((ms.length + 1 : Nat) : Rat) / 2
    have : ((ms.length + 1 : Nat) : Rat) = (ms.length : Rat) + 1 := by exact_mod_cast rfl
    rw [this]
    grind
  exact Std.lt_of_le_of_lt l g
theorem paired_snoc {α β : Type} {F : α → β → Prop} : ∀ {as : List α} {bs : List β} {a : α} {b : β}, PySem.Paired F as bs → F a b → PySem.Paired F (as ++ [a]) (bs ++ [b])
  | _, _, _, _, .nil, h => .cons h .nil
  | _, _, _, _, .cons x r, h => .cons x (paired_snoc r h)
end Cm
namespace Ru
open PySem PySem.Spec PyProof.Rows L2 Gx
theorem cast_pos {a : Int} (h : 0 < a) : (0 : Rat) < (a : Rat) := by
  have : ((0 : Int) : Rat) < (a : Rat) := Rat.intCast_lt_intCast.mpr h
  exact this
theorem cast_nn {a : Int} (h : 0 ≤ a) : (0 : Rat) ≤ (a : Rat) := by
  have : ((0 : Int) : Rat) ≤ (a : Rat) := Rat.intCast_le_intCast.mpr h
  exact this
theorem pos {a b : Int} (ha : 0 < a) (hb : 0 < b) : 0 < Rat.divInt a b := by
  rw [Rat.divInt_eq_div, Rat.lt_div_iff (cast_pos hb), Rat.zero_mul]
  exact cast_pos ha
theorem unit {a b : Int} (h0 : 0 ≤ a) (h1 : a ≤ b) (hb : 0 < b) : 0 ≤ Rat.divInt a b ∧ Rat.divInt a b ≤ 1 := by
  have p := cast_pos hb
  rw [Rat.divInt_eq_div]
  constructor
  · refine Rat.not_lt.mp fun z => ?_
    rw [Rat.div_lt_iff p, Rat.zero_mul] at z
    exact absurd (Std.lt_of_lt_of_le z (cast_nn h0)) Rat.lt_irrefl
  · refine Rat.not_lt.mp fun z => ?_
    rw [Rat.lt_div_iff p, Rat.one_mul] at z
    have := Rat.intCast_lt_intCast.mp z
    omega
/-- from 0 to 1 -/
def clip (x : Rat) : Rat := if x < 0 then 0 else if 1 < x then 1 else x
/-- what a learning rule stakes -/
def learn (g w : Rat) (past : List Rat) (price top : Rat) : Rat := if price < top then clip (((w * g + Lw.sum past) / (w + (past.length : Rat)) - price) / (top - price)) else 0
theorem lt_parts {x y : Rat} : x < y ↔ x.num * (y.den : Int) < y.num * (x.den : Int) := Rat.lt_iff x y
theorem neg_fq (x : Rat) : Fr.fq (-x) = [.int (0 - x.num), .int (x.den : Int)] := by
  show [V.int (-x).num, V.int ((-x).den : Int)] = _
  rw [Rat.neg_num, Rat.neg_den, Int.zero_sub]
theorem num_le0 {x : Rat} : x.num ≤ 0 ↔ x ≤ 0 := by
  rw [← Rat.not_lt, Rat.lt_iff]
  simp
theorem one_lt {x : Rat} : (x.den : Int) < x.num ↔ 1 < x := by
  rw [Rat.lt_iff]
  simp
theorem fqn (n : Nat) : Fr.fq (n : Rat) = [.int (n : Int), .int 1] := rfl
theorem szn {n k : Nat} (h : n < 2 ^ k) (hk : 1 ≤ k) : Fr.Sz k (n : Rat) := ⟨by show ((n : Rat).num).natAbs < _; rw [show (n : Rat).num = (n : Int) from rfl]; omega, by show (1 : Nat) < 2 ^ k; exact Nat.one_lt_two_pow (by omega)⟩
theorem n_ne {n : Nat} (h : 1 ≤ n) : (n : Rat) ≠ 0 := fun e => by
  have : (n : Rat) = ((0 : Nat) : Rat) := e
  have := Rat.natCast_inj.mp this
  omega
theorem clip_le0 {a b : Rat} (hb : 0 < b) (h : a ≤ 0) : clip (a / b) = 0 := by
  have le : a / b ≤ 0 := Rat.not_lt.mp fun z => by
    rw [Rat.lt_div_iff hb, Rat.zero_mul] at z
    exact absurd (Std.lt_of_lt_of_le z h) Rat.lt_irrefl
  unfold clip
  by_cases c : a / b < 0
  · rw [if_pos c]
  · rw [if_neg c]
    have e : a / b = 0 := Rat.le_antisymm le (Rat.not_lt.mp c)
    rw [e, if_neg (by decide +kernel)]
theorem paired_drop {α β : Type} {R : α → β → Prop} {xs : List α} {ys : List β} (h : PySem.Paired R xs ys) : PySem.Paired R xs.dropLast ys.dropLast := by
  induction h with
  | nil => exact .nil
  | cons a r ih =>
    cases r with
    | nil => exact .nil
    | cons b r2 => exact .cons a ih
theorem fqs_drop {K : PySem.W.Frag} {H : Hp} {vs : List V} {qs : List Rat} (h : Lw.Fqs K H vs qs) : Lw.Fqs K H vs.dropLast qs.dropLast := paired_drop h
end Ru
namespace Ru
open PySem PySem.Spec PyProof.Rows L2 Gx
/-- rules, by what they stake -/
inductive R where
  | none
  | fixed (q : Rat)
  | learn (g : Rat) (w : Nat)
  | told (φ : List Rat → Rat)
def stakeOf : R → List Rat → Rat → Rat → Rat
  | .none, _, _, _ => 0
  | .fixed q, _, _, _ => q
  | .learn g w, qs, x, y => learn g (w : Rat) qs x y
  | .told φ, qs, _, _ => φ qs
/-- of parts of so many bits -/
def Ok (z : Nat) : R → Prop
  | .none => True
  | .fixed q => 0 ≤ q ∧ q ≤ 1 ∧ Fr.Sz z q
  | .learn g w => 0 ≤ g ∧ Fr.Sz 9 g ∧ 1 ≤ w ∧ w ≤ 100
  | .told φ => ∀ qs, 0 ≤ φ qs ∧ φ qs ≤ 1 ∧ Fr.Sz z (φ qs)
theorem nn {a : Rat} (h : ¬ a < 0) : 0 ≤ a := Rat.not_lt.mp h
theorem clip_unit (x : Rat) : 0 ≤ clip x ∧ clip x ≤ 1 := by
  unfold clip
  by_cases c : x < 0
  · rw [if_pos c]; decide +kernel
  · rw [if_neg c]
    by_cases d : 1 < x
    · rw [if_pos d]; decide +kernel
    · rw [if_neg d]; exact ⟨Rat.not_lt.mp c, Rat.not_lt.mp d⟩
theorem clip_id {x : Rat} (h0 : 0 ≤ x) (h1 : x ≤ 1) : clip x = x := by
  unfold clip
  rw [if_neg (Rat.not_lt.mpr h0), if_neg (Rat.not_lt.mpr h1)]
theorem sz0 {n : Nat} (h : 1 ≤ n) : Fr.Sz n 0 := ⟨by show (0 : Int).natAbs < _; exact Nat.two_pow_pos _, by show 1 < 2 ^ n; exact Nat.one_lt_two_pow (by omega)⟩
theorem sz1 {n : Nat} (h : 1 ≤ n) : Fr.Sz n 1 := ⟨by show (1 : Int).natAbs < _; show 1 < 2 ^ n; exact Nat.one_lt_two_pow (by omega), by show 1 < 2 ^ n; exact Nat.one_lt_two_pow (by omega)⟩
theorem clip_sz {n : Nat} {x : Rat} (hn : 1 ≤ n) (h : Fr.Sz n x) : Fr.Sz n (clip x) := by
  unfold clip
  by_cases c : x < 0
  · rw [if_pos c]; exact sz0 hn
  · rw [if_neg c]
    by_cases d : 1 < x
    · rw [if_pos d]; exact sz1 hn
    · rw [if_neg d]; exact h
theorem stake_unit {z : Nat} {r : R} (ok : Ok z r) (qs : List Rat) (x y : Rat) : 0 ≤ stakeOf r qs x y ∧ stakeOf r qs x y ≤ 1 := by
  cases r with
  | none => show (0 : Rat) ≤ 0 ∧ (0 : Rat) ≤ 1; decide +kernel
  | fixed q => exact ⟨ok.1, ok.2.1⟩
  | learn g w =>
    show 0 ≤ learn g w qs x y ∧ learn g w qs x y ≤ 1
    unfold learn
    split
    · exact clip_unit _
    · decide +kernel
  | told φ => exact ⟨(ok qs).1, (ok qs).2.1⟩
/-- how great a stake's parts are: c the sum's bits, m the price's, t the top's -/
theorem stake_sz {z c m t : Nat} {r : R} (ok : Ok z r) {qs : List Rat} {x y : Rat} (hc : Fr.Sz c (Lw.sum qs)) (hm : Fr.Sz m x) (ht : Fr.Sz t y) (hl : qs.length ≤ 62) : Fr.Sz (c + 2 * m + t + z + 40) (stakeOf r qs x y) := by
  cases r with
  | none => exact sz0 (by omega)
  | fixed q => exact ok.2.2.mono (by omega)
  | told φ => exact (ok qs).2.2.mono (by omega)
  | learn g w =>
    obtain ⟨_, sg, w1, w2⟩ := ok
    show Fr.Sz _ (learn g w qs x y)
    unfold learn
    split
    · have e : (w : Rat) + (qs.length : Rat) = ((w + qs.length : Nat) : Rat) := (Rat.natCast_add ..).symm
      have s1 := (szn (n := w) (k := 7) (by omega) (by decide)).mul sg
      have s2 := s1.add hc
      have s3 : Fr.Sz 8 ((w : Rat) + (qs.length : Rat)) := by rw [e]; exact szn (by omega) (by decide)
      have s4 := ((s2.div s3).sub hm).div (ht.sub hm)
      exact clip_sz (by omega) (s4.mono (by omega))
    · exact sz0 (by omega)
end Ru
namespace Gm
open PySem PySem.Spec PyProof.Rows L2 Gx
/-- a game, by what it holds -/
structure S where
  n : Nat
  ag : Bool
  top : Rat
  R : Ru.R
  vals : List Rat
  now : Rat
  most : Rat
  cert : Bool
def init (n : Nat) (ag : Bool) (top : Rat) (r : Ru.R) : S := ⟨n, ag, top, r, [], 1, 1, false⟩
def ended (g : S) : Bool := !g.ag && decide (g.vals.length = g.n)
/-- the price, where the game is alive -/
def price (g : S) : Rat := if g.ag = true then 1/2 else ((g.n : Rat) / 2 - Lw.sum g.vals) / ((g.n - g.vals.length : Nat) : Rat)
def priceO (g : S) : Option Rat := if (g.cert || ended g) = true then none else some (price g)
def stake (g : S) : Rat := Ru.stakeOf g.R g.vals (price g) g.top
def grow (s v p : Rat) : Rat := (1 - s) + s * v / p
def behind (g : S) (v : Rat) : Rat := if price g = 0 then g.now else g.now * grow (stake g) v (price g)
def certBehind (g : S) (v : Rat) : Bool := g.cert || (!g.ag && decide ((g.n : Rat) / 2 < Lw.sum (g.vals ++ [v])))
def play (g : S) (v : Rat) : S := { g with
  vals := g.vals ++ [v]
  now := if g.cert = true then g.now else behind g v
  most := if certBehind g v = true then g.most else if g.most < behind g v then behind g v else g.most
  cert := certBehind g v }
def worthO (g : S) : Option Rat := if g.cert = true then none else some g.now
def reached (g : S) (limit : Rat) : Bool := g.cert || !decide (g.most * limit < 1)
def plays (g : S) (vs : List Rat) : S := vs.foldl play g
theorem plays_snoc (g : S) (vs : List Rat) (v : Rat) : plays g (vs ++ [v]) = play (plays g vs) v := by simp [plays]
theorem plays_vals (g : S) : ∀ vs : List Rat, (plays g vs).vals = g.vals ++ vs := fun vs => by
  induction vs generalizing g with
  | nil => simp [plays]
  | cons v r ih =>
    show (plays (play g v) r).vals = _
    rw [ih]
    show (g.vals ++ [v]) ++ r = _
    simp
theorem plays_n (g : S) : ∀ vs : List Rat, (plays g vs).n = g.n ∧ (plays g vs).ag = g.ag ∧ (plays g vs).top = g.top ∧ (plays g vs).R = g.R := fun vs => by
  induction vs generalizing g with
  | nil => exact ⟨rfl, rfl, rfl, rfl⟩
  | cons v r ih => exact ih (play g v)
/-- what the steps of a play want of sizes -/
structure Fits (g : S) (v : Rat) (b c t z : Nat) : Prop where
  vals : ∀ q ∈ g.vals, Fr.Sz b q
  vz : Fr.Sz b v
  len : g.vals.length ≤ 60
  n : g.n ≤ 60
  sum : Fr.Sz c (Lw.sum g.vals)
  top : Fr.Sz t g.top
  ok : Ru.Ok z g.R
  bb : b ≤ 90
  bc : c ≤ 1000
  bt : t ≤ 200
  bz : z ≤ 1500
  open_ : ended g = false
  few : g.ag = false → g.vals.length ≤ g.n
  live : g.cert = false → ∃ m a w, Fr.Sz m (price g) ∧ Fr.Sz a (stake g) ∧ Fr.Sz w g.now ∧ Fr.Sz w g.most ∧ Fr.Sz w (behind g v) ∧ m ≤ 700 ∧ a ≤ 1500 ∧ w ≤ 100000 ∧ (w + 2 * a + b + m + 3 ≤ 9000 ∨ ((price g ≠ 0 → grow (stake g) v (price g) ≠ 0) ∧ 2 * (2 * a + b + m + 3) ≤ 9000))
theorem Fits.left {g : S} {v : Rat} {b c t z : Nat} (f : Fits g v b c t z) (h : g.ag = false) : g.vals.length ≠ g.n := fun e => by
  have := f.open_
  unfold ended at this
  rw [h, decide_eq_true e] at this
  cases this
end Gm
namespace Gm
open PySem PySem.Spec PyProof.Rows L2 Gx
/-- which of some parts a function tells -/
def nsum (qs : List Rat) : Int := (qs.map fun q => q.num + (q.den : Int)).sum
def num1 (qs : List Rat) : Int := (qs.length : Int) + nsum qs
def num2 (qs : List Rat) : Int := (qs.length : Int) + ((qs.zipIdx.map fun p => ((p.2 : Int) + 1) * (p.1.num + (p.1.den : Int))).sum)
def toldBy (num : List Rat → Int) (ps : List Rat) (qs : List Rat) : Rat := ps.getD (num qs % (ps.length : Int)).toNat 0
theorem told_ok {num : List Rat → Int} {ps : List Rat} {z : Nat} (ne : ps ≠ []) (h : ∀ p ∈ ps, 0 ≤ p ∧ p ≤ 1 ∧ Fr.Sz z p) : Ru.Ok z (.told (toldBy num ps)) := fun qs => by
  have l0 : 0 < ps.length := List.length_pos_iff.mpr ne
  have e0 := Int.emod_nonneg (num qs) (show (ps.length : Int) ≠ 0 by omega)
  have e1 := Int.emod_lt_of_pos (num qs) (show (0 : Int) < ps.length by omega)
  have hi : (num qs % (ps.length : Int)).toNat < ps.length := by omega
  have : toldBy num ps qs = ps[(num qs % (ps.length : Int)).toNat] := by
    unfold toldBy
    rw [List.getD_eq_getElem?_getD, List.getElem?_eq_getElem hi]
    rfl
  rw [this]
  exact h _ (List.getElem_mem hi)
end Gm
namespace Gm
open PySem PySem.Spec PyProof.Rows L2 Gx
/-- a fraction over D -/
def On (D : Nat) (x : Rat) : Prop := ∃ n : Int, x = Rat.divInt n (D : Int)
theorem on_add {D : Nat} (h : 0 < D) {x y : Rat} (hx : On D x) (hy : On D y) : On D (x + y) := by
  obtain ⟨n, rfl⟩ := hx
  obtain ⟨m, rfl⟩ := hy
  refine ⟨n + m, ?_⟩
  rw [Rat.divInt_eq_div, Rat.divInt_eq_div, Rat.divInt_eq_div, Rat.intCast_add]
  grind
theorem on_zero (D : Nat) : On D 0 := ⟨0, (Rat.zero_divInt _).symm⟩
theorem on_sum {D : Nat} (h : 0 < D) : ∀ {qs : List Rat}, (∀ q ∈ qs, On D q) → On D (Lw.sum qs)
  | [], _ => on_zero D
  | q :: r, hq => by
    rw [Cm.sum_cons]
    exact on_add h (hq q (List.mem_cons_self ..)) (on_sum h fun x hx => hq x (List.mem_cons_of_mem _ hx))
theorem nat_pos {n : Nat} (h : 0 < n) : (0 : Rat) < (n : Rat) := by
  have : ((0 : Nat) : Rat) < (n : Rat) := Rat.natCast_lt_natCast.mpr h
  exact this
theorem nat_nn (n : Nat) : (0 : Rat) ≤ (n : Rat) := by
  have : ((0 : Nat) : Rat) ≤ (n : Rat) := Rat.natCast_le_natCast.mpr (Nat.zero_le n)
  exact this
theorem sum_nn : ∀ {qs : List Rat}, (∀ q ∈ qs, 0 ≤ q) → 0 ≤ Lw.sum qs
  | [], _ => Rat.le_refl
  | q :: r, h => by
    rw [Cm.sum_cons]
    have h1 := h q (List.mem_cons_self ..)
    have h2 := sum_nn (qs := r) fun x hx => h x (List.mem_cons_of_mem _ hx)
    grind
theorem sum_le {t : Rat} : ∀ {qs : List Rat}, (∀ q ∈ qs, q ≤ t) → Lw.sum qs ≤ (qs.length : Rat) * t
  | [], _ => by show (0 : Rat) ≤ ((0 : Nat) : Rat) * t; rw [show ((0 : Nat) : Rat) = 0 from rfl, Rat.zero_mul]; exact Rat.le_refl
  | q :: r, h => by
    rw [Cm.sum_cons, List.length_cons, Rat.natCast_add]
    have h1 := h q (List.mem_cons_self ..)
    have h2 := sum_le (qs := r) fun x hx => h x (List.mem_cons_of_mem _ hx)
    have e : ((1 : Nat) : Rat) = 1 := rfl
    rw [e]
    grind
/-- of a fraction over D that is not great: its upper part is not great -/
theorem on_num {D M : Nat} (hD : 0 < D) {n : Int} (h0 : 0 ≤ Rat.divInt n (D : Int)) (h1 : Rat.divInt n (D : Int) * (D : Rat) ≤ (M : Rat)) : 0 ≤ n ∧ n ≤ M := by
  have dp := nat_pos hD
  have e : Rat.divInt n (D : Int) * (D : Rat) = (n : Rat) := by
    rw [Rat.divInt_eq_div]
    have : ((D : Int) : Rat) = (D : Rat) := rfl
    rw [this]
    grind
  constructor
  · have : (0 : Rat) ≤ (n : Rat) := by rw [← e]; exact Rat.mul_nonneg h0 (Rat.le_of_lt dp)
    exact Rat.intCast_le_intCast.mp (show ((0 : Int) : Rat) ≤ (n : Rat) from this)
  · rw [e] at h1
    exact Rat.intCast_le_intCast.mp (show (n : Rat) ≤ ((M : Int) : Rat) from h1)
theorem grow_sz {a b m : Nat} {s v p : Rat} (s0 : 0 ≤ s) (s1 : s ≤ 1) (v0 : 0 ≤ v) (p0 : 0 < p) (hs : Fr.Sz a s) (hv : Fr.Sz b v) (hp : Fr.Sz m p) : Fr.Sz (a + b + m + 1) (grow s v p) := by
  have q0 := Fr.den_pos s
  have d0 := Fr.den_pos v
  have e0 := Fr.den_pos p
  have pn : 0 < p.num := Cm.num_pos p0
  have sn : 0 ≤ s.num := Rat.num_nonneg.mpr s0
  have vn : 0 ≤ v.num := Rat.num_nonneg.mpr v0
  have sq : s.num ≤ s.den := by
    have := Rat.not_lt.mpr s1
    rw [Rat.lt_iff] at this
    simp at this
    omega
  have B0 : 0 < (s.den : Int) * ((v.den : Int) * p.num) := Int.mul_pos q0 (Int.mul_pos d0 pn)
  have e : grow s v p = Rat.divInt (((s.den : Int) - s.num) * ((v.den : Int) * p.num) + s.num * (v.num * (p.den : Int))) ((s.den : Int) * ((v.den : Int) * p.num)) := by
    unfold grow
    have hs' : s = (s.num : Rat) / ((s.den : Int) : Rat) := by rw [← Rat.divInt_eq_div, Rat.num_divInt_den]
    have hv' : v = (v.num : Rat) / ((v.den : Int) : Rat) := by rw [← Rat.divInt_eq_div, Rat.num_divInt_den]
    have hp' : p = (p.num : Rat) / ((p.den : Int) : Rat) := by rw [← Rat.divInt_eq_div, Rat.num_divInt_den]
    have c1 := Ru.cast_pos q0
    have c2 := Ru.cast_pos d0
    have c3 := Ru.cast_pos e0
    have c4 := Ru.cast_pos pn
    rw [Rat.divInt_eq_div]
    simp only [Rat.intCast_add, Rat.intCast_mul, Rat.intCast_sub]
    generalize ((s.den : Int) : Rat) = sd at *
    generalize ((v.den : Int) : Rat) = vd at *
    generalize ((p.den : Int) : Rat) = pd at *
    generalize (s.num : Rat) = sN at *
    generalize (v.num : Rat) = vN at *
    generalize (p.num : Rat) = pN at *
    rw [hs', hv', hp']
    grind
  have l1 : (s.den : Int) < 2 ^ a := by have := hs.2; exact_mod_cast this
  have l2 : (v.den : Int) < 2 ^ b := by have := hv.2; exact_mod_cast this
  have l3 : (p.den : Int) < 2 ^ m := by have := hp.2; exact_mod_cast this
  have l4 : p.num < 2 ^ m := by
    rw [← Int.natAbs_of_nonneg (Int.le_of_lt pn)]
    exact_mod_cast hp.1
  have l5 : v.num < 2 ^ b := by
    rw [← Int.natAbs_of_nonneg vn]
    exact_mod_cast hv.1
  have pa : (0 : Int) < 2 ^ a := Int.pow_pos (by decide)
  have pb : (0 : Int) < 2 ^ b := Int.pow_pos (by decide)
  have pm : (0 : Int) < 2 ^ m := Int.pow_pos (by decide)
  have x1 : (v.den : Int) * p.num ≤ 2 ^ b * 2 ^ m := Int.mul_le_mul (Int.le_of_lt l2) (Int.le_of_lt l4) (Int.le_of_lt pn) (Int.le_of_lt pb)
  have x2 : v.num * (p.den : Int) ≤ 2 ^ b * 2 ^ m := Int.mul_le_mul (Int.le_of_lt l5) (Int.le_of_lt l3) (Int.le_of_lt e0) (Int.le_of_lt pb)
  have xp : (0 : Int) < (v.den : Int) * p.num := Int.mul_pos d0 pn
  have yp : (0 : Int) ≤ v.num * (p.den : Int) := Int.mul_nonneg vn (Int.le_of_lt e0)
  have P : (0 : Int) < 2 ^ b * 2 ^ m := Int.mul_pos pb pm
  have x3 : (s.den : Int) * ((v.den : Int) * p.num) < 2 ^ a * (2 ^ b * 2 ^ m) := Int.lt_of_lt_of_le (Int.mul_lt_mul_of_pos_right l1 xp) (Int.mul_le_mul_of_nonneg_left x1 (Int.le_of_lt pa))
  have x4 : s.num * (v.num * (p.den : Int)) ≤ 2 ^ a * (2 ^ b * 2 ^ m) := Int.mul_le_mul (by omega) x2 yp (Int.le_of_lt pa)
  have x5 : ((s.den : Int) - s.num) * ((v.den : Int) * p.num) ≤ (s.den : Int) * ((v.den : Int) * p.num) := Int.mul_le_mul_of_nonneg_right (by omega) (Int.le_of_lt xp)
  have x6 : 0 ≤ ((s.den : Int) - s.num) * ((v.den : Int) * p.num) := Int.mul_nonneg (by omega) (Int.le_of_lt xp)
  have x7 : 0 ≤ s.num * (v.num * (p.den : Int)) := Int.mul_nonneg sn yp
  have E : (2 : Int) ^ (a + b + m + 1) = 2 * (2 ^ a * (2 ^ b * 2 ^ m)) := by
    rw [Int.pow_succ, Int.pow_add, Int.pow_add, Int.mul_comm _ 2, Int.mul_assoc]
  rw [e]
  have c : ((2 ^ (a + b + m + 1) : Nat) : Int) = (2 : Int) ^ (a + b + m + 1) := by simp
  have Q : (0 : Int) < 2 ^ a * (2 ^ b * 2 ^ m) := Int.mul_pos pa P
  refine Fr.sz_divInt (by omega) ?_ ?_
  · have : ((((s.den : Int) - s.num) * ((v.den : Int) * p.num) + s.num * (v.num * (p.den : Int))).natAbs : Int) < ((2 ^ (a + b + m + 1) : Nat) : Int) := by
      rw [Int.natAbs_of_nonneg (by omega), c, E]
      omega
    exact_mod_cast this
  · have : ((((s.den : Int) * ((v.den : Int) * p.num))).natAbs : Int) < ((2 ^ (a + b + m + 1) : Nat) : Int) := by
      rw [Int.natAbs_of_nonneg (by omega), c, E]
      omega
    exact_mod_cast this
theorem on_value {x : Rat} {q p : Int} (h1 : 1 ≤ p) (h6 : p ≤ 6) : On (60 * x.den) (x * Rat.divInt q p) := by
  obtain ⟨k, hk⟩ : ∃ k : Int, p * k = 60 := by
    have : p = 1 ∨ p = 2 ∨ p = 3 ∨ p = 4 ∨ p = 5 ∨ p = 6 := by omega
    rcases this with rfl | rfl | rfl | rfl | rfl | rfl
    · exact ⟨60, rfl⟩
    · exact ⟨30, rfl⟩
    · exact ⟨20, rfl⟩
    · exact ⟨15, rfl⟩
    · exact ⟨12, rfl⟩
    · exact ⟨10, rfl⟩
  refine ⟨x.num * q * k, ?_⟩
  have kp : k ≠ 0 := fun e => by rw [e] at hk; omega
  have hx : x = Rat.divInt x.num (x.den : Int) := (Rat.num_divInt_den x).symm
  have e : (((60 * x.den : Nat)) : Int) = (x.den : Int) * p * k := by
    rw [Int.mul_assoc, hk]
    simp
    omega
  conv => lhs; rw [hx]
  rw [Rat.divInt_mul_divInt, e]
  exact (Rat.divInt_mul_right kp).symm
/-- a value of a ballot, top the greatest -/
structure Vok (top v : Rat) : Prop where
  nn : 0 ≤ v
  le : v ≤ top
  on : On (60 * top.den) v
  sz : Fr.Sz 8 v
/-- the state of such a game -/
structure Std (g : S) : Prop where
  t0 : 0 < g.top
  ts : Fr.Sz 5 g.top
  ok : Ru.Ok 7 g.R
  n0 : 1 ≤ g.n
  n1 : g.n ≤ 60
  len : g.vals.length ≤ 60
  vals : ∀ v ∈ g.vals, Vok g.top v
  few : g.ag = false → g.vals.length ≤ g.n
  cert : g.cert = (!g.ag && decide ((g.n : Rat) / 2 < Lw.sum g.vals))
  now : g.cert = false → Fr.Sz (132 * g.vals.length + 1) g.now
  most : g.cert = false → Fr.Sz (132 * g.vals.length + 1) g.most
theorem std_init {n : Nat} {ag : Bool} {top : Rat} {r : Ru.R} (t0 : 0 < top) (ts : Fr.Sz 5 top) (ok : Ru.Ok 7 r) (n0 : 1 ≤ n) (n1 : n ≤ 60) : Std (init n ag top r) where
  t0 := t0
  ts := ts
  ok := ok
  n0 := n0
  n1 := n1
  len := Nat.zero_le _
  vals := fun _ h => (nomatch h)
  few := fun _ => Nat.zero_le _
  cert := by
    show false = (!ag && decide ((n : Rat) / 2 < 0))
    have : ¬ (n : Rat) / 2 < 0 := fun z => by have := nat_nn n; grind
    rw [decide_eq_false this]
    simp
  now := fun _ => Ru.sz1 (by omega)
  most := fun _ => Ru.sz1 (by omega)
theorem sum_sz {top : Rat} (ts : Fr.Sz 5 top) {qs : List Rat} (h : ∀ q ∈ qs, Vok top q) (hl : qs.length ≤ 62) : ∃ N : Int, Lw.sum qs = Rat.divInt N ((60 * top.den : Nat) : Int) ∧ 0 ≤ N ∧ N ≤ 115320 := by
  have D0 : 0 < 60 * top.den := Nat.mul_pos (by decide) top.den_pos
  obtain ⟨N, hN⟩ := on_sum D0 fun q hq => (h q hq).on
  have s0 := sum_nn fun q hq => (h q hq).nn
  have s1 := sum_le fun q hq => (h q hq).le
  have dq : top * (top.den : Rat) = (top.num : Rat) := by
    have e : top = (top.num : Rat) / (top.den : Rat) := by
      rw [← Rat.intCast_natCast, ← Rat.divInt_eq_div, Rat.num_divInt_den]
    have dp := nat_pos top.den_pos
    generalize (top.num : Rat) = a at *
    generalize (top.den : Rat) = d at *
    rw [e]
    grind
  have tn : top.num ≤ 31 := by have := ts.1; have h : top.num.natAbs < 32 := this; omega
  have tn' : (top.num : Rat) ≤ 31 := (show (top.num : Rat) ≤ ((31 : Int) : Rat) from Rat.intCast_le_intCast.mpr tn)
  have ln : (qs.length : Rat) ≤ 62 := (show (qs.length : Rat) ≤ ((62 : Nat) : Rat) from Rat.natCast_le_natCast.mpr hl)
  have l0 := nat_nn qs.length
  refine ⟨N, hN, on_num (M := 115320) D0 (by rw [← hN]; exact s0) ?_⟩
  rw [← hN, Rat.natCast_mul]
  have dp := nat_nn top.den
  have e60 : ((60 : Nat) : Rat) = 60 := rfl
  have eM : ((115320 : Nat) : Rat) = 115320 := rfl
  rw [e60, eM]
  have h1 : Lw.sum qs * (60 * (top.den : Rat)) ≤ (qs.length : Rat) * top * (60 * (top.den : Rat)) := Rat.mul_le_mul_of_nonneg_right s1 (by grind)
  have h2 : (qs.length : Rat) * top * (60 * (top.den : Rat)) = 60 * ((qs.length : Rat) * (top.num : Rat)) := by rw [← dq]; grind
  have h3 : (qs.length : Rat) * (top.num : Rat) ≤ (qs.length : Rat) * 31 := Rat.mul_le_mul_of_nonneg_left tn' l0
  grind
theorem sum_sz17 {top : Rat} (ts : Fr.Sz 5 top) {qs : List Rat} (h : ∀ q ∈ qs, Vok top q) (hl : qs.length ≤ 62) : Fr.Sz 17 (Lw.sum qs) := by
  obtain ⟨N, hN, h0, h1⟩ := sum_sz ts h hl
  have td : top.den < 32 := ts.2
  have tp := top.den_pos
  rw [hN]
  exact Fr.sz_divInt (by omega) (by show _ < 131072; omega) (by show _ < 131072; omega)
theorem price_sz {g : S} (s : Std g) (h : ended g = false) : Fr.Sz 18 (price g) := by
  unfold price
  by_cases c : g.ag = true
  · rw [if_pos c]
    have : (1/2 : Rat) = Rat.divInt 1 2 := by rw [Rat.divInt_eq_div]; rfl
    rw [this]
    exact Fr.sz_divInt (by decide) (by decide) (by decide)
  · rw [if_neg c]
    have ca : g.ag = false := by simpa using c
    have few := s.few ca
    have ne : g.vals.length ≠ g.n := fun e => by
      unfold ended at h
      rw [ca, decide_eq_true e] at h
      cases h
    obtain ⟨N, hN, h0, h1⟩ := sum_sz s.ts s.vals (by have := s.len; omega)
    have td : g.top.den < 32 := s.ts.2
    have tp := g.top.den_pos
    have n1 := s.n1
    rw [hN]
    generalize hk : g.n - g.vals.length = k
    have k1 : 1 ≤ k ∧ k ≤ 60 := by omega
    generalize hD : 60 * g.top.den = D
    have D1 : 1 ≤ D ∧ D ≤ 1860 := by omega
    have e : ((g.n : Rat) / 2 - Rat.divInt N (D : Int)) / (k : Rat) = Rat.divInt ((g.n : Int) * (D : Int) - 2 * N) (2 * ((D : Int) * (k : Int))) := by
      rw [Rat.divInt_eq_div, Rat.divInt_eq_div]
      simp only [Rat.intCast_sub, Rat.intCast_mul, Rat.intCast_natCast]
      have c1 := nat_pos (n := D) (by omega)
      have c2 := nat_pos (n := k) (by omega)
      have e2 : ((2 : Int) : Rat) = 2 := rfl
      rw [e2]
      generalize (D : Rat) = d at *
      generalize (k : Rat) = kk at *
      generalize (g.n : Rat) = nn at *
      generalize (N : Rat) = NN at *
      grind
    rw [e]
    have m1 : (g.n : Int) * (D : Int) ≤ 60 * 1860 := Int.mul_le_mul (by omega) (by omega) (by omega) (by decide)
    have m0 : 0 ≤ (g.n : Int) * (D : Int) := Int.mul_nonneg (by omega) (by omega)
    have m2 : (D : Int) * (k : Int) ≤ 1860 * 60 := Int.mul_le_mul (by omega) (by omega) (by omega) (by decide)
    have m3 : 0 < (D : Int) * (k : Int) := Int.mul_pos (by omega) (by omega)
    exact Fr.sz_divInt (by omega) (by show _ < 262144; omega) (by show _ < 262144; omega)
theorem price_nn {g : S} (s : Std g) (h : g.cert = false) (o : ended g = false) : 0 ≤ price g := by
  unfold price
  by_cases c : g.ag = true
  · rw [if_pos c]; decide +kernel
  · rw [if_neg c]
    have ca : g.ag = false := by simpa using c
    have e := s.cert
    rw [h, ca] at e
    have l : ¬ (g.n : Rat) / 2 < Lw.sum g.vals := fun z => by rw [decide_eq_true z] at e; cases e
    have few := s.few ca
    have ne : g.vals.length ≠ g.n := fun e => by
      unfold ended at o
      rw [ca, decide_eq_true e] at o
      cases o
    have kp := nat_pos (n := g.n - g.vals.length) (by omega)
    have a0 : 0 ≤ (g.n : Rat) / 2 - Lw.sum g.vals := by
      have := Rat.not_lt.mp l
      grind
    exact Rat.not_lt.mp fun z => by
      rw [Rat.div_lt_iff kp, Rat.zero_mul] at z
      exact absurd (Std.lt_of_lt_of_le z a0) Rat.lt_irrefl
theorem stake_sz7 {g : S} (s : Std g) (o : ended g = false) : Fr.Sz 105 (stake g) :=
  (Ru.stake_sz s.ok (sum_sz17 s.ts s.vals (by have := s.len; omega)) (price_sz s o) s.ts (by have := s.len; omega)).mono (by decide)
theorem behind_sz {g : S} (s : Std g) (h : g.cert = false) (o : ended g = false) {v : Rat} (hv : Vok g.top v) : Fr.Sz (132 * (g.vals.length + 1) + 1) (behind g v) := by
  unfold behind
  by_cases c : price g = 0
  · rw [if_pos c]; exact (s.now h).mono (by omega)
  · rw [if_neg c]
    have p0 : 0 < price g := by
      have := price_nn s h o
      grind
    have u := Ru.stake_unit s.ok g.vals (price g) g.top
    have z := grow_sz u.1 u.2 hv.nn p0 (stake_sz7 s o) hv.sz (price_sz s o)
    exact ((s.now h).mul z).mono (by omega)
theorem fits {g : S} (s : Std g) (o : ended g = false) (l : g.vals.length < 60) {v : Rat} (hv : Vok g.top v) : Fits g v 8 17 5 7 where
  vals := fun q hq => (s.vals q hq).sz
  vz := hv.sz
  len := s.len
  n := s.n1
  sum := sum_sz17 s.ts s.vals (by omega)
  top := s.ts
  ok := s.ok
  bb := by decide
  bc := by decide
  bt := by decide
  bz := by decide
  open_ := o
  few := s.few
  live := fun h => ⟨18, 105, 132 * (g.vals.length + 1) + 1, price_sz s o, stake_sz7 s o, (s.now h).mono (by omega), (s.most h).mono (by omega), behind_sz s h o hv, by decide, by decide, by omega, by omega⟩
theorem std_play {g : S} (s : Std g) (o : ended g = false) (l : g.vals.length < 60) {v : Rat} (hv : Vok g.top v) : Std (play g v) where
  t0 := s.t0
  ts := s.ts
  ok := s.ok
  n0 := s.n0
  n1 := s.n1
  len := by show (g.vals ++ [v]).length ≤ 60; simp; omega
  vals := fun x hx => by
    rcases List.mem_append.mp (show x ∈ g.vals ++ [v] from hx) with h | h
    · exact s.vals x h
    · rw [List.mem_singleton.mp h]; exact hv
  few := fun e => by
    have e : g.ag = false := e
    have f := s.few e
    show (g.vals ++ [v]).length ≤ g.n
    have ne : g.vals.length ≠ g.n := fun z => by
      unfold ended at o
      rw [e, decide_eq_true z] at o
      cases o
    simp; omega
  cert := by
    show certBehind g v = (!g.ag && decide ((g.n : Rat) / 2 < Lw.sum (g.vals ++ [v])))
    unfold certBehind
    cases ha : g.ag with
    | true =>
      have := s.cert
      rw [ha] at this
      rw [this]; rfl
    | false =>
      cases hc : g.cert with
      | false => rfl
      | true =>
        have e := s.cert
        rw [ha, hc] at e
        have lt : (g.n : Rat) / 2 < Lw.sum g.vals := of_decide_eq_true (by simpa using e.symm)
        have : (g.n : Rat) / 2 < Lw.sum (g.vals ++ [v]) := by
          rw [Lw.sum_snoc]
          have := hv.nn
          grind
        rw [decide_eq_true this]; rfl
  now := fun h => by
    have h : certBehind g v = false := h
    have nc : g.cert = false := by
      unfold certBehind at h
      cases e : g.cert with
      | false => rfl
      | true => rw [e] at h; simp at h
    show Fr.Sz (132 * (g.vals ++ [v]).length + 1) (if g.cert = true then g.now else behind g v)
    rw [if_neg (by rw [nc]; decide), List.length_append, List.length_singleton]
    exact behind_sz s nc o hv
  most := fun h => by
    have h : certBehind g v = false := h
    have nc : g.cert = false := by
      unfold certBehind at h
      cases e : g.cert with
      | false => rfl
      | true => rw [e] at h; simp at h
    show Fr.Sz (132 * (g.vals ++ [v]).length + 1) (if certBehind g v = true then g.most else if g.most < behind g v then behind g v else g.most)
    rw [if_neg (by rw [h]; decide), List.length_append, List.length_singleton]
    split
    · exact behind_sz s nc o hv
    · exact (s.most nc).mono (by omega)
end Gm
namespace Gm
open PySem PySem.Spec PyProof.Rows L2 Gx
theorem mul_den (x : Rat) : x * (x.den : Rat) = (x.num : Rat) := by
  have e : x = (x.num : Rat) / (x.den : Rat) := by rw [← Rat.intCast_natCast, ← Rat.divInt_eq_div, Rat.num_divInt_den]
  have dp := nat_pos x.den_pos
  generalize (x.num : Rat) = a at *
  generalize (x.den : Rat) = d at *
  rw [e]
  grind
theorem half_lt {n : Nat} {x : Rat} : (n : Rat) / 2 < x ↔ (n : Int) * (x.den : Int) < x.num * 2 := by
  have dp := nat_pos x.den_pos
  have dq := mul_den x
  have e : ((n : Int) * (x.den : Int) < x.num * 2) ↔ ((n : Rat) * (x.den : Rat) < (x.num : Rat) * 2) := by
    rw [← Rat.intCast_lt_intCast, Rat.intCast_mul, Rat.intCast_mul, Rat.intCast_natCast, Rat.intCast_natCast]
    rfl
  rw [e, ← dq]
  constructor
  · intro h
    have := Rat.mul_lt_mul_of_pos_right h dp
    grind
  · intro h
    refine Rat.not_le.mp fun z => ?_
    have := Rat.mul_le_mul_of_nonneg_right z (Rat.le_of_lt dp)
    grind
theorem num_neg {x : Rat} : x.num < 0 ↔ x < 0 := by
  rw [← Int.not_le, ← Rat.not_le, Rat.num_nonneg]
/-- what lacks, as a law reckons it -/
theorem priceO_ag {g : S} (s : Std g) (h : g.ag = true) : priceO g = some (1/2) := by
  have e := s.cert
  rw [h] at e
  have e : g.cert = false := e
  unfold priceO ended price
  rw [e, h]
  rfl
theorem priceO_end {g : S} (h : g.ag = false) (e : g.vals.length = g.n) : priceO g = none := by
  unfold priceO ended
  rw [h, decide_eq_true e]
  simp
theorem priceO_cert {g : S} (s : Std g) (h : g.ag = false) (e : (g.n : Rat) / 2 < Lw.sum g.vals) : priceO g = none := by
  have c := s.cert
  rw [h, decide_eq_true e] at c
  unfold priceO
  rw [c]
  simp
theorem priceO_some {g : S} (s : Std g) (h : g.ag = false) (ne : g.vals.length ≠ g.n) (e : ¬ (g.n : Rat) / 2 < Lw.sum g.vals) : priceO g = some (((g.n : Rat) / 2 - Lw.sum g.vals) / ((g.n - g.vals.length : Nat) : Rat)) := by
  have c := s.cert
  rw [h, decide_eq_false e] at c
  unfold priceO ended price
  rw [c, h, decide_eq_false ne]
  rfl
theorem alive_price {g : S} (h : g.cert = false) (o : ended g = false) : priceO g = some (price g) := by
  unfold priceO
  rw [h, o]
  rfl
end Gm
namespace Gm
open PySem PySem.Spec PyProof.Rows L2 Gx
/-- the worths of a game, from its state through some plays -/
def worths (g : S) : List Rat → List (Option Rat)
  | [] => [worthO g]
  | v :: r => worthO g :: worths (play g v) r
/-- of a worth: whether it reaches a limit -/
def atLim (x : Rat) : Option Rat → Bool
  | none => true
  | some q => !decide (q * x < 1)
theorem worths_len (g : S) : ∀ vs : List Rat, (worths g vs).length = vs.length + 1 := fun vs => by
  induction vs generalizing g with
  | nil => rfl
  | cons v r ih =>
    show (worths (play g v) r).length + 1 = r.length + 1 + 1
    rw [ih]
theorem worths_snoc (g : S) (vs : List Rat) (v : Rat) : worths g (vs ++ [v]) = worths g vs ++ [worthO (plays g (vs ++ [v]))] := by
  induction vs generalizing g with
  | nil => rfl
  | cons x r ih =>
    show worthO g :: worths (play g x) (r ++ [v]) = worthO g :: worths (play g x) r ++ [worthO (plays (play g x) (r ++ [v]))]
    rw [ih]
    rfl
theorem worths_take (g : S) (vs : List Rat) (k : Nat) (h : k ≤ vs.length) : (worths g vs).take (k + 1) = worths g (vs.take k) := by
  induction vs generalizing g k with
  | nil =>
    have : k = 0 := by simpa using h
    subst this
    rfl
  | cons x r ih =>
    cases k with
    | zero => rfl
    | succ k =>
      show worthO g :: (worths (play g x) r).take (k + 1) = worthO g :: worths (play g x) (r.take k)
      rw [ih _ _ (by simpa using h)]
theorem worths_last (g : S) (vs : List Rat) : (worths g vs)[vs.length]? = some (worthO (plays g vs)) := by
  induction vs generalizing g with
  | nil => rfl
  | cons x r ih => exact ih (play g x)
theorem reached_play {g : S} {v x : Rat} (h : 0 ≤ x) : reached (play g v) x = (reached g x || atLim x (worthO (play g v))) := by
  cases e : certBehind g v with
  | true =>
    have : worthO (play g v) = none := if_pos e
    rw [this]
    have c : (play g v).cert = true := e
    unfold reached
    rw [c]
    simp [atLim]
  | false =>
    have nc : g.cert = false := by
      unfold certBehind at e
      cases d : g.cert with
      | false => rfl
      | true => rw [d] at e; simp at e
    have c : (play g v).cert = false := e
    have w : worthO (play g v) = some (behind g v) := by
      show (if certBehind g v = true then none else some (if g.cert = true then g.now else behind g v)) = _
      rw [if_neg (by rw [e]; decide), if_neg (by rw [nc]; decide)]
    have m : (play g v).most = if g.most < behind g v then behind g v else g.most := by
      show (if certBehind g v = true then g.most else if g.most < behind g v then behind g v else g.most) = _
      rw [if_neg (by rw [e]; decide)]
    unfold reached
    rw [c, nc, w, m]
    show (false || !decide _) = ((false || !decide _) || !decide _)
    simp only [Bool.false_or]
    generalize behind g v = b
    by_cases lt : g.most < b
    · rw [if_pos lt]
      have : g.most * x ≤ b * x := Rat.mul_le_mul_of_nonneg_right (Rat.le_of_lt lt) h
      by_cases d : b * x < 1
      · rw [decide_eq_true d, decide_eq_true (Std.lt_of_le_of_lt this d)]; rfl
      · rw [decide_eq_false d]; simp
    · rw [if_neg lt]
      have : b * x ≤ g.most * x := Rat.mul_le_mul_of_nonneg_right (Rat.not_lt.mp lt) h
      by_cases d : g.most * x < 1
      · rw [decide_eq_true d, decide_eq_true (Std.lt_of_le_of_lt this d)]; rfl
      · rw [decide_eq_false d]; simp
theorem reached_worths {x : Rat} (h : 0 ≤ x) (vs : List Rat) : ∀ (g : S), (atLim x (worthO g) = true → reached g x = true) → reached (plays g vs) x = (reached g x || (worths g vs).any (atLim x)) := by
  induction vs with
  | nil =>
    intro g hg
    show reached g x = (reached g x || (atLim x (worthO g) || false))
    cases e : atLim x (worthO g) with
    | true => rw [hg e]; rfl
    | false => simp
  | cons v r ih =>
    intro g hg
    show reached (plays (play g v) r) x = (reached g x || (atLim x (worthO g) || (worths (play g v) r).any (atLim x)))
    have e1 := reached_play (g := g) (v := v) h
    rw [ih (play g v) (fun z => by rw [e1, z]; simp)]
    rw [e1]
    have hd : ∀ (g : S) (vs : List Rat), atLim x (worthO g) = true → (worths g vs).any (atLim x) = true := fun g vs z => by
      cases vs with
      | nil => show (atLim x (worthO g) || false) = true; rw [z]; rfl
      | cons _ _ => show (atLim x (worthO g) || _) = true; rw [z]; rfl
    cases e : atLim x (worthO g) with
    | true => rw [hg e]; simp
    | false =>
      cases e2 : atLim x (worthO (play g v)) with
      | true => rw [hd _ r e2]; simp
      | false => simp
theorem reached_init {x : Rat} (h : 0 ≤ x) (n : Nat) (ag : Bool) (top : Rat) (r : Ru.R) (vs : List Rat) : reached (plays (init n ag top r) vs) x = (worths (init n ag top r) vs).any (atLim x) := by
  have e : reached (init n ag top r) x = atLim x (worthO (init n ag top r)) := rfl
  rw [reached_worths h vs _ (fun z => by rw [e]; exact z), e]
  cases vs with
  | nil => show (atLim x _ || (atLim x _ || false)) = (atLim x _ || false); simp
  | cons v t =>
    show (atLim x _ || (atLim x _ || _)) = (atLim x _ || _)
    cases atLim x (worthO (init n ag top r)) <;> simp
theorem atLim_some {q x : Rat} : decide (q.den * x.den ≤ q.num * x.num) = atLim x (some q) := by
  show _ = !decide (q * x < 1)
  have e : (q * x < 1) ↔ (q.num * x.num < (q.den : Int) * (x.den : Int)) := by
    rw [← Fr.mul_eq, Rat.divInt_eq_div]
    have d : (0 : Int) < (q.den : Int) * (x.den : Int) := Int.mul_pos (Fr.den_pos q) (Fr.den_pos x)
    rw [Rat.div_lt_iff (Ru.cast_pos d), Rat.one_mul, Rat.intCast_lt_intCast]
  by_cases c : q * x < 1
  · rw [decide_eq_true c, decide_eq_false (by have := e.mp c; omega)]; rfl
  · rw [decide_eq_false c, decide_eq_true (Int.not_lt.mp fun z => c (e.mpr z))]; rfl
theorem divInt_nn {a b : Int} (h0 : 0 ≤ a) (h1 : 0 < b) : 0 ≤ Rat.divInt a b := by
  rw [Rat.divInt_eq_div]
  exact Rat.not_lt.mp fun z => by
    rw [Rat.div_lt_iff (Ru.cast_pos h1), Rat.zero_mul] at z
    exact absurd (Std.lt_of_lt_of_le z (Ru.cast_nn h0)) Rat.lt_irrefl
/-- nobody stands outside what a game allows -/
theorem std_plays {g : S} : ∀ (vs : List Rat), Std g → (∀ v ∈ vs, Vok g.top v) → (g.ag = false → g.vals.length + vs.length ≤ g.n) → g.vals.length + vs.length ≤ 60 → Std (plays g vs) := fun vs => by
  induction vs generalizing g with
  | nil => intro s _ _ _; exact s
  | cons v r ih =>
    intro s hv hn hl
    simp only [List.length_cons] at hn hl
    have o : ended g = false := by
      unfold ended
      cases ha : g.ag with
      | true => rfl
      | false =>
        have := hn ha
        rw [decide_eq_false (by omega)]
        rfl
    have pl : (play g v).vals.length = g.vals.length + 1 := by show (g.vals ++ [v]).length = _; simp
    refine ih (g := play g v) (std_play s o (by omega) (hv v (List.mem_cons_self ..))) (fun x hx => hv x (List.mem_cons_of_mem _ hx)) (fun ha => ?_) (by rw [pl]; omega)
    have := hn ha
    rw [pl]
    show _ ≤ g.n
    omega
theorem worths_sz {g : S} {vs : List Rat} {q : Rat} (s : Std g) (hv : ∀ v ∈ vs, Vok g.top v) (hn : g.ag = false → g.vals.length + vs.length ≤ g.n) (hl : g.vals.length + vs.length ≤ 60) (h : some q ∈ worths g vs) : Fr.Sz 9000 q := by
  have one : ∀ {g : S}, Std g → some q = worthO g → Fr.Sz 9000 q := fun {g} s e => by
    cases c : g.cert with
    | true => rw [show worthO g = none from if_pos c] at e; cases e
    | false =>
      rw [show worthO g = some g.now from if_neg (by rw [c]; decide)] at e
      cases e
      have := s.len
      exact (s.now c).mono (by omega)
  induction vs generalizing g with
  | nil => exact one s (List.mem_singleton.mp h)
  | cons v r ih =>
    rcases List.mem_cons.mp h with e | h
    · exact one s e
    · have e : plays g [v] = play g v := rfl
      have s' := std_plays [v] s (fun x hx => hv x (by rw [List.mem_singleton.mp hx]; exact List.mem_cons_self ..)) (fun ha => by have := hn ha; simp at this ⊢; omega) (by simp at hl ⊢; omega)
      rw [e] at s'
      have pl : (play g v).vals.length = g.vals.length + 1 := by show (g.vals ++ [v]).length = _; simp
      simp only [List.length_cons] at hn hl
      exact ih s' (fun x hx => hv x (List.mem_cons_of_mem _ hx)) (fun ha => by have := hn ha; rw [pl]; show _ ≤ g.n; omega) (by rw [pl]; omega) h
end Gm
namespace Lw
open PySem PySem.Spec PyProof.Rows L2 Gx
theorem Fqs.append {K : PySem.W.Frag} {H : Hp} : ∀ {vs us : List V} {qs rs : List Rat}, Fqs K H vs qs → Fqs K H us rs → Fqs K H (vs ++ us) (qs ++ rs)
  | _, _, _, _, .nil, b => b
  | _, _, _, _, .cons a r, b => .cons a (Fqs.append r b)
theorem Fqs.reverse {K : PySem.W.Frag} {H : Hp} : ∀ {vs : List V} {qs : List Rat}, Fqs K H vs qs → Fqs K H vs.reverse qs.reverse
  | _, _, .nil => .nil
  | _, _, .cons a r => by
    rw [List.reverse_cons, List.reverse_cons]
    exact Fqs.append (Fqs.reverse r) (.cons a .nil)
theorem sum_rev : ∀ qs : List Rat, sum qs.reverse = sum qs
  | [] => rfl
  | q :: r => by
    rw [List.reverse_cons, sum_snoc, sum_rev r]
    show _ = (q :: r).foldl (· + ·) 0
    rw [List.foldl_cons, foldl_add, Rat.zero_add, Rat.add_comm]
theorem Fqs.set {K : PySem.W.Frag} {H : Hp} {p : Addr} {q : Rat} (h : SqT K H p (Fr.fq q)) : ∀ (j : Nat) {vs : List V} {qs : List Rat}, Fqs K H vs qs → Fqs K H (vs.set j (.ref p)) (qs.set j q)
  | _, _, _, .nil => .nil
  | 0, _, _, .cons _ r => .cons ⟨p, rfl, h⟩ r
  | j + 1, _, _, .cons a r => .cons a (Fqs.set h j r)
theorem sum_none : ∀ {qs : List Rat}, (∀ i, qs.getD i 0 = 0) → sum qs = 0
  | [], _ => rfl
  | q :: r, h => by
    have h0 : q = 0 := h 0
    have h1 := sum_none (qs := r) fun i => h (i + 1)
    show (q :: r).foldl (· + ·) 0 = 0
    rw [List.foldl_cons, foldl_add, h1, h0, Rat.add_zero, Rat.add_zero]
end Lw
namespace Gm
open PySem PySem.Spec PyProof.Rows L2 Gx
/-! a function told by some parts, that tells no stake behind so many plays -/
def numN (qs : List Rat) : Int := (qs.length : Int) + (qs.map fun q => q.num).sum
/-- behind how many plays is read off a past that cannot be -/
def phi (bad : Nat) (ps : List Rat) (qs : List Rat) : Rat := if (∃ q ∈ qs, q < 0) then (if qs = [-((bad : Rat) + 1)] then 1 else 0) else toldBy numN ps qs
def NoS (φ : List Rat → Rat) (n : Nat) : Prop := φ [-((n : Rat) + 1)] = 1
theorem neg_lt (n : Nat) : -((n : Rat) + 1) < 0 := by
  have := nat_nn n
  grind
theorem nos_phi {bad : Nat} {ps : List Rat} {n : Nat} : NoS (phi bad ps) n ↔ n = bad := by
  unfold NoS phi
  rw [if_pos ⟨_, List.mem_singleton.mpr rfl, neg_lt n⟩]
  constructor
  · intro h
    by_cases c : [-((n : Rat) + 1)] = [-((bad : Rat) + 1)]
    · have e := (List.cons.inj c).1
      have e2 : (n : Rat) = (bad : Rat) := by grind
      exact Rat.natCast_inj.mp e2
    · rw [if_neg c] at h
      exact absurd h (by decide +kernel)
  · rintro rfl
    rw [if_pos rfl]
theorem phi_past {bad : Nat} {ps qs : List Rat} (h : ∀ q ∈ qs, 0 ≤ q) : phi bad ps qs = toldBy numN ps qs := if_neg fun ⟨q, hq, z⟩ => absurd (Std.lt_of_lt_of_le z (h q hq)) Rat.lt_irrefl
theorem phi_ok {bad : Nat} {ps : List Rat} {z : Nat} (z1 : 1 ≤ z) (ne : ps ≠ []) (h : ∀ p ∈ ps, 0 ≤ p ∧ p ≤ 1 ∧ Fr.Sz z p) : Ru.Ok z (.told (phi bad ps)) := fun qs => by
  show 0 ≤ phi bad ps qs ∧ phi bad ps qs ≤ 1 ∧ Fr.Sz z (phi bad ps qs)
  unfold phi
  split
  · split
    · exact ⟨by decide +kernel, by decide +kernel, Ru.sz1 z1⟩
    · exact ⟨by decide +kernel, by decide +kernel, by show (0 : Int).natAbs < 2 ^ z; exact Nat.two_pow_pos z, by show (1 : Nat) < 2 ^ z; exact Nat.one_lt_two_pow (by omega)⟩
  · exact told_ok (num := numN) ne h qs
theorem reached_up : ∀ (vs : List Rat) {g : S}, reached g 1 = true → reached (plays g vs) 1 = true
  | [], _, h => h
  | v :: r, g, h => reached_up r (g := play g v) (by rw [reached_play (by decide +kernel), h]; rfl)
theorem reached_one (n : Nat) (ag : Bool) (top : Rat) (R : Ru.R) (vs : List Rat) : reached (plays (init n ag top R) vs) 1 = true := reached_up vs (by
  show (false || !decide ((1 : Rat) * 1 < 1)) = true
  rw [decide_eq_false (by decide +kernel)]
  rfl)
end Gm
namespace Lw
open PySem PySem.Spec PyProof.Rows L2 Gx LamX NdefX
def sp_law___law_good (K : PySem.W.Frag) (ws : List (Option V)) : Sp := fun vs H Q _ => ∃ (u l : Addr) (us xs : List V) (ps qs : List Rat), ws = [some (.ref u)] ∧ vs = [.ref l] ∧ SqL K H u us ∧ Fqs K H us ps ∧ SqT K H l xs ∧ Fqs K H xs qs ∧ qs.length ≤ 60 ∧ ps ≠ [] ∧ ps.length ≤ 4 ∧
  ∀ r H', Same H H' → SqT K H' r (Fr.fq (Gm.toldBy Gm.numN ps qs)) → Q (.ref r) H'
/-- the law's good function, its parts -/
structure GdAt (K : PySem.W.Frag) (H : Hp) (f : Addr) (F : FX) (u : Addr) (o : Obj) (us : List V) (ps : List Rat) : Prop where
  isf : IsF_law___law_good F
  clo : Clo H f F ["_law_parts"] [.ref u]
  hu : H u = some (.frz o (.lst us))
  fq : Fqs K H us ps
  ne : ps ≠ []
  l4 : ps.length ≤ 4
theorem GdAt.imm {K : PySem.W.Frag} {H H' : Hp} {f : Addr} {F : FX} {u : Addr} {o : Obj} {us : List V} {ps : List Rat} (h : GdAt K H f F u o us ps) (e : Imm H H') : GdAt K H' f F u o us ps := ⟨h.isf, h.clo.imm e, frz_imm e h.hu, h.fq.imm e, h.ne, h.l4⟩
theorem GdAt.unpin {K : PySem.W.Frag} {H : Hp} {f : Addr} {F : FX} {u : Addr} {o : Obj} {us : List V} {ps : List Rat} (h : GdAt K H f F u o us ps) {cs : List Addr} (p : Pinned cs H) (n1 : f ∉ cs) (n2 : F.c ∉ cs) (n3 : ∀ c ∈ F.cs, c ∉ cs) : GdAt K (unpin cs H) f F u o us ps := ⟨h.isf, h.clo.unpin n1 n2 n3, frz_unpin p h.hu, pairedT_unpin p h.fq, h.ne, h.l4⟩
theorem GdAt.call {K : PySem.W.Frag} {H : Hp} {Q : VK} {f l : Addr} {F : FX} {u : Addr} {o : Obj} {us xs : List V} {ps qs : List Rat} (h : GdAt K H f F u o us ps) (hl : SqT K H l xs) (fq : Fqs K H xs qs) (q60 : qs.length ≤ 60)
    (q : ∀ r H', Same H H' → SqT K H' r (Fr.fq (Gm.toldBy Gm.numN ps qs)) → Q (.ref r) H') : H f = some (FxO f F) ∧ rClo IsF_law___law_good ["_law_parts"] (sp_law___law_good K) f [.ref l] H Q := by
  have pin := h.clo.pinned
  refine k_clo h.clo h.isf ?_
  exact ⟨u, l, us, xs, ps, qs, rfl, rfl, SqL.frz (frz_unpin pin h.hu), pairedT_unpin pin h.fq, seqT_unpin pin hl, pairedT_unpin pin fq, q60, h.ne, h.l4, fun r H' s hr H'' rp => q r H'' (rp.same s) (seqT_same rp.new hr)⟩
/-- what is no stake -/
def Odd (K : PySem.W.Frag) (H : Hp) (t : V) : Prop := (∃ i, t = .int i) ∨ (∃ z, t = .str z) ∨ t = .non ∨ (∃ r c d, t = .ref r ∧ SqT K H r [.int c, .int d] ∧ (decide (0 < d) && decide (Int.gcd c d = 1)) = false) ∨ ∃ r q, t = .ref r ∧ SqT K H r (Fr.fq q) ∧ (q < 0 ∨ 1 < q) ∧ Fr.Sz 60 q
theorem Odd.imm {K : PySem.W.Frag} {H H' : Hp} {t : V} (e : Imm H H') : Odd K H t → Odd K H' t
  | .inl h => .inl h
  | .inr (.inl h) => .inr (.inl h)
  | .inr (.inr (.inl h)) => .inr (.inr (.inl h))
  | .inr (.inr (.inr (.inl ⟨r, c, d, h1, h2, h3⟩))) => .inr (.inr (.inr (.inl ⟨r, c, d, h1, seqT_imm e h2, h3⟩)))
  | .inr (.inr (.inr (.inr ⟨r, q, h1, h2, h3⟩))) => .inr (.inr (.inr (.inr ⟨r, q, h1, seqT_imm e h2, h3⟩)))
theorem Odd.isF {K : PySem.W.Frag} {H : Hp} {t : V} : Odd K H t → IsF K H t false ∨ ∃ r q, t = .ref r ∧ IsF K H t true ∧ SqT K H r (Fr.fq q) ∧ Fr.Sz 60 q ∧ Ru.clip q ≠ q
  | .inl ⟨i, h⟩ => .inl (h ▸ .int i)
  | .inr (.inl ⟨z, h⟩) => .inl (h ▸ .str z)
  | .inr (.inr (.inl h)) => .inl (h ▸ .non)
  | .inr (.inr (.inr (.inl ⟨r, c, d, h1, h2, h3⟩))) => .inl (by
    have z := IsF.whole h2
    rw [h3] at z
    exact h1 ▸ z)
  | .inr (.inr (.inr (.inr ⟨r, q, h1, h2, h3, h4⟩))) => .inr ⟨r, q, h1, h1 ▸ IsF.yes h2, h2, h4, fun e => by
    unfold Ru.clip at e
    rcases h3 with h3 | h3
    · rw [if_pos h3] at e
      rw [← e] at h3
      exact absurd h3 Rat.lt_irrefl
    · rw [if_neg (fun z => by grind), if_pos h3] at e
      rw [← e] at h3
      exact absurd h3 Rat.lt_irrefl⟩
def sp_law___law_told (K : PySem.W.Frag) (ws : List (Option V)) : Sp := fun vs H Q _ => ∃ (bad : Nat) (fg u l : Addr) (odd : V) (G : FX) (o : Obj) (us xs : List V) (ps qs : List Rat), ws = [some (.int (bad : Int)), some (.ref fg), some odd] ∧ vs = [.ref l] ∧ GdAt K H fg G u o us ps ∧ SqT K H l xs ∧ Fqs K H xs qs ∧ qs.length ≤ 60 ∧
  (qs.length = bad → Q odd H) ∧ (qs.length ≠ bad → ∀ r H', Same H H' → SqT K H' r (Fr.fq (Gm.toldBy Gm.numN ps qs)) → Q (.ref r) H')
def Tells (K : PySem.W.Frag) (H : Hp) (f : Addr) (φ : List Rat → Rat) : Prop := ∃ (F G : FX) (bad : Nat) (fg u : Addr) (odd : V) (o : Obj) (us : List V) (ps : List Rat), IsF_law___law_told F ∧ Clo H f F ["_law_bad", "_law_good", "_law_odd"] [.int (bad : Int), .ref fg, odd] ∧ GdAt K H fg G u o us ps ∧ fg ∉ F.cs ∧ G.c ∉ F.cs ∧ (∀ c ∈ G.cs, c ∉ F.cs) ∧ Odd K H odd ∧ φ = Gm.phi bad ps
theorem Tells.mono {K : PySem.W.Frag} {H H' : Hp} {f : Addr} {φ : List Rat → Rat} : Tells K H f φ → Imm H H' → Tells K H' f φ
  | ⟨F, G, bad, fg, u, odd, o, us, ps, h1, h2, h3, h4, h5, h6, h7, h8⟩, e => ⟨F, G, bad, fg, u, odd, o, us, ps, h1, h2.imm e, h3.imm e, h4, h5, h6, h7.imm e, h8⟩
theorem Tells.fn {K : PySem.W.Frag} {H : Hp} {f : Addr} {φ : List Rat → Rat} : Tells K H f φ → ∃ F, H f = some (FxO f F)
  | ⟨F, _, _, _, _, _, _, _, _, _, h, _⟩ => ⟨F, h.fn⟩
theorem Tells.call {K : PySem.W.Frag} {H : Hp} {Q : VK} {f l : Addr} {F : FX} {φ : List Rat → Rat} {xs : List V} {qs : List Rat} (h : Tells K H f φ) (hl : SqT K H l xs) (fq : Fqs K H xs qs) (q60 : qs.length ≤ 60) (nn : ∀ q ∈ qs, 0 ≤ q) (hf : H f = some (FxO f F))
    (qb : Gm.NoS φ qs.length → ∀ t H', Same H H' → Odd K H' t → Q t H') (qg : ¬ Gm.NoS φ qs.length → ∀ r H', Same H H' → SqT K H' r (Fr.fq (φ qs)) → Q (.ref r) H') : H f = some (FxO f F) ∧ rClo IsF_law___law_told ["_law_bad", "_law_good", "_law_odd"] (sp_law___law_told K) f [.ref l] H Q := by
  obtain ⟨F', G, bad, fg, u, odd, o, us, ps, h1, h2, h3, h4, h5, h6, h7, rfl⟩ := h
  have pin := h2.pinned
  refine ⟨hf, (k_clo h2 h1 ?_).2⟩
  refine ⟨bad, fg, u, l, odd, G, o, us, xs, ps, qs, rfl, rfl, h3.unpin pin h4 h5 h6, seqT_unpin pin hl, pairedT_unpin pin fq, q60, fun e H'' rp => ?_, fun ne r H' s hr H'' rp => ?_⟩
  · have s := rp.same (Same.refl _)
    exact qb (Gm.nos_phi.mpr e) odd H'' s (h7.imm (imm_same s))
  · refine qg (fun z => ne (Gm.nos_phi.mp z)) r H'' (rp.same s) ?_
    rw [Gm.phi_past nn]
    exact seqT_same rp.new hr
/-- a rule at a -/
def RAt (K : PySem.W.Frag) (H : Hp) (a : Addr) : Ru.R → Prop
  | .none => ∃ dx, H a = some (.ins (He.ga K "Rule") dx [])
  | .fixed q => False
  | .learn g w => False
  | .told φ => ∃ dx f, H a = some (.ins (He.ga K "Asked") dx [("function", .ref f)]) ∧ Tells K H f φ
/-- kept, where what may change is none of a rule -/
theorem RAt.mono {K : PySem.W.Frag} {H H' : Hp} {a : Addr} {r : Ru.R} (h : RAt K H a r) (e : Imm H H') (i : ∀ C dx fs, fs.length ≤ 2 → H a = some (.ins C dx fs) → H' a = some (.ins C dx fs)) : RAt K H' a r := by
  cases r with
  | none => obtain ⟨dx, h⟩ := h; exact ⟨dx, i _ _ _ (by simp) h⟩
  | fixed q => exact h.elim
  | learn q w => exact h.elim
  | told φ => obtain ⟨dx, f, h, g⟩ := h; exact ⟨dx, f, i _ _ _ (by simp) h, g.mono e⟩
theorem RAt.same {K : PySem.W.Frag} {H H' : Hp} {a : Addr} {r : Ru.R} (h : RAt K H a r) (e : Same H H') : RAt K H' a r := h.mono (imm_same e) fun _ _ _ _ h => e _ _ h
theorem RAt.but {K : PySem.W.Frag} {H H' : Hp} {a l : Addr} {r : Ru.R} {ys : List V} (h : RAt K H a r) (e : But l H H') (hl : H l = some (.lst ys)) : RAt K H' a r := h.mono (imm_but e hl) fun _ _ _ _ h => e _ _ (ne_of h hl (by intro z; cases z)) h
theorem RAt.butI {K : PySem.W.Frag} {H H' : Hp} {a l C dx : Addr} {r : Ru.R} {fs : List (Str × V)} (h : RAt K H a r) (e : But l H H') (hl : H l = some (.ins C dx fs)) (hf : 3 ≤ fs.length) : RAt K H' a r := h.mono (imm_butI e hl) fun C' dx' fs' hf' h => e _ _ (ne_of h hl (by intro z; cases z; omega)) h
theorem RAt.there {K : PySem.W.Frag} {H : Hp} {a : Addr} {r : Ru.R} (h : RAt K H a r) : H a ≠ none := fun e => by
  cases r with
  | none => obtain ⟨dx, h⟩ := h; rw [e] at h; cases h
  | fixed q => exact h.elim
  | learn q w => exact h.elim
  | told φ => obtain ⟨dx, f, h, g⟩ := h; rw [e] at h; cases h

/-- a game at a, its list at l -/
structure GA (K : PySem.W.Frag) (H : Hp) (a l dx t r s : Addr) (now : V) (m : Addr) (vs : List V) (g : Gm.S) : Prop where
  ins : H a = some (.ins (He.ga K "Game") dx [("many", .int (g.n : Int)), ("again", .bl g.ag), ("highest", .ref t), ("rule", .ref r), ("drawn_values", .ref l), ("sum_so_far", .ref s), ("now", now), ("most", .ref m), ("certain", .bl g.cert)])
  top : SqT K H t (Fr.fq g.top)
  rule : RAt K H r g.R
  lst : H l = some (.lst vs)
  vals : Fqs K H vs g.vals
  sum : SqT K H s (Fr.fq (Lw.sum g.vals))
  now_ : if g.cert = true then now = .non else ∃ p, now = .ref p ∧ SqT K H p (Fr.fq g.now)
  most : SqT K H m (Fr.fq g.most)
def GAt (K : PySem.W.Frag) (H : Hp) (a l : Addr) (g : Gm.S) : Prop := ∃ dx t r s now m vs, GA K H a l dx t r s now m vs g
theorem GA.same {K : PySem.W.Frag} {H H' : Hp} {a l dx t r s m : Addr} {now : V} {vs : List V} {g : Gm.S} (h : GA K H a l dx t r s now m vs g) (e : Same H H') : GA K H' a l dx t r s now m vs g :=
  ⟨e _ _ h.ins, seqT_same e h.top, h.rule.same e, e _ _ h.lst, h.vals.same e, seqT_same e h.sum, by
    have n := h.now_
    split at n
    · rw [if_pos ‹_›]; exact n
    · rw [if_neg ‹_›]; obtain ⟨p, h1, h2⟩ := n; exact ⟨p, h1, seqT_same e h2⟩, seqT_same e h.most⟩
theorem GAt.same {K : PySem.W.Frag} {H H' : Hp} {a l : Addr} {g : Gm.S} (h : GAt K H a l g) (e : Same H H') : GAt K H' a l g := let ⟨dx, t, r, s, now, m, vs, h⟩ := h; ⟨dx, t, r, s, now, m, vs, h.same e⟩
/-- kept while other things change -/
theorem GAt.mono {K : PySem.W.Frag} {H H' : Hp} {a l : Addr} {g : Gm.S} (h : GAt K H a l g) (e : Imm H H') (ha : ∀ o, H a = some o → H' a = some o) (hl : ∀ o, H l = some o → H' l = some o) (hr : ∀ r C dx fs, fs.length ≤ 2 → H r = some (.ins C dx fs) → H' r = some (.ins C dx fs)) : GAt K H' a l g := by
  obtain ⟨dx, t, r, s, now, m, vs, h⟩ := h
  refine ⟨dx, t, r, s, now, m, vs, ha _ h.ins, seqT_imm e h.top, h.rule.mono e (hr r), hl _ h.lst, Fqs.imm e h.vals, seqT_imm e h.sum, ?_, seqT_imm e h.most⟩
  have n := h.now_
  split at n
  · rw [if_pos ‹_›]; exact n
  · rw [if_neg ‹_›]; obtain ⟨p, h1, h2⟩ := n; exact ⟨p, h1, seqT_imm e h2⟩
theorem GAt.lst {K : PySem.W.Frag} {H : Hp} {a l : Addr} {g : Gm.S} (h : GAt K H a l g) : ∃ vs, H l = some (.lst vs) := let ⟨_, _, _, _, _, _, vs, h⟩ := h; ⟨vs, h.lst⟩
theorem GAt.ins {K : PySem.W.Frag} {H : Hp} {a l : Addr} {g : Gm.S} (h : GAt K H a l g) : ∃ dx fs, 3 ≤ fs.length ∧ H a = some (.ins (He.ga K "Game") dx fs) := let ⟨dx, _, _, _, _, _, _, h⟩ := h; ⟨dx, _, by simp, h.ins⟩
theorem GAt.ne {K : PySem.W.Frag} {H : Hp} {a l : Addr} {g : Gm.S} (h : GAt K H a l g) : a ≠ l := let ⟨_, _, _, _, _, _, _, h⟩ := h; ne_of h.ins h.lst (by intro z; cases z)
/-- None, or a fraction -/
def PrO (K : PySem.W.Frag) (H : Hp) (v : V) : Option Rat → Prop
  | none => v = .non
  | some q => ∃ p, v = .ref p ∧ SqT K H p (Fr.fq q)
theorem PrO.same {K : PySem.W.Frag} {H H' : Hp} (e : Same H H') {v : V} : ∀ {o : Option Rat}, PrO K H v o → PrO K H' v o
  | none, h => h
  | some _, ⟨p, h, g⟩ => ⟨p, h, seqT_same e g⟩
theorem PrO.imm {K : PySem.W.Frag} {H H' : Hp} (e : Imm H H') {v : V} : ∀ {o : Option Rat}, PrO K H v o → PrO K H' v o
  | none, h => h
  | some _, ⟨p, h, g⟩ => ⟨p, h, seqT_imm e g⟩
theorem GAt.ext {K : PySem.W.Frag} {H H' : Hp} {a l : Addr} {g : Gm.S} (h : GAt K H a l g) (e : ∀ b o, H b = some o → (∀ ps, o ≠ .tbl ps) → H' b = some o) : GAt K H' a l g := by
  obtain ⟨dx, fs, _, hi⟩ := h.ins
  obtain ⟨vs, hv⟩ := h.lst
  exact h.mono (fun b o h f => e b o h (by rintro ps rfl; exact f)) (fun o q => by rw [hi] at q; cases q; exact e _ _ hi (by intro ps z; cases z)) (fun o q => by rw [hv] at q; cases q; exact e _ _ hv (by intro ps z; cases z)) fun r C dx fs _ q => e _ _ q (by intro ps z; cases z)
theorem GAt.but2 {K : PySem.W.Frag} {H H' : Hp} {a l : Addr} {g : Gm.S} (h : GAt K H a l g) (b : But2 a l H H') : Imm H H' := by
  obtain ⟨dx, fs, _, hi⟩ := h.ins
  obtain ⟨vs, hv⟩ := h.lst
  exact b.imm hi hv
theorem GAt.look {K : PySem.W.Frag} {H : Hp} {a l dx : Addr} {g : Gm.S} {fs : List (Str × V)} {m : Str} (h : GAt K H a l g) (hi : H a = some (.ins (He.ga K "Game") dx fs)) (n : (["many", "again", "highest", "rule", "drawn_values", "sum_so_far", "now", "most", "certain"] : List Str).contains m = false) : fs.lookup m = none := by
  obtain ⟨dx', t, r, s, now, mm, vs, G⟩ := h
  rw [G.ins] at hi
  cases hi
  have h : ∀ x ∈ (["many", "again", "highest", "rule", "drawn_values", "sum_so_far", "now", "most", "certain"] : List Str), (m == x) = false := fun x hx => by
    cases e : (m == x) with
    | false => rfl
    | true =>
      rw [beq_iff_eq.mp e, List.contains_iff_mem.mpr hx] at n
      cases n
  exact lkz (h _ (by simp)) (lkz (h _ (by simp)) (lkz (h _ (by simp)) (lkz (h _ (by simp)) (lkz (h _ (by simp)) (lkz (h _ (by simp)) (lkz (h _ (by simp)) (lkz (h _ (by simp)) (lkz (h _ (by simp)) lk0))))))))
/-- worths at some values -/
def PrOs (K : PySem.W.Frag) (H : Hp) (vs : List V) (ws : List (Option Rat)) : Prop := Paired (fun v w => PrO K H v w) vs ws
theorem PrOs.same {K : PySem.W.Frag} {H H' : Hp} (e : Same H H') : ∀ {vs : List V} {ws : List (Option Rat)}, PrOs K H vs ws → PrOs K H' vs ws
  | _, _, .nil => .nil
  | _, _, .cons h r => .cons (h.same e) (PrOs.same e r)
theorem PrOs.imm {K : PySem.W.Frag} {H H' : Hp} (e : Imm H H') : ∀ {vs : List V} {ws : List (Option Rat)}, PrOs K H vs ws → PrOs K H' vs ws
  | _, _, .nil => .nil
  | _, _, .cons h r => .cons (h.imm e) (PrOs.imm e r)
theorem PrOs.snoc {K : PySem.W.Frag} {H : Hp} {v : V} {w : Option Rat} (h : PrO K H v w) : ∀ {vs : List V} {ws : List (Option Rat)}, PrOs K H vs ws → PrOs K H (vs ++ [v]) (ws ++ [w])
  | _, _, .nil => .cons h .nil
  | _, _, .cons a r => .cons a (PrOs.snoc h r)
theorem PrOs.len {K : PySem.W.Frag} {H : Hp} {vs : List V} {ws : List (Option Rat)} (h : PrOs K H vs ws) : vs.length = ws.length := Paired.length h
theorem PrOs.take {K : PySem.W.Frag} {H : Hp} : ∀ (n : Nat) {vs : List V} {ws : List (Option Rat)}, PrOs K H vs ws → PrOs K H (vs.take n) (ws.take n)
  | 0, _, _, _ => .nil
  | _ + 1, _, _, .nil => .nil
  | n + 1, _, _, .cons a r => .cons a (PrOs.take n r)
/-- a game stands as another is played -/
theorem GAt.beside {K : PySem.W.Frag} {H H' : Hp} {a l b m : Addr} {g g' : Gm.S} (h : GAt K H a l g) (h' : GAt K H b m g') (c : But2 b m H H') (n1 : a ≠ b) (n2 : l ≠ m) : GAt K H' a l g := by
  obtain ⟨dx, fs, f3, hi⟩ := h'.ins
  obtain ⟨vs, hv⟩ := h'.lst
  obtain ⟨dx1, fs1, f1, hi1⟩ := h.ins
  obtain ⟨vs1, hv1⟩ := h.lst
  exact h.mono (c.imm hi hv) (fun o q => c _ _ n1 (ne_of hi1 hv (by intro z; cases z)) q) (fun o q => c _ _ (ne_of hv1 hi (by intro z; cases z)) n2 q) fun r C d f lf q => c _ _ (ne_of q hi (by intro z; cases z; omega)) (ne_of q hv (by intro z; cases z)) q

abbrev sp_NoStake___init__ (K : PySem.W.Frag) : Sp := spXI (He.ga K "NoStake") "turn"
def sp_is_whole (K : PySem.W.Frag) : Sp := fun vs H Q _ => ∃ (x : V) (t : Value) (b1 b2 : Bool), vs = [x] ∧ TyX K H x t ∧ PySem.W.kitOne K t (.type "int") = some b1 ∧ PySem.W.kitOne K t (.type "bool") = some b2 ∧ Q (.bl (b1 && !b2)) H
theorem isw_int {K : PySem.W.Frag} {H : Hp} {Q : VK} {E : XK} {i : Int} (q : Q (.bl true) H) : sp_is_whole K [.int i] H Q E := ⟨_, .type "int", true, false, rfl, .base (.int i), kit_ty (by decide +kernel), kit_ty (by decide +kernel), q⟩
theorem isw_w {K : PySem.W.Frag} {H : Hp} {Q : VK} {E : XK} {x : V} {b : Bool} (h : Whole K H x b) (q : Q (.bl b) H) : sp_is_whole K [x] H Q E := by
  obtain ⟨t, b1, b2, ht, h1, h2, rfl⟩ := h
  exact ⟨x, t, b1, b2, rfl, ht, h1, h2, q⟩
def sp_in_common (K : PySem.W.Frag) : Sp := fun vs H Q _ => ∃ (a b : Int), vs = [.int a, .int b] ∧ Q (.int (Int.gcd a b : Int)) H
def sp_lowest (K : PySem.W.Frag) : Sp := fun vs H Q E => ∃ (a b : Int), vs = [.int a, .int b] ∧ (b = 0 → E (.ref (He.ga K "NoFraction")) none H) ∧ (b ≠ 0 → Okd a b ∧ ∀ p H', Same H H' → SqT K H' p (Fr.fq (Rat.divInt a b)) → Q (.ref p) H')
def sp_plus (K : PySem.W.Frag) : Sp := fun vs H Q _ => ∃ (p q : Addr) (x y : Rat) (m n : Nat), vs = [.ref p, .ref q] ∧ SqT K H p (Fr.fq x) ∧ SqT K H q (Fr.fq y) ∧ Fr.Sz m x ∧ Fr.Sz n y ∧ m + n ≤ 9000 ∧ ∀ r H', Same H H' → SqT K H' r (Fr.fq (x + y)) → Fr.Sz (m + n + 1) (x + y) → Q (.ref r) H'
def sp_minus (K : PySem.W.Frag) : Sp := fun vs H Q _ => ∃ (p q : Addr) (x y : Rat) (m n : Nat), vs = [.ref p, .ref q] ∧ SqT K H p (Fr.fq x) ∧ SqT K H q (Fr.fq y) ∧ Fr.Sz m x ∧ Fr.Sz n y ∧ m + n ≤ 9000 ∧ ∀ r H', Same H H' → SqT K H' r (Fr.fq (x - y)) → Fr.Sz (m + n + 1) (x - y) → Q (.ref r) H'
def sp_times (K : PySem.W.Frag) : Sp := fun vs H Q _ => ∃ (p q : Addr) (x y : Rat) (m n : Nat), vs = [.ref p, .ref q] ∧ SqT K H p (Fr.fq x) ∧ SqT K H q (Fr.fq y) ∧ Fr.Sz m x ∧ Fr.Sz n y ∧ (m + n ≤ 9000 ∨ (m + n ≤ 1000000 ∧ y ≠ 0 ∧ 2 * n ≤ 9000)) ∧ ∀ r H', Same H H' → SqT K H' r (Fr.fq (x * y)) → Fr.Sz (m + n) (x * y) → Q (.ref r) H'
def sp_over (K : PySem.W.Frag) : Sp := fun vs H Q E => ∃ (p q : Addr) (x y : Rat) (m n : Nat), vs = [.ref p, .ref q] ∧ SqT K H p (Fr.fq x) ∧ SqT K H q (Fr.fq y) ∧ Fr.Sz m x ∧ Fr.Sz n y ∧ m + n ≤ 9000 ∧ (y = 0 → E (.ref (He.ga K "NoFraction")) none H) ∧ (y ≠ 0 → ∀ r H', Same H H' → SqT K H' r (Fr.fq (x / y)) → Fr.Sz (m + n) (x / y) → Q (.ref r) H')
def sp_below (K : PySem.W.Frag) : Sp := fun vs H Q _ => ∃ (p q : Addr) (x y : Rat) (m n : Nat), vs = [.ref p, .ref q] ∧ SqT K H p (Fr.fq x) ∧ SqT K H q (Fr.fq y) ∧ Fr.Sz m x ∧ Fr.Sz n y ∧ m + n ≤ 134217728 ∧ Q (.bl (decide (x < y))) H
def sp_is_fraction (K : PySem.W.Frag) : Sp := fun vs H Q _ => ∃ (x : V) (b : Bool), vs = [x] ∧ IsF K H x b ∧ Q (.bl b) H
def sp_Game___init__ (K : PySem.W.Frag) : Sp := fun vs H Q _ => ∃ (a dx t r : Addr) (n : Nat) (ag : Bool) (top : Rat) (R : Ru.R), vs = [.ref a, .int (n : Int), .bl ag, .ref t, .ref r] ∧ H a = some (.ins (He.ga K "Game") dx []) ∧ SqT K H t (Fr.fq top) ∧ r ≠ a ∧
  ∀ l H', But a H H' → H l = none → (∀ H'', Same H' H'' → RAt K H'' r R → GAt K H'' a l (Gm.init n ag top R)) → Q .non H'
def sp_Game_ended (K : PySem.W.Frag) : Sp := fun vs H Q _ => ∃ (a l : Addr) (g : Gm.S), vs = [.ref a] ∧ GAt K H a l g ∧ Q (.bl (Gm.ended g)) H
def sp_Game_price (K : PySem.W.Frag) : Sp := fun vs H Q _ => ∃ (a l : Addr) (g : Gm.S) (c : Nat), vs = [.ref a] ∧ GAt K H a l g ∧ Fr.Sz c (Lw.sum g.vals) ∧ c ≤ 1000 ∧ g.n ≤ 60 ∧ (g.ag = false → g.vals.length ≤ g.n) ∧ ∀ v H', Same H H' → PrO K H' v (Gm.priceO g) → Q v H'
def sp_Game_worth_behind (K : PySem.W.Frag) : Sp := fun vs H Q E => ∃ (a l p : Addr) (g : Gm.S) (v : Rat) (φ : List Rat → Rat) (b c t z : Nat), vs = [.ref a, .ref p] ∧ GAt K H a l g ∧ SqT K H p (Fr.fq v) ∧ Gm.Fits g v b c t z ∧ g.cert = false ∧ g.R = .told φ ∧ (∀ q ∈ g.vals, 0 ≤ q) ∧ (Gm.NoS φ g.vals.length → ∀ d H', Same H H' → H' d = some (.xd [("turn", .int (g.vals.length : Int))]) → E (.ref (He.ga K "NoStake")) (some d) H') ∧ (¬ Gm.NoS φ g.vals.length → ∀ r H', Same H H' → SqT K H' r (Fr.fq (Gm.behind g v)) → Q (.ref r) H')
def sp_Game_play (K : PySem.W.Frag) : Sp := fun vs H Q E => ∃ (a l p : Addr) (g : Gm.S) (v : Rat) (φ : List Rat → Rat), vs = [.ref a, .ref p] ∧ GAt K H a l g ∧ SqT K H p (Fr.fq v) ∧ g.R = .told φ ∧ (∀ q ∈ g.vals, 0 ≤ q) ∧ ((Gm.ended g = true ∧ E (.ref (He.ga K "Ended")) none H) ∨ (∃ b c t z, Gm.Fits g v b c t z ∧ g.cert = false ∧ Gm.NoS φ g.vals.length ∧ ∀ d H', Same H H' → H' d = some (.xd [("turn", .int (g.vals.length : Int))]) → E (.ref (He.ga K "NoStake")) (some d) H') ∨ ∃ b c t z, Gm.Fits g v b c t z ∧ (g.cert = true ∨ ¬ Gm.NoS φ g.vals.length) ∧ ∀ H', But2 a l H H' → GAt K H' a l (Gm.play g v) → Q .non H')
def sp_Game_worth (K : PySem.W.Frag) : Sp := fun vs H Q _ => ∃ (a l : Addr) (g : Gm.S), vs = [.ref a] ∧ GAt K H a l g ∧ ∀ v, PrO K H v (Gm.worthO g) → Q v H
def sp_Game_turns (K : PySem.W.Frag) : Sp := fun vs H Q _ => ∃ (a l : Addr) (g : Gm.S), vs = [.ref a] ∧ GAt K H a l g ∧ Q (.int (g.vals.length : Nat)) H
def sp_Game_past (K : PySem.W.Frag) : Sp := fun vs H Q _ => ∃ (a l : Addr) (g : Gm.S), vs = [.ref a] ∧ GAt K H a l g ∧ ∀ p xs H', Same H H' → SqT K H' p xs → Fqs K H' xs g.vals → Q (.ref p) H'
def sp_Game_reached (K : PySem.W.Frag) : Sp := fun vs H Q _ => ∃ (a l p : Addr) (g : Gm.S) (x : Rat) (m n : Nat), vs = [.ref a, .ref p] ∧ GAt K H a l g ∧ SqT K H p (Fr.fq x) ∧ (g.cert = false → Fr.Sz m g.most) ∧ Fr.Sz n x ∧ (m + n ≤ 9000 ∨ (m + n ≤ 1000000 ∧ x ≠ 0 ∧ 2 * n ≤ 9000)) ∧ ∀ H', Same H H' → Q (.bl (Gm.reached g x)) H'
def sp_within (K : PySem.W.Frag) : Sp := fun vs H Q _ => ∃ (p : Addr) (x : Rat) (m : Nat), vs = [.ref p] ∧ SqT K H p (Fr.fq x) ∧ Fr.Sz m x ∧ m ≤ 100000 ∧ ∀ r, SqT K H r (Fr.fq (Ru.clip x)) → Q (.ref r) H
def sp_Asked___init__ (K : PySem.W.Frag) : Sp := fun vs H Q _ => ∃ (a dx : Addr) (u : V), vs = [.ref a, u] ∧ H a = some (.ins (He.ga K "Asked") dx []) ∧ ∀ H', But a H H' → H' a = some (.ins (He.ga K "Asked") dx [("function", u)]) → Q .non H'
def sp_Asked_stake (K : PySem.W.Frag) : Sp := fun vs H Q E => ∃ (a dx f l : Addr) (u v : V) (φ : List Rat → Rat) (xs : List V) (qs : List Rat) (z : Nat), vs = [.ref a, .ref l, u, v] ∧ H a = some (.ins (He.ga K "Asked") dx [("function", .ref f)]) ∧ Tells K H f φ ∧ SqT K H l xs ∧ Fqs K H xs qs ∧
  (∀ q ∈ qs, 0 ≤ q) ∧ qs.length ≤ 60 ∧ Fr.Sz z (φ qs) ∧ z ≤ 2000 ∧ 0 ≤ φ qs ∧ φ qs ≤ 1 ∧ (Gm.NoS φ qs.length → ∀ d H', Same H H' → H' d = some (.xd [("turn", .int (qs.length : Int))]) → E (.ref (He.ga K "NoStake")) (some d) H') ∧ (¬ Gm.NoS φ qs.length → ∀ r H', Same H H' → SqT K H' r (Fr.fq (φ qs)) → Q (.ref r) H')
def sp__law_cell_at (K : PySem.W.Frag) : Sp := fun vs H Q _ => ∃ (a : Addr) (ns : List Int) (k : Int), vs = [.ref a, .int k] ∧ SqL K H a (ns.map V.int) ∧ 0 ≤ k ∧ ∀ r : Int, Q (.int r) H
def sp__law_begin (K : PySem.W.Frag) : Sp := fun vs H Q _ => ∃ c : Int, vs = [.int c] ∧ ∀ (l : Addr) (n f : Int) H', H l = none → Same H H' → H' l = some (.lst [.int n, .int f]) → Q (.ref l) H'
def sp__law_draw (K : PySem.W.Frag) : Sp := fun vs H Q _ => ∃ (l : Addr) (n f m : Int), vs = [.ref l, .int m] ∧ H l = some (.lst [.int n, .int f]) ∧ 1 ≤ m ∧ m < 2147483648 ∧ ∀ (r n' : Int) H', But l H H' → H' l = some (.lst [.int n', .int f]) → 0 ≤ r → r < m → Q (.int r) H'
def sp__law_low (K : PySem.W.Frag) : Sp := fun vs H Q _ => ∃ (a b : Int), vs = [.int a, .int b] ∧ 0 < b ∧ Okd a b ∧ ∀ p H', Same H H' → H p = none → SqT K H' p (Fr.fq (Rat.divInt a b)) → Q (.ref p) H'
def sp__law_add (K : PySem.W.Frag) : Sp := fun vs H Q _ => ∃ (p q : Addr) (a b c d : Int) (m n : Nat), vs = [.ref p, .ref q] ∧ SqT K H p [.int a, .int b] ∧ SqT K H q [.int c, .int d] ∧ a.natAbs < 2 ^ m ∧ b.natAbs < 2 ^ m ∧ c.natAbs < 2 ^ n ∧ d.natAbs < 2 ^ n ∧ m + n ≤ 8999 ∧ 0 < b ∧ 0 < d ∧
  ∀ r H', Same H H' → H r = none → SqT K H' r (Fr.fq (Rat.divInt a b + Rat.divInt c d)) → Fr.Sz (m + n + 1) (Rat.divInt a b + Rat.divInt c d) → Q (.ref r) H'
theorem add_fq {K : PySem.W.Frag} {H : Hp} {Q : VK} {E : XK} {p q : Addr} {x y : Rat} {m n : Nat} (hp : SqT K H p (Fr.fq x)) (hq : SqT K H q (Fr.fq y)) (sx : Fr.Sz m x) (sy : Fr.Sz n y) (hmn : m + n ≤ 8999)
    (k : ∀ r H', Same H H' → H r = none → SqT K H' r (Fr.fq (x + y)) → Fr.Sz (m + n + 1) (x + y) → Q (.ref r) H') : sp__law_add K [.ref p, .ref q] H Q E :=
  ⟨p, q, _, _, _, _, m, n, rfl, hp, hq, sx.1, sx.den, sy.1, sy.den, hmn, Fr.den_pos x, Fr.den_pos y, by rw [Rat.num_divInt_den, Rat.num_divInt_den]; exact k⟩
def sp__law_times (K : PySem.W.Frag) : Sp := fun vs H Q _ => ∃ (p q : Addr) (x y : Rat) (m n : Nat), vs = [.ref p, .ref q] ∧ SqT K H p (Fr.fq x) ∧ SqT K H q (Fr.fq y) ∧ Fr.Sz m x ∧ Fr.Sz n y ∧ m + n ≤ 9000 ∧ ∀ r H', Same H H' → H r = none → SqT K H' r (Fr.fq (x * y)) → Fr.Sz (m + n) (x * y) → Q (.ref r) H'
def sp__law_sum (K : PySem.W.Frag) : Sp := fun vs H Q _ => ∃ (l : Addr) (xs : List V) (qs : List Rat) (n : Nat), vs = [.ref l] ∧ (SqL K H l xs ∨ SqT K H l xs) ∧ Fqs K H xs qs ∧ (∀ q ∈ qs, Fr.Sz n q) ∧ qs.length * (n + 1) + 1 ≤ 8000 ∧
  ∀ r H', Same H H' → SqT K H' r (Fr.fq (Lw.sum qs)) → Fr.Sz (qs.length * (n + 1) + 1) (Lw.sum qs) → Q (.ref r) H'
def sp__law_top (K : PySem.W.Frag) : Sp := fun vs H Q _ => ∃ (l : Addr) (n f : Int), vs = [.ref l] ∧ H l = some (.lst [.int n, .int f]) ∧ ∀ (r : Addr) (x : Rat) (n' : Int) H', But l H H' → H' l = some (.lst [.int n', .int f]) → SqT K H' r (Fr.fq x) → 0 < x → Fr.Sz 5 x → Q (.ref r) H'
def sp__law_value (K : PySem.W.Frag) : Sp := fun vs H Q _ => ∃ (l p : Addr) (n f : Int) (x : Rat), vs = [.ref l, .ref p] ∧ H l = some (.lst [.int n, .int f]) ∧ SqT K H p (Fr.fq x) ∧ 0 < x ∧ Fr.Sz 5 x ∧ ∀ (r : Addr) (y : Rat) (n' : Int) H', But l H H' → H' l = some (.lst [.int n', .int f]) → H r = none → SqT K H' r (Fr.fq y) → 0 ≤ y → y ≤ x → Fr.Sz 8 y → Gm.Vok x y → Q (.ref r) H'
def sp__law_is (K : PySem.W.Frag) : Sp := fun vs H Q _ => ∃ (u v : V), vs = [u, v] ∧ ((u = .non ∧ v = .non) ∨ ∃ (p q : Addr) (x : Rat), u = .ref p ∧ v = .ref q ∧ SqT K H p (Fr.fq x) ∧ SqT K H q (Fr.fq x)) ∧ Q (.bl true) H
theorem is_fq {K : PySem.W.Frag} {H : Hp} {Q : VK} {E : XK} {p q : Addr} {x : Rat} (hp : SqT K H p (Fr.fq x)) (hq : SqT K H q (Fr.fq x)) (k : Q (.bl true) H) : sp__law_is K [.ref p, .ref q] H Q E := ⟨_, _, rfl, .inr ⟨p, q, x, rfl, rfl, hp, hq⟩, k⟩
def sp__law_price (K : PySem.W.Frag) : Sp := fun vs H Q _ => ∃ (l : Addr) (xs : List V) (g : Gm.S), vs = [.int (g.n : Int), .bl g.ag, .ref l] ∧ SqT K H l xs ∧ Fqs K H xs g.vals ∧ Gm.Std g ∧ ∀ v H', Same H H' → PrO K H' v (Gm.priceO g) → Q v H'
def sp__law_behind (K : PySem.W.Frag) : Sp := fun vs H Q _ => ∃ (a t l p u : Addr) (w : V) (xs us : List V) (g : Gm.S) (v : Rat) (G : FX) (o : Obj) (ps : List Rat) (bad : Nat), vs = [.ref a, .int (g.n : Int), .bl g.ag, .ref t, .ref l, w, .ref p] ∧ GdAt K H a G u o us ps ∧ g.R = .told (Gm.phi bad ps) ∧ SqT K H t (Fr.fq g.top) ∧ SqT K H l xs ∧ Fqs K H xs g.vals ∧ PrO K H w (Gm.worthO g) ∧ SqT K H p (Fr.fq v) ∧ Gm.Std g ∧ Gm.ended g = false ∧ g.vals.length < 60 ∧ Gm.Vok g.top v ∧
  ∀ u H', Same H H' → PrO K H' u (Gm.worthO (Gm.play g v)) → Q u H'
def sp__law_played (K : PySem.W.Frag) : Sp := fun vs H Q _ => ∃ (a l p : Addr) (g : Gm.S) (v : Rat) (φ : List Rat → Rat), vs = [.ref a, .ref p] ∧ GAt K H a l g ∧ SqT K H p (Fr.fq v) ∧ g.R = .told φ ∧ (∀ q ∈ g.vals, 0 ≤ q) ∧
  ((Gm.ended g = true ∧ ∀ r H', Same H H' → H' r = some (.lst [.bl false, .bl true, .bl true, .bl false, .bl false]) → Q (.ref r) H') ∨
   (∃ b c t z, Gm.Fits g v b c t z ∧ g.cert = false ∧ Gm.NoS φ g.vals.length ∧ ∀ r H', Same H H' → H' r = some (.lst [.bl true, .bl false, .bl true, .bl false, .bl false, .int (g.vals.length : Int)]) → Q (.ref r) H') ∨
   ∃ b c t z, Gm.Fits g v b c t z ∧ (g.cert = true ∨ ¬ Gm.NoS φ g.vals.length) ∧ ∀ r H', But2 a l H H' → H' r = some (.lst []) → GAt K H' a l (Gm.play g v) → Q (.ref r) H')
theorem is_pro {K : PySem.W.Frag} {H : Hp} {Q : VK} {E : XK} {u v : V} {o : Option Rat} (hu : PrO K H u o) (hv : PrO K H v o) (k : Q (.bl true) H) : sp__law_is K [u, v] H Q E := by
  cases o with
  | none => exact ⟨u, v, rfl, .inl ⟨hu, hv⟩, k⟩
  | some q =>
    obtain ⟨p, rfl, hp⟩ := hu
    obtain ⟨p', rfl, hp'⟩ := hv
    exact is_fq hp hp' k
def sp__law_stands (K : PySem.W.Frag) : Sp := fun vs H Q _ => ∃ (a l t : Addr) (w : V) (xs : List V) (g : Gm.S), vs = [.ref a, .int (g.n : Int), .bl g.ag, w, .ref t] ∧ GAt K H a l g ∧ Gm.Std g ∧ Gm.reached g 1 = true ∧ PrO K H w (Gm.worthO g) ∧ SqT K H t xs ∧ Fqs K H xs g.vals ∧ ∀ H', Same H H' → Q (.bl true) H'
/-- what it is refused with -/
def dueR (st : Bool) (n : Nat) : List V := if st = true then [.bl true, .bl false, .bl true, .bl false, .bl false, .int (n : Int)] else [.bl false, .bl true, .bl true, .bl false, .bl false]
def dueD (st : Bool) (n : Nat) : PyData := .list (if st = true then [.bool true, .bool false, .bool true, .bool false, .bool false, .int (n : Int)] else [.bool false, .bool true, .bool true, .bool false, .bool false])
theorem due_dp {K : PySem.W.Frag} {H : Hp} {r : Addr} {st : Bool} {n : Nat} (h : H r = some (.lst (dueR st n))) : Dp K H (.ref r) (dueD st n) := by
  cases st
  · exact .lst (SqL.of h) (.cons (.bl _) (.cons (.bl _) (.cons (.bl _) (.cons (.bl _) (.cons (.bl _) .nil)))))
  · exact .lst (SqL.of h) (.cons (.bl _) (.cons (.bl _) (.cons (.bl _) (.cons (.bl _) (.cons (.bl _) (.cons (.int _) .nil))))))
theorem due_sh (st : Bool) (n : Nat) : Dt.Sh 1 (dueD st n) := by
  cases st
  · refine Dt.sh_lst fun d hd => ?_
    simp only [Bool.false_eq_true, if_false, List.mem_cons, List.not_mem_nil, or_false] at hd
    rcases hd with rfl | rfl | rfl | rfl | rfl <;> exact Dt.sh_bl _
  · refine Dt.sh_lst fun d hd => ?_
    simp only [if_true, List.mem_cons, List.not_mem_nil, or_false] at hd
    rcases hd with rfl | rfl | rfl | rfl | rfl | rfl <;> first | exact Dt.sh_bl _ | exact Dt.sh_int _
def sp__law_twice (K : PySem.W.Frag) : Sp := fun vs H Q _ => ∃ (a l kp tt t p dp : Addr) (w : V) (xs : List V) (g : Gm.S) (v : Rat) (φ : List Rat → Rat) (st : Bool), vs = [.ref a, .ref kp, w, .ref t, .ref p, .ref dp] ∧ GAt K H a l g ∧ Gm.Std g ∧ Gm.reached g 1 = true ∧ SqT K H kp [.int (g.n : Int), .bl g.ag, .ref tt] ∧ PrO K H w (Gm.worthO g) ∧ SqT K H t xs ∧ Fqs K H xs g.vals ∧ SqT K H p (Fr.fq v) ∧ g.R = .told φ ∧ H dp = some (.lst (dueR st g.vals.length)) ∧
  (if st = true then ∃ b c t z, Gm.Fits g v b c t z ∧ g.cert = false ∧ Gm.NoS φ g.vals.length else Gm.ended g = true) ∧ ∀ H', Same H H' → Q (.bl true) H'
def sp__law_right (K : PySem.W.Frag) : Sp := fun vs H Q _ => ∃ (a l kp tt lv fg u : Addr) (vv us : List V) (n : Nat) (ag : Bool) (top : Rat) (qs ps : List Rat) (G : FX) (o : Obj) (bad : Nat), vs = [.ref a, .ref kp, .ref lv, .ref fg, .int (bad : Int)] ∧ GAt K H a l (Gm.init n ag top (.told (Gm.phi bad ps))) ∧ SqT K H kp [.int (n : Int), .bl ag, .ref tt] ∧ SqT K H tt (Fr.fq top) ∧ H lv = some (.lst vv) ∧ lv ≠ l ∧ Fqs K H vv qs ∧ GdAt K H fg G u o us ps ∧
  qs.length = n ∧ 1 ≤ n ∧ n ≤ 9 ∧ 0 < top ∧ Fr.Sz 5 top ∧ (∀ q ∈ qs, Gm.Vok top q) ∧ Ru.Ok 7 (.told (Gm.phi bad ps)) ∧ ∀ H', But2 a l H H' → Q (.bl true) H'
theorem fqs_repL {K : PySem.W.Frag} {H : Hp} {p : Addr} {q : Rat} (h : SqT K H p (Fr.fq q)) : ∀ n : Nat, Fqs K H (List.replicate n (.ref p)) (List.replicate n q)
  | 0 => .nil
  | n + 1 => .cons ⟨p, rfl, h⟩ (fqs_repL h n)
theorem rep1L {α : Type} (x : α) : ∀ k : Nat, (List.replicate k [x]).flatten = List.replicate k x
  | 0 => rfl
  | k + 1 => by rw [List.replicate_succ, List.replicate_succ, List.flatten_cons, rep1L x k]; rfl
theorem vok_half {m : Nat} (m1 : 1 ≤ m) (m9 : m ≤ 9) : Gm.Vok (m : Rat) ((m : Rat) / 2) := by
  have mp := Gm.nat_pos (n := m) (by omega)
  have e : (m : Rat) / 2 = Rat.divInt (m : Int) 2 := by rw [Rat.divInt_eq_div]; rfl
  refine ⟨by grind, by grind, ⟨30 * (m : Int), ?_⟩, by rw [e]; exact Fr.sz_divInt (by decide) (by show _ < 256; omega) (by decide)⟩
  rw [show (60 * ((m : Rat)).den : Nat) = 60 from rfl, Rat.divInt_eq_div, Rat.intCast_mul]
  have e1 : ((30 : Int) : Rat) = 30 := rfl
  have e2 : (((60 : Nat) : Int) : Rat) = 60 := rfl
  have e3 : ((m : Int) : Rat) = (m : Rat) := rfl
  rw [e1, e2, e3]
  grind
theorem vok_zero {m : Nat} : Gm.Vok (m : Rat) 0 := ⟨by decide +kernel, Gm.nat_nn m, Gm.on_zero _, by decide +kernel, by decide +kernel⟩
def sp_law (K : PySem.W.Frag) : Sp := fun vs H Q _ => ∃ (a : Addr) (ns : List Int), vs = [.ref a] ∧ SqL K H a (ns.map V.int) ∧ ns.length ≤ 63 ∧ H (He.cT K p_law___law_good).2 = some (.tbl #[]) ∧ ∀ H', Q (.bl true) H'
end Lw
namespace Lw
open PySem PySem.Spec PyProof.Rows L2 Gx LamX NdefX
section
variable {P : Program} {w : World} {K : PySem.W.Frag} {mg : Str → Option Value} {base : Heap} {f : Addr} {fd : FuncData}
theorem ok_NoStake___init__ (F : FnP K "__init__" "NoStake.__init__" s_NoStake___init__ f fd) (T : Txt K mg) : FnOk P w K mg base (L2.CX P w) 1 f fd ["self", "turn"] (sp_NoStake___init__ K) := by
  refine F.ok sc_NoStake___init__ (fun vs H Q E h => ?_) (fun cdv A outer s H vs Q E hr h => ?_)
  · obtain ⟨a, v, rfl, _⟩ := h; rfl
  · refine ⟨_, (pss_cons (ps_expr (pe_svinit T.s_SureError rfl T.g_SureError (pa_cons (pv 0) (pa_cons pe_str pa_nil)))) (pss_one (ps_ost (pv 0) (pv 1)))), ?_⟩
    obtain ⟨a, v, rfl, h1, k⟩ := h
    walk_at "go"
    refine k_veIx T.o_NoStake h1 ?_ (by simp)
    walk_at "go"
    refine k_ostx T.o_NoStake T.f_NoStake_turn h1 (fun d hd hda => ?_)
    exact k d hd hda
end
end Lw
namespace Lw
open PySem PySem.Spec PyProof.Rows L2 Gx LamX NdefX
section
variable {P : Program} {w : World} {K : PySem.W.Frag} {mg : Str → Option Value} {base : Heap} {f : Addr} {fd : FuncData}
theorem ok_is_whole (F : FnP K "is_whole" "is_whole" s_is_whole f fd) (T : Txt K mg) : FnOk P w K mg base (L2.CX P w) 1 f fd ["thing"] (sp_is_whole K) := by
  refine F.ok sc_is_whole (fun vs H Q E h => ?_) (fun cdv A outer s H vs Q E hr h => ?_)
  · obtain ⟨x, t, b1, b2, rfl, _⟩ := h; rfl
  · refine ⟨_, (pss_one (ps_ret (pe_and (pe_callB (callK (K := K) (r := rIsi) rfl call_isi) (by rfl) T.n_isinstance (by decide +kernel) (pa_cons (pv 0) (pa_cons (pe_bltn (v := .ty "int") (by rfl) T.n_int (by decide +kernel) rfl) pa_nil))) (pe_one (pe_not (pe_callB (callK (K := K) (r := rIsi) rfl call_isi) (by rfl) T.n_isinstance (by decide +kernel) (pa_cons (pv 0) (pa_cons (pe_bltn (v := .ty "bool") (by rfl) T.n_bool (by decide +kernel) rfl) pa_nil)))))))), ?_⟩
    obtain ⟨x, t, b1, b2, rfl, ht, h1, h2, k⟩ := h
    walk_at "go"
    refine k_isi (.ty "int") ht h1 ?_
    walk_at "go"
    cases b1 with
    | false => walk_at "go"; exact k
    | true =>
      walk_at "go"
      refine k_isi (.ty "bool") ht h2 ?_
      walk_at "go"
      exact k
end
end Lw
namespace Lw
open PySem PySem.Spec PyProof.Rows L2 Gx LamX NdefX
section
variable {P : Program} {w : World} {K : PySem.W.Frag} {mg : Str → Option Value} {base : Heap} {f : Addr} {fd : FuncData}
theorem ok_in_common (F : FnP K "in_common" "in_common" s_in_common f fd) (T : Txt K mg) : FnOk P w K mg base (L2.CX P w) 1 f fd ["a", "b"] (sp_in_common K) := by
  refine F.ok sc_in_common (fun vs H Q E h => ?_) (fun cdv A outer s H vs Q E hr h => ?_)
  · obtain ⟨a, b, rfl, _⟩ := h; rfl
  · refine ⟨_, (pss_cons (ps_set (i := 0) sc_in_common.nd rfl (Or.inl rfl) (pe_callB call_absU (by rfl) T.n_abs (by decide +kernel) (pa_cons (pv 0) pa_nil))) (pss_cons (ps_set (i := 1) sc_in_common.nd rfl (Or.inl rfl) (pe_callB call_absU (by rfl) T.n_abs (by decide +kernel) (pa_cons (pv 1) pa_nil))) (pss_cons (ps_while (passes_of rfl) (pt_cmpR op_gt (pv 1) pe_int (nomark _)) (pss_one (ps_par (i := 0) (j := 1) (by rfl) sc_in_common.nd rfl rfl (by decide) rfl rfl (pa_cons (pv 1) (pa_cons (pe_op op_modN (pv 0) (pv 1)) pa_nil)) (by rfl)))) (pss_one (ps_ret (pv 0)))))), ?_⟩
    obtain ⟨a, b, rfl, kk⟩ := h
    walk_at "go"
    refine k_while (fun m σ H' => H' = H ∧ ∃ x : Nat, σ = [some (.int (x : Int)), some (.int (m : Int))] ∧ Nat.gcd x m = Int.gcd a b) b.natAbs ⟨rfl, a.natAbs, rfl, rfl⟩ ?_
    rintro m σ H' ⟨rfl, x, rfl, e⟩
    walk_at "go"
    refine k_if (fun c => ?_) (fun c => ?_)
    · refine k_wN ?_
      walk_at "go"
      refine ⟨x % m, Nat.mod_lt _ (by omega), rfl, m, rfl, ?_⟩
      rw [← e, Nat.gcd_comm m, ← Nat.gcd_rec, Nat.gcd_comm]
    · obtain rfl : m = 0 := by omega
      walk_at "go"
      rw [Nat.gcd_zero_right] at e
      rw [e]
      exact kk
end
end Lw
namespace Lw
open PySem PySem.Spec PyProof.Rows L2 Gx LamX NdefX
section
variable {P : Program} {w : World} {K : PySem.W.Frag} {mg : Str → Option Value} {base : Heap} {f : Addr} {fd : FuncData}
theorem ok_lowest (F : FnP K "lowest" "lowest" s_lowest f fd) (T : Txt K mg) (c_in_common : Cl P w K mg base 1 "in_common" ["a", "b"] (sp_in_common K)) : FnOk P w K mg base (L2.CX P w) 2 f fd ["a", "b"] (sp_lowest K) := by
  refine F.ok sc_lowest (fun vs H Q E h => ?_) (fun cdv A outer s H vs Q E hr h => ?_)
  · obtain ⟨a, b, rfl, _⟩ := h; rfl
  · refine ⟨_, (pss_cons (ps_if (pt_cmpR (op_eqK (K := K) rfl hr) (pv 1) pe_int (nomark _)) (pss_one (ps_raise rfl (takes_of rfl rfl rfl rfl) (pmk_own PySem.F.excBase_ValueError T.x_NoFraction.1 T.g_NoFraction T.x_NoFraction.2.1 (raises_own T.x_NoFraction.2.2.1 T.x_NoFraction.2.2.2) rfl))) pss_nil) (pss_cons (ps_set (i := 2) sc_lowest.nd rfl (Or.inl rfl) (pcall c_in_common hr (by first | decide | omega) (takes_of rfl rfl rfl rfl) (pa_cons (pv 0) (pa_cons (pv 1) pa_nil)))) (C8.pss_cut (ps_if (pt_cmpR op_lt (pv 1) pe_int (nomark _)) (pss_one (ps_set (i := 2) sc_lowest.nd rfl (Or.inl rfl) (pe_op op_sub pe_int (pv 2)))) pss_nil) (pss_one (ps_ret (pe_tup (pa_cons (pe_op op_fdivG (pv 0) (pv 2)) (pa_cons (pe_op op_fdivG (pv 1) (pv 2)) pa_nil)))))))), ?_⟩
    obtain ⟨a, b, rfl, k0, k1⟩ := h
    walk_at "go"
    refine k_if (fun c => ?_) (fun c => ?_)
    · walk_at "go"
      exact k0 c
    · obtain ⟨hd, k1⟩ := k1 c
      walk_at "go"
      refine ⟨a, b, rfl, ?_⟩
      walk_at "go"
      refine k_cut (fun σ H' => H' = H ∧ ∃ d : Int, d = (if b < 0 then 0 - (Int.gcd a b : Int) else (Int.gcd a b : Int)) ∧ σ = [some (.int a), some (.int b), some (.int d)]) ?_ ?_
      · walk_at "go"
        refine k_if (fun c2 => ?_) (fun c2 => ?_)
        · walk_at "go"
          exact ⟨rfl, _, by rw [if_pos c2], rfl⟩
        · walk_at "go"
          exact ⟨rfl, _, by rw [if_neg c2], rfl⟩
      · rintro σ H' ⟨rfl, d, ed, rfl⟩
        have hg := Int.gcd_pos_of_ne_zero_right a c
        have hn : d.natAbs = Int.gcd a b := by rw [ed]; split <;> omega
        have hz : d ≠ 0 := by omega
        obtain ⟨d1, d2⟩ := hd.div hn
        walk_at "go"
        refine k_I ?_ ⟨hz, d1⟩
        walk_at "go"
        refine k_I ?_ ⟨hz, d2⟩
        walk_at "go"
        refine k_tupx (fun p H2 np s1 hp => ?_) (by simp [sizeLine_eq])
        refine k1 p H2 s1 (SqT.of ?_)
        rw [hp, Fr.low_num c ed, Fr.low_den c ed]
end
end Lw
namespace Lw
open PySem PySem.Spec PyProof.Rows L2 Gx LamX NdefX
section
variable {P : Program} {w : World} {K : PySem.W.Frag} {mg : Str → Option Value} {base : Heap} {f : Addr} {fd : FuncData}
theorem ok_plus (F : FnP K "plus" "plus" s_plus f fd) (T : Txt K mg) (c_lowest : Cl P w K mg base 2 "lowest" ["a", "b"] (sp_lowest K)) : FnOk P w K mg base (L2.CX P w) 3 f fd ["x", "y"] (sp_plus K) := by
  refine F.ok sc_plus (fun vs H Q E h => ?_) (fun cdv A outer s H vs Q E hr h => ?_)
  · obtain ⟨p, q, x, y, m, n, rfl, _⟩ := h; rfl
  · refine ⟨_, (pss_one (ps_ret (pcall c_lowest hr (by first | decide | omega) (takes_of rfl rfl rfl rfl) (pa_cons (pe_op (op_addK (K := K) rfl) (pe_op (op_mulK (K := K) rfl) (pe_ix (ix_K (K := K) rfl) (pv 0) pe_int (fun _ _ => rfl)) (pe_ix (ix_K (K := K) rfl) (pv 1) pe_int (fun _ _ => rfl))) (pe_op (op_mulK (K := K) rfl) (pe_ix (ix_K (K := K) rfl) (pv 1) pe_int (fun _ _ => rfl)) (pe_ix (ix_K (K := K) rfl) (pv 0) pe_int (fun _ _ => rfl)))) (pa_cons (pe_op (op_mulK (K := K) rfl) (pe_ix (ix_K (K := K) rfl) (pv 0) pe_int (fun _ _ => rfl)) (pe_ix (ix_K (K := K) rfl) (pv 1) pe_int (fun _ _ => rfl))) pa_nil))))), ?_⟩
    obtain ⟨p, q, x, y, m, n, rfl, hp, hq, sx, sy, hmn, kk⟩ := h
    walk_at "go"
    refine k_ixT hp (v := .int x.num) rfl ?_
    walk_at "go"
    refine k_ixT hq (v := .int (y.den : Int)) rfl ?_
    walk_at "go"
    refine k_mulB sx.1 sy.den (by omega) ?_
    walk_at "go"
    refine k_ixT hq (v := .int y.num) rfl ?_
    walk_at "go"
    refine k_ixT hp (v := .int (x.den : Int)) rfl ?_
    walk_at "go"
    refine k_mulB sy.1 sx.den (by omega) ?_
    walk_at "go"
    refine k_ixT hp (v := .int (x.den : Int)) rfl ?_
    walk_at "go"
    refine k_ixT hq (v := .int (y.den : Int)) rfl ?_
    walk_at "go"
    refine k_mulB sx.den sy.den (by omega) ?_
    walk_at "go"
    have hz : (x.den : Int) * (y.den : Int) ≠ 0 := Int.mul_ne_zero (Fr.den_ne x) (Fr.den_ne y)
    refine ⟨_, _, rfl, fun c => absurd c hz, fun _ => ⟨okd_den hz (Fr.dd_lt sx sy) hmn, fun r H' s1 hr => ?_⟩⟩
    rw [Fr.add_eq x y] at hr
    exact kk r H' s1 hr (sx.add sy)
end
end Lw
namespace Lw
open PySem PySem.Spec PyProof.Rows L2 Gx LamX NdefX
section
variable {P : Program} {w : World} {K : PySem.W.Frag} {mg : Str → Option Value} {base : Heap} {f : Addr} {fd : FuncData}
theorem ok_minus (F : FnP K "minus" "minus" s_minus f fd) (T : Txt K mg) (c_lowest : Cl P w K mg base 2 "lowest" ["a", "b"] (sp_lowest K)) : FnOk P w K mg base (L2.CX P w) 3 f fd ["x", "y"] (sp_minus K) := by
  refine F.ok sc_minus (fun vs H Q E h => ?_) (fun cdv A outer s H vs Q E hr h => ?_)
  · obtain ⟨p, q, x, y, m, n, rfl, _⟩ := h; rfl
  · refine ⟨_, (pss_one (ps_ret (pcall c_lowest hr (by first | decide | omega) (takes_of rfl rfl rfl rfl) (pa_cons (pe_op op_sub (pe_op (op_mulK (K := K) rfl) (pe_ix (ix_K (K := K) rfl) (pv 0) pe_int (fun _ _ => rfl)) (pe_ix (ix_K (K := K) rfl) (pv 1) pe_int (fun _ _ => rfl))) (pe_op (op_mulK (K := K) rfl) (pe_ix (ix_K (K := K) rfl) (pv 1) pe_int (fun _ _ => rfl)) (pe_ix (ix_K (K := K) rfl) (pv 0) pe_int (fun _ _ => rfl)))) (pa_cons (pe_op (op_mulK (K := K) rfl) (pe_ix (ix_K (K := K) rfl) (pv 0) pe_int (fun _ _ => rfl)) (pe_ix (ix_K (K := K) rfl) (pv 1) pe_int (fun _ _ => rfl))) pa_nil))))), ?_⟩
    obtain ⟨p, q, x, y, m, n, rfl, hp, hq, sx, sy, hmn, kk⟩ := h
    walk_at "go"
    refine k_ixT hp (v := .int x.num) rfl ?_
    walk_at "go"
    refine k_ixT hq (v := .int (y.den : Int)) rfl ?_
    walk_at "go"
    refine k_mulB sx.1 sy.den (by omega) ?_
    walk_at "go"
    refine k_ixT hq (v := .int y.num) rfl ?_
    walk_at "go"
    refine k_ixT hp (v := .int (x.den : Int)) rfl ?_
    walk_at "go"
    refine k_mulB sy.1 sx.den (by omega) ?_
    walk_at "go"
    refine k_ixT hp (v := .int (x.den : Int)) rfl ?_
    walk_at "go"
    refine k_ixT hq (v := .int (y.den : Int)) rfl ?_
    walk_at "go"
    refine k_mulB sx.den sy.den (by omega) ?_
    walk_at "go"
    have hz : (x.den : Int) * (y.den : Int) ≠ 0 := Int.mul_ne_zero (Fr.den_ne x) (Fr.den_ne y)
    refine ⟨_, _, rfl, fun c => absurd c hz, fun _ => ⟨okd_den hz (Fr.dd_lt sx sy) hmn, fun r H' s1 hr => ?_⟩⟩
    rw [Fr.sub_eq x y] at hr
    exact kk r H' s1 hr (sx.sub sy)
end
end Lw
namespace Lw
open PySem PySem.Spec PyProof.Rows L2 Gx LamX NdefX
section
variable {P : Program} {w : World} {K : PySem.W.Frag} {mg : Str → Option Value} {base : Heap} {f : Addr} {fd : FuncData}
theorem ok_times (F : FnP K "times" "times" s_times f fd) (T : Txt K mg) (c_lowest : Cl P w K mg base 2 "lowest" ["a", "b"] (sp_lowest K)) : FnOk P w K mg base (L2.CX P w) 3 f fd ["x", "y"] (sp_times K) := by
  refine F.ok sc_times (fun vs H Q E h => ?_) (fun cdv A outer s H vs Q E hr h => ?_)
  · obtain ⟨p, q, x, y, m, n, rfl, _⟩ := h; rfl
  · refine ⟨_, (pss_one (ps_ret (pcall c_lowest hr (by first | decide | omega) (takes_of rfl rfl rfl rfl) (pa_cons (pe_op (op_mulK (K := K) rfl) (pe_ix (ix_K (K := K) rfl) (pv 0) pe_int (fun _ _ => rfl)) (pe_ix (ix_K (K := K) rfl) (pv 1) pe_int (fun _ _ => rfl))) (pa_cons (pe_op (op_mulK (K := K) rfl) (pe_ix (ix_K (K := K) rfl) (pv 0) pe_int (fun _ _ => rfl)) (pe_ix (ix_K (K := K) rfl) (pv 1) pe_int (fun _ _ => rfl))) pa_nil))))), ?_⟩
    obtain ⟨p, q, x, y, m, n, rfl, hp, hq, sx, sy, hmn, kk⟩ := h
    walk_at "go"
    refine k_ixT hp (v := .int x.num) rfl ?_
    walk_at "go"
    refine k_ixT hq (v := .int y.num) rfl ?_
    walk_at "go"
    refine k_mulB sx.1 sy.1 (by omega) ?_
    walk_at "go"
    refine k_ixT hp (v := .int (x.den : Int)) rfl ?_
    walk_at "go"
    refine k_ixT hq (v := .int (y.den : Int)) rfl ?_
    walk_at "go"
    refine k_mulB sx.den sy.den (by omega) ?_
    walk_at "go"
    have hz : (x.den : Int) * (y.den : Int) ≠ 0 := Int.mul_ne_zero (Fr.den_ne x) (Fr.den_ne y)
    have okd : Okd (x.num * y.num) ((x.den : Int) * (y.den : Int)) := hmn.elim (okd_den hz (Fr.dd_lt sx sy)) fun h => okd_mul h.2.1 sy h.2.2
    refine ⟨_, _, rfl, fun c => absurd c hz, fun _ => ⟨okd, fun r H' s1 hr => ?_⟩⟩
    rw [Fr.mul_eq x y] at hr
    exact kk r H' s1 hr (sx.mul sy)
end
end Lw
namespace Lw
open PySem PySem.Spec PyProof.Rows L2 Gx LamX NdefX
section
variable {P : Program} {w : World} {K : PySem.W.Frag} {mg : Str → Option Value} {base : Heap} {f : Addr} {fd : FuncData}
theorem ok_over (F : FnP K "over" "over" s_over f fd) (T : Txt K mg) (c_lowest : Cl P w K mg base 2 "lowest" ["a", "b"] (sp_lowest K)) : FnOk P w K mg base (L2.CX P w) 3 f fd ["x", "y"] (sp_over K) := by
  refine F.ok sc_over (fun vs H Q E h => ?_) (fun cdv A outer s H vs Q E hr h => ?_)
  · obtain ⟨p, q, x, y, m, n, rfl, _⟩ := h; rfl
  · refine ⟨_, (pss_one (ps_ret (pcall c_lowest hr (by first | decide | omega) (takes_of rfl rfl rfl rfl) (pa_cons (pe_op (op_mulK (K := K) rfl) (pe_ix (ix_K (K := K) rfl) (pv 0) pe_int (fun _ _ => rfl)) (pe_ix (ix_K (K := K) rfl) (pv 1) pe_int (fun _ _ => rfl))) (pa_cons (pe_op (op_mulK (K := K) rfl) (pe_ix (ix_K (K := K) rfl) (pv 0) pe_int (fun _ _ => rfl)) (pe_ix (ix_K (K := K) rfl) (pv 1) pe_int (fun _ _ => rfl))) pa_nil))))), ?_⟩
    obtain ⟨p, q, x, y, m, n, rfl, hp, hq, sx, sy, hmn, k0, kk⟩ := h
    walk_at "go"
    refine k_ixT hp (v := .int x.num) rfl ?_
    walk_at "go"
    refine k_ixT hq (v := .int (y.den : Int)) rfl ?_
    walk_at "go"
    refine k_mulB sx.1 sy.den (by omega) ?_
    walk_at "go"
    refine k_ixT hp (v := .int (x.den : Int)) rfl ?_
    walk_at "go"
    refine k_ixT hq (v := .int y.num) rfl ?_
    walk_at "go"
    refine k_mulB sx.den sy.1 (by omega) ?_
    walk_at "go"
    refine ⟨_, _, rfl, fun c => ?_, fun c => ?_⟩
    · refine k0 ?_
      rcases Int.mul_eq_zero.mp c with c | c
      · exact absurd c (Fr.den_ne x)
      · exact Rat.num_eq_zero.mp c
    · have hy : y ≠ 0 := fun z => c (by rw [z]; simp)
      refine ⟨okd_den c (Fr.mul_lt sx.den sy.1) hmn, fun r H' s1 hr => ?_⟩
      rw [Fr.div_eq x y] at hr
      exact kk hy r H' s1 hr (sx.div sy)
end
end Lw
namespace Lw
open PySem PySem.Spec PyProof.Rows L2 Gx LamX NdefX
section
variable {P : Program} {w : World} {K : PySem.W.Frag} {mg : Str → Option Value} {base : Heap} {f : Addr} {fd : FuncData}
theorem ok_below (F : FnP K "below" "below" s_below f fd) (T : Txt K mg) : FnOk P w K mg base (L2.CX P w) 1 f fd ["x", "y"] (sp_below K) := by
  refine F.ok sc_below (fun vs H Q E h => ?_) (fun cdv A outer s H vs Q E hr h => ?_)
  · obtain ⟨p, q, x, y, m, n, rfl, _⟩ := h; rfl
  · refine ⟨_, (pss_one (ps_ret (pe_cmpR op_lt (pe_op (op_mulK (K := K) rfl) (pe_ix (ix_K (K := K) rfl) (pv 0) pe_int (fun _ _ => rfl)) (pe_ix (ix_K (K := K) rfl) (pv 1) pe_int (fun _ _ => rfl))) (pe_op (op_mulK (K := K) rfl) (pe_ix (ix_K (K := K) rfl) (pv 1) pe_int (fun _ _ => rfl)) (pe_ix (ix_K (K := K) rfl) (pv 0) pe_int (fun _ _ => rfl))) (nomark _)))), ?_⟩
    obtain ⟨p, q, x, y, m, n, rfl, hp, hq, sx, sy, hmn, kk⟩ := h
    walk_at "go"
    refine k_ixT hp (v := .int x.num) rfl ?_
    walk_at "go"
    refine k_ixT hq (v := .int (y.den : Int)) rfl ?_
    walk_at "go"
    refine k_mulB sx.1 sy.den (by omega) ?_
    walk_at "go"
    refine k_ixT hq (v := .int y.num) rfl ?_
    walk_at "go"
    refine k_ixT hp (v := .int (x.den : Int)) rfl ?_
    walk_at "go"
    refine k_mulB sy.1 sx.den (by omega) ?_
    walk_at "go"
    have e : decide (x.num * (y.den : Int) < y.num * (x.den : Int)) = decide (x < y) := by
      by_cases c : x < y
      · rw [decide_eq_true c, decide_eq_true ((Rat.lt_iff x y).mp c)]
      · rw [decide_eq_false c, decide_eq_false (fun z => c ((Rat.lt_iff x y).mpr z))]
    rw [e]
    exact kk
end
end Lw
namespace Lw
open PySem PySem.Spec PyProof.Rows L2 Gx LamX NdefX
section
variable {P : Program} {w : World} {K : PySem.W.Frag} {mg : Str → Option Value} {base : Heap} {f : Addr} {fd : FuncData}
theorem ok_is_fraction (F : FnP K "is_fraction" "is_fraction" s_is_fraction f fd) (T : Txt K mg) (c_in_common : Cl P w K mg base 1 "in_common" ["a", "b"] (sp_in_common K)) (c_is_whole : Cl P w K mg base 1 "is_whole" ["thing"] (sp_is_whole K)) : FnOk P w K mg base (L2.CX P w) 2 f fd ["thing"] (sp_is_fraction K) := by
  refine F.ok sc_is_fraction (fun vs H Q E h => ?_) (fun cdv A outer s H vs Q E hr h => ?_)
  · obtain ⟨x, b, rfl, _⟩ := h; rfl
  · refine ⟨_, (pss_cons (ps_if (PW.pt (pw_or (pt_not (pt_val (pe_callB (callK (K := K) (r := rIsi) rfl call_isi) (by rfl) T.n_isinstance (by decide +kernel) (pa_cons (pv 0) (pa_cons (pe_bltn (v := .ty "tuple") (by rfl) T.n_tuple (by decide +kernel) rfl) pa_nil))))) (pw_or (pt_cmpR (op_neK (K := K) rfl hr) (pe_callB (callK (K := K) (r := rLenU) rfl call_lenU) (by rfl) T.n_len (by decide +kernel) (pa_cons (pv 0) pa_nil)) pe_int (nomark _)) (pw_or (pt_not (pt_val (pcall c_is_whole hr (by first | decide | omega) (takes_of rfl rfl rfl rfl) (pa_cons (pe_ix (ix_K (K := K) rfl) (pv 0) pe_int (fun _ _ => rfl)) pa_nil)))) (pw_or1 (pt_not (pt_val (pcall c_is_whole hr (by first | decide | omega) (takes_of rfl rfl rfl rfl) (pa_cons (pe_ix (ix_K (K := K) rfl) (pv 0) pe_int (fun _ _ => rfl)) pa_nil))))))))) (pss_one (ps_ret pe_bl)) pss_nil) (pss_one (ps_ret (pe_and (pe_cmpR op_gt (pe_ix (ix_K (K := K) rfl) (pv 0) pe_int (fun _ _ => rfl)) pe_int (nomark _)) (pe_one (pe_cmpR (op_eqK (K := K) rfl hr) (pcall c_in_common hr (by first | decide | omega) (takes_of rfl rfl rfl rfl) (pa_cons (pe_ix (ix_K (K := K) rfl) (pv 0) pe_int (fun _ _ => rfl)) (pa_cons (pe_ix (ix_K (K := K) rfl) (pv 0) pe_int (fun _ _ => rfl)) pa_nil))) pe_int (nomark _))))))), ?_⟩
    obtain ⟨x, b, rfl, hx, k⟩ := h
    walk_at "go"
    cases hx with
    | kind ht hk =>
      refine k_isi (.ty "tuple") ht hk ?_
      walk_at "go"
      exact k
    | @len p xs h hl =>
      refine k_isi (.ty "tuple") (ty_tup h) (kit_ty (r := true) (by decide +kernel)) ?_
      walk_at "go"
      refine k_lenT ?_ h
      walk_at "go"
      refine k_ifn (fun c => ?_) (fun c => absurd (by omega) hl)
      walk_at "go"
      exact k
    | @parts p u v bu bv h hu hv hb =>
      refine k_isi (.ty "tuple") (ty_tup h) (kit_ty (r := true) (by decide +kernel)) ?_
      walk_at "go"
      refine k_lenT ?_ h
      walk_at "go"
      refine k_ifn (fun c => absurd rfl c) (fun c => ?_)
      walk_at "go"
      obtain ⟨tu, u1, u2, hu, hu1, hu2, rfl⟩ := hu
      obtain ⟨tv, v1, v2, hv, hv1, hv2, rfl⟩ := hv
      refine k_ixT h (v := u) rfl ?_
      walk_at "go"
      refine ⟨u, tu, u1, u2, rfl, hu, hu1, hu2, ?_⟩
      walk_at "go"
      refine k_ifnb (fun cu => ?_) (fun cu => ?_)
      · walk_at "go"
        exact k
      · walk_at "go"
        refine k_ixT h (v := v) rfl ?_
        walk_at "go"
        refine ⟨v, tv, v1, v2, rfl, hv, hv1, hv2, ?_⟩
        rw [cu, Bool.true_and] at hb
        rw [hb]
        walk_at "go"
        exact k
    | @whole p c d h =>
      refine k_isi (.ty "tuple") (ty_tup h) (kit_ty (r := true) (by decide +kernel)) ?_
      walk_at "go"
      refine k_lenT ?_ h
      walk_at "go"
      refine k_ifn (fun c9 => absurd rfl c9) (fun c9 => ?_)
      walk_at "go"
      refine k_ixT h (v := .int c) rfl ?_
      walk_at "go"
      refine isw_int ?_
      walk_at "go"
      refine k_ixT h (v := .int d) rfl ?_
      walk_at "go"
      refine isw_int ?_
      walk_at "go"
      refine k_ixT h (v := .int d) rfl ?_
      walk_at "go"
      refine k_if (fun c1 => ?_) (fun c1 => ?_)
      · walk_at "go"
        refine k_ixT h (v := .int c) rfl ?_
        walk_at "go"
        refine k_ixT h (v := .int d) rfl ?_
        walk_at "go"
        refine ⟨c, d, rfl, ?_⟩
        walk_at "go"
        rw [decide_eq_true (show 0 < d by omega), Bool.true_and] at k
        have e : decide ((Int.gcd c d : Int) = 1) = decide (Int.gcd c d = 1) := by
          by_cases z : Int.gcd c d = 1
          · rw [decide_eq_true z, decide_eq_true (by omega)]
          · rw [decide_eq_false z, decide_eq_false (by omega)]
        rw [e]
        exact k
      · walk_at "go"
        rw [decide_eq_false (show ¬ 0 < d by omega), Bool.false_and] at k
        exact k
end
end Lw
namespace Lw
open PySem PySem.Spec PyProof.Rows L2 Gx LamX NdefX
section
variable {P : Program} {w : World} {K : PySem.W.Frag} {mg : Str → Option Value} {base : Heap} {f : Addr} {fd : FuncData}
theorem ok_Game___init__ (F : FnP K "__init__" "Game.__init__" s_Game___init__ f fd) (T : Txt K mg) : FnOk P w K mg base (L2.CX P w) 1 f fd ["self", "many", "again", "top", "rule"] (sp_Game___init__ K) := by
  refine F.ok sc_Game___init__ (fun vs H Q E h => ?_) (fun cdv A outer s H vs Q E hr h => ?_)
  · obtain ⟨a, dx, t, r, n, ag, top, R, rfl, _⟩ := h; rfl
  · refine ⟨_, (pss_cons (ps_fld (pv 0) (pv 1) rfl) (pss_cons (ps_fld (pv 0) (pv 2) rfl) (pss_cons (ps_fld (pv 0) (pv 3) rfl) (pss_cons (ps_fld (pv 0) (pv 4) rfl) (pss_cons (ps_fld (pv 0) (pe_lst pa_nil) rfl) (pss_cons (ps_fld (pv 0) (C8.pe_gc (by rfl) T.c_NOUGHT_games) rfl) (pss_cons (ps_fld (pv 0) (C8.pe_gc (by rfl) T.c_ONE_games) rfl) (pss_cons (ps_fld (pv 0) (C8.pe_gc (by rfl) T.c_ONE_games) rfl) (pss_one (ps_fld (pv 0) pe_bl rfl)))))))))), ?_⟩
    obtain ⟨a, dx, t, r, n, ag, top, R, rfl, h0, ht, ne, kk⟩ := h
    walk_at "go"
    refine k_sfldx h0 T.cl_Game T.f_Game_many (fun H1 b1 h1 => ?_) (by simp)
    replace h1 : H1 a = some (.ins (He.ga K "Game") dx [("many", .int (n : Int))]) := by rw [h1]; walk_at "pf"
    walk_at "go"
    refine k_sfldx h1 T.cl_Game T.f_Game_again (fun H2 b2 h2 => ?_) (by simp)
    replace h2 : H2 a = some (.ins (He.ga K "Game") dx [("many", .int (n : Int)), ("again", .bl ag)]) := by rw [h2]; walk_at "pf"
    walk_at "go"
    refine k_sfldx h2 T.cl_Game T.f_Game_highest (fun H3 b3 h3 => ?_) (by simp)
    replace h3 : H3 a = some (.ins (He.ga K "Game") dx [("many", .int (n : Int)), ("again", .bl ag), ("highest", .ref t)]) := by rw [h3]; walk_at "pf"
    walk_at "go"
    refine k_sfldx h3 T.cl_Game T.f_Game_rule (fun H4 b4 h4 => ?_) (by simp)
    replace h4 : H4 a = some (.ins (He.ga K "Game") dx [("many", .int (n : Int)), ("again", .bl ag), ("highest", .ref t), ("rule", .ref r)]) := by rw [h4]; walk_at "pf"
    walk_at "go"
    refine k_lstx (fun l H5 nl s5 hl => ?_) (by simp)
    have h5 := s5 _ _ h4
    have nla : l ≠ a := fun e => by subst e; rw [h4] at nl; cases nl
    walk_at "go"
    refine k_sfldx h5 T.cl_Game T.f_Game_drawn_values (fun H6 b6 h6 => ?_) (by simp)
    replace h6 : H6 a = some (.ins (He.ga K "Game") dx [("many", .int (n : Int)), ("again", .bl ag), ("highest", .ref t), ("rule", .ref r), ("drawn_values", .ref l)]) := by rw [h6]; walk_at "pf"
    have hl6 := b6 _ _ nla hl
    walk_at "go"
    refine k_sfldx h6 T.cl_Game T.f_Game_sum_so_far (fun H7 b7 h7 => ?_) (by simp)
    replace h7 : H7 a = some (.ins (He.ga K "Game") dx [("many", .int (n : Int)), ("again", .bl ag), ("highest", .ref t), ("rule", .ref r), ("drawn_values", .ref l), ("sum_so_far", .ref (He.ga K "NOUGHT_games"))]) := by rw [h7]; walk_at "pf"
    walk_at "go"
    refine k_sfldx h7 T.cl_Game T.f_Game_now (fun H8 b8 h8 => ?_) (by simp)
    replace h8 : H8 a = some (.ins (He.ga K "Game") dx [("many", .int (n : Int)), ("again", .bl ag), ("highest", .ref t), ("rule", .ref r), ("drawn_values", .ref l), ("sum_so_far", .ref (He.ga K "NOUGHT_games")), ("now", .ref (He.ga K "ONE_games"))]) := by rw [h8]; walk_at "pf"
    walk_at "go"
    refine k_sfldx h8 T.cl_Game T.f_Game_most (fun H9 b9 h9 => ?_) (by simp)
    replace h9 : H9 a = some (.ins (He.ga K "Game") dx [("many", .int (n : Int)), ("again", .bl ag), ("highest", .ref t), ("rule", .ref r), ("drawn_values", .ref l), ("sum_so_far", .ref (He.ga K "NOUGHT_games")), ("now", .ref (He.ga K "ONE_games")), ("most", .ref (He.ga K "ONE_games"))]) := by rw [h9]; walk_at "pf"
    walk_at "go"
    refine k_sfldx h9 T.cl_Game T.f_Game_certain (fun G b10 h10 => ?_) (by simp)
    replace h10 : G a = some (.ins (He.ga K "Game") dx [("many", .int (n : Int)), ("again", .bl ag), ("highest", .ref t), ("rule", .ref r), ("drawn_values", .ref l), ("sum_so_far", .ref (He.ga K "NOUGHT_games")), ("now", .ref (He.ga K "ONE_games")), ("most", .ref (He.ga K "ONE_games")), ("certain", .bl false)]) := by rw [h10]; walk_at "pf"
    walk_at "go"
    have b : But a H G := b1.trans (b2.trans (b3.trans (b4.trans ((But.of s5).trans (b6.trans (b7.trans (b8.trans (b9.trans b10))))))))
    have im : Imm H G := imm_butI b h0
    have e0 : SqT K G (He.ga K "NOUGHT_games") (Fr.fq 0) := by rw [Cm.fq0]; exact T.t_NOUGHT_games G
    have e1 : SqT K G (He.ga K "ONE_games") (Fr.fq 1) := by rw [Cm.fq1]; exact T.t_ONE_games G
    refine kk l G b ?_ fun G' sG hr => ⟨dx, t, r, _, _, _, [], sG _ _ h10, seqT_same sG (seqT_imm im ht), hr, sG _ _ ((b7.trans (b8.trans (b9.trans b10))) _ _ nla hl6), .nil, seqT_same sG e0, ⟨_, rfl, seqT_same sG e1⟩, seqT_same sG e1⟩
    have q := ((b1.trans (b2.trans (b3.trans b4))) : But a H H4)
    cases e : H l with
    | none => rfl
    | some o => rw [q _ _ nla e] at nl; cases nl
end
end Lw
namespace Lw
open PySem PySem.Spec PyProof.Rows L2 Gx LamX NdefX
section
variable {P : Program} {w : World} {K : PySem.W.Frag} {mg : Str → Option Value} {base : Heap} {f : Addr} {fd : FuncData}
theorem ok_Game_ended (F : FnP K "ended" "Game.ended" s_Game_ended f fd) (T : Txt K mg) : FnOk P w K mg base (L2.CX P w) 1 f fd ["self"] (sp_Game_ended K) := by
  refine F.ok sc_Game_ended (fun vs H Q E h => ?_) (fun cdv A outer s H vs Q E hr h => ?_)
  · obtain ⟨a, l, g, rfl, _⟩ := h; rfl
  · refine ⟨_, (pss_one (ps_ret (pe_and (pe_not (pe_fldK (K := K) rfl (pv 0) rfl)) (pe_one (pe_cmpR (op_eqK (K := K) rfl hr) (pe_callB (callK (K := K) (r := rLenU) rfl call_lenU) (by rfl) T.n_len (by decide +kernel) (pa_cons (pe_fldK (K := K) rfl (pv 0) rfl) pa_nil)) (pe_fldK (K := K) rfl (pv 0) rfl) (nomark _)))))), ?_⟩
    obtain ⟨a, l, g, rfl, ⟨dx, t, r, s, now, m, vs, G⟩, kk⟩ := h
    have hvl := G.vals.len
    walk_at "go"
    refine k_fldx G.ins T.cl_Game T.f_Game_again (by walk_at "lk") ?_
    walk_at "go"
    have ee : Gm.ended g = (!g.ag && decide (g.vals.length = g.n)) := rfl
    cases ha : g.ag with
    | true =>
      rw [ha] at ee
      walk_at "go"
      rw [ee] at kk
      exact kk
    | false =>
      rw [ha] at ee
      walk_at "go"
      refine k_fldx G.ins T.cl_Game T.f_Game_drawn_values (by walk_at "lk") ?_
      walk_at "go"
      refine k_lenL ?_ (SqL.of G.lst)
      walk_at "go"
      refine k_fldx G.ins T.cl_Game T.f_Game_many (by walk_at "lk") ?_
      walk_at "go"
      rw [hvl]
      rw [ee] at kk
      have e2 : decide ((g.vals.length : Int) = (g.n : Int)) = decide (g.vals.length = g.n) := by
        by_cases c : g.vals.length = g.n
        · rw [decide_eq_true c, decide_eq_true (by omega)]
        · rw [decide_eq_false c, decide_eq_false (by omega)]
      rw [e2]
      exact kk
end
end Lw
namespace Lw
open PySem PySem.Spec PyProof.Rows L2 Gx LamX NdefX
section
variable {P : Program} {w : World} {K : PySem.W.Frag} {mg : Str → Option Value} {base : Heap} {f : Addr} {fd : FuncData}
theorem ok_Game_price (F : FnP K "price" "Game.price" s_Game_price f fd) (T : Txt K mg) (c_over : Cl P w K mg base 3 "over" ["x", "y"] (sp_over K)) (c_minus : Cl P w K mg base 3 "minus" ["x", "y"] (sp_minus K)) (c_lowest : Cl P w K mg base 2 "lowest" ["a", "b"] (sp_lowest K)) (m_Game_ended : MCl P w K mg base 1 "Game" "ended" ["self"] (sp_Game_ended K)) : FnOk P w K mg base (L2.CX P w) 4 f fd ["self"] (sp_Game_price K) := by
  refine F.ok sc_Game_price (fun vs H Q E h => ?_) (fun cdv A outer s H vs Q E hr h => ?_)
  · obtain ⟨a, l, g, c, rfl, _⟩ := h; rfl
  · refine ⟨_, (pss_cons (ps_if (PW.pt (pw_or (pt_val (pe_fldK (K := K) rfl (pv 0) rfl)) (pw_or1 (pt_val (pmeth0 rfl m_Game_ended hr (by first | decide | omega) (takes_of rfl rfl rfl rfl) (pv 0)))))) (pss_one (ps_ret pe_non)) pss_nil) (pss_cons (ps_if (pt_val (pe_fldK (K := K) rfl (pv 0) rfl)) (pss_one (ps_ret (pe_tup (pa_cons pe_int (pa_cons pe_int pa_nil))))) pss_nil) (pss_one (ps_ret (pcall c_over hr (by first | decide | omega) (takes_of rfl rfl rfl rfl) (pa_cons (pcall c_minus hr (by first | decide | omega) (takes_of rfl rfl rfl rfl) (pa_cons (pcall c_lowest hr (by first | decide | omega) (takes_of rfl rfl rfl rfl) (pa_cons (pe_fldK (K := K) rfl (pv 0) rfl) (pa_cons pe_int pa_nil))) (pa_cons (pe_fldK (K := K) rfl (pv 0) rfl) pa_nil))) (pa_cons (pe_tup (pa_cons (pe_op op_sub (pe_fldK (K := K) rfl (pv 0) rfl) (pe_callB (callK (K := K) (r := rLenU) rfl call_lenU) (by rfl) T.n_len (by decide +kernel) (pa_cons (pe_fldK (K := K) rfl (pv 0) rfl) pa_nil))) (pa_cons pe_int pa_nil))) pa_nil))))))), ?_⟩
    obtain ⟨a, l, g, c, rfl, gat, sc, hc, n60, hn, kk⟩ := h
    have gat' := gat
    obtain ⟨dx, t, r, s, now, m, vs, G⟩ := gat'
    have hvl := G.vals.len
    walk_at "go"
    refine k_fldx G.ins T.cl_Game T.f_Game_certain (by walk_at "lk") ?_
    walk_at "go"
    refine k_ifb (fun e => ?_) (fun e => ?_)
    · walk_at "go"
      refine kk .non H (Same.refl H) ?_
      unfold Gm.priceO
      rw [e]
      rfl
    walk_at "go"
    refine k_methx G.ins (by walk_at "lz") ?_
    walk_at "go"
    refine ⟨a, l, g, rfl, gat, ?_⟩
    walk_at "go"
    refine k_ifb (fun e2 => ?_) (fun e2 => ?_)
    · walk_at "go"
      refine kk .non H (Same.refl H) ?_
      unfold Gm.priceO
      rw [e, e2]
      rfl
    have ep : Gm.priceO g = some (Gm.price g) := by
      unfold Gm.priceO
      rw [e, e2]
      rfl
    walk_at "go"
    refine k_fldx G.ins T.cl_Game T.f_Game_again (by walk_at "lk") ?_
    walk_at "go"
    refine k_ifb (fun e3 => ?_) (fun e3 => ?_)
    · walk_at "go"
      refine k_tupx (fun p H1 n1 s1 hp => ?_) (by simp [sizeLine_eq])
      refine kk (.ref p) H1 s1 ?_
      rw [ep]
      refine ⟨p, rfl, ?_⟩
      rw [show Gm.price g = 1/2 from if_pos e3, Cm.fqh]
      exact SqT.of hp
    have lt : g.vals.length < g.n := by
      have h1 := hn e3
      have h2 : g.vals.length ≠ g.n := fun z => by
        unfold Gm.ended at e2
        rw [e3, decide_eq_true z] at e2
        cases e2
      omega
    walk_at "go"
    refine k_fldx G.ins T.cl_Game T.f_Game_many (by walk_at "lk") ?_
    walk_at "go"
    refine ⟨(g.n : Int), 2, rfl, fun z => absurd z (by decide), fun _ => ⟨okd_den (n := 2) (by decide) (by decide) (by decide), fun p1 H1 s1 h1 => ?_⟩⟩
    have e5 : Rat.divInt (g.n : Int) 2 = (g.n : Rat) / 2 := by rw [Rat.divInt_eq_div]; rfl
    have z1 : Fr.Sz 6 ((g.n : Rat) / 2) := by rw [← e5]; exact Fr.sz_divInt (by decide) (by show _ < 64; omega) (by decide)
    rw [e5] at h1
    walk_at "go"
    refine k_fldx (s1 _ _ G.ins) T.cl_Game T.f_Game_sum_so_far (by walk_at "lk") ?_
    walk_at "go"
    refine ⟨p1, s, _, _, 6, c, rfl, h1, seqT_same s1 G.sum, z1, sc, by omega, fun p2 H2 s2 h2 z2 => ?_⟩
    walk_at "go"
    have s02 := s1.trans s2
    refine k_fldx (s02 _ _ G.ins) T.cl_Game T.f_Game_many (by walk_at "lk") ?_
    walk_at "go"
    refine k_fldx (s02 _ _ G.ins) T.cl_Game T.f_Game_drawn_values (by walk_at "lk") ?_
    walk_at "go"
    refine k_lenL ?_ (SqL.of (s02 _ _ G.lst))
    rw [hvl]
    walk_at "go"
    refine k_tupx (fun p3 H3 n3 s3 h3 => ?_) (by simp [sizeLine_eq])
    have ed : ((g.n : Int) - ((g.vals.length : Nat) : Int)) = ((g.n - g.vals.length : Nat) : Int) := by omega
    rw [ed] at h3
    have h3' : SqT K H3 p3 (Fr.fq ((g.n - g.vals.length : Nat) : Rat)) := by rw [Ru.fqn]; exact SqT.of h3
    refine ⟨p2, p3, _, _, _, 7, rfl, seqT_same s3 h2, h3', z2, Ru.szn (by omega) (by decide), by omega, fun z => absurd z (Ru.n_ne (by omega)), fun _ p4 H4 s4 h4 z4 => ?_⟩
    refine kk (.ref p4) H4 (s02.trans (s3.trans s4)) ?_
    rw [ep]
    refine ⟨p4, rfl, ?_⟩
    rw [show Gm.price g = _ from if_neg (by rw [e3]; decide)]
    exact h4
end
end Lw
namespace Lw
open PySem PySem.Spec PyProof.Rows L2 Gx LamX NdefX
section
variable {P : Program} {w : World} {K : PySem.W.Frag} {mg : Str → Option Value} {base : Heap} {f : Addr} {fd : FuncData}
theorem ok_Game_worth_behind (F : FnP K "worth_behind" "Game.worth_behind" s_Game_worth_behind f fd) (T : Txt K mg) (c_times : Cl P w K mg base 3 "times" ["x", "y"] (sp_times K)) (c_plus : Cl P w K mg base 3 "plus" ["x", "y"] (sp_plus K)) (c_minus : Cl P w K mg base 3 "minus" ["x", "y"] (sp_minus K)) (c_over : Cl P w K mg base 3 "over" ["x", "y"] (sp_over K)) (m_Asked_stake : MCl P w K mg base 3 "Asked" "stake" ["self", "past", "price", "top"] (sp_Asked_stake K)) (m_Game_price : MCl P w K mg base 4 "Game" "price" ["self"] (sp_Game_price K)) : FnOk P w K mg base (L2.CX P w) 5 f fd ["self", "value"] (sp_Game_worth_behind K) := by
  refine F.ok sc_Game_worth_behind (fun vs H Q E h => ?_) (fun cdv A outer s H vs Q E hr h => ?_)
  · obtain ⟨a, l, p, g, v, φ, b, c, t, z, rfl, _⟩ := h; rfl
  · refine ⟨_, (pss_cons (ps_set (i := 2) sc_Game_worth_behind.nd rfl (Or.inl rfl) (pmeth0 rfl m_Game_price hr (by first | decide | omega) (takes_of rfl rfl rfl rfl) (pv 0))) (pss_cons (ps_set (i := 3) sc_Game_worth_behind.nd rfl (Or.inl rfl) (pmeth rfl m_Asked_stake hr (by first | decide | omega) (takes_of rfl rfl rfl rfl) (pe_fldK (K := K) rfl (pv 0) rfl) (pa_cons (pe_callTy (callK (K := K) (r := rTupV) rfl call_tupV) (by rfl) T.n_tuple (by decide +kernel) (pa_cons (pe_fldK (K := K) rfl (pv 0) rfl) pa_nil)) (pa_cons (pv 2) (pa_cons (pe_fldK (K := K) rfl (pv 0) rfl) pa_nil))))) (pss_cons (ps_if (pt_cmpR (op_eqK (K := K) rfl hr) (pv 2) (C8.pe_gc (by rfl) T.c_NOUGHT_games) (nomark _)) (pss_one (ps_ret (pe_fldK (K := K) rfl (pv 0) rfl))) pss_nil) (pss_cons (ps_set (i := 4) sc_Game_worth_behind.nd rfl (Or.inl rfl) (pcall c_over hr (by first | decide | omega) (takes_of rfl rfl rfl rfl) (pa_cons (pcall c_times hr (by first | decide | omega) (takes_of rfl rfl rfl rfl) (pa_cons (pv 3) (pa_cons (pv 1) pa_nil))) (pa_cons (pv 2) pa_nil)))) (pss_one (ps_ret (pcall c_times hr (by first | decide | omega) (takes_of rfl rfl rfl rfl) (pa_cons (pe_fldK (K := K) rfl (pv 0) rfl) (pa_cons (pcall c_plus hr (by first | decide | omega) (takes_of rfl rfl rfl rfl) (pa_cons (pcall c_minus hr (by first | decide | omega) (takes_of rfl rfl rfl rfl) (pa_cons (C8.pe_gc (by rfl) T.c_ONE_games) (pa_cons (pv 3) pa_nil))) (pa_cons (pv 4) pa_nil))) pa_nil))))))))), ?_⟩
    obtain ⟨a, l, p, g, v, φ, b, c, tt, z, rfl, gat, hp, fit, nc, eR, nn, ke, kk'⟩ := h
    have gat' := gat
    obtain ⟨dx, t, r, s, now, m, vs, G⟩ := gat'
    have hvl := G.vals.len
    obtain ⟨pm, pa, pw, zm, za, zn, _, zb, bm, ba, bw, room⟩ := fit.live nc
    have ep : Gm.priceO g = some (Gm.price g) := by
      unfold Gm.priceO
      rw [nc, fit.open_]
      rfl
    walk_at "go"
    refine k_methx G.ins (by walk_at "lz") ?_
    walk_at "go"
    refine ⟨a, l, g, c, rfl, gat, fit.sum, fit.bc, fit.n, fit.few, fun pv H1 s1 hpv => ?_⟩
    rw [ep] at hpv
    obtain ⟨pp, rfl, hpp⟩ := hpv
    walk_at "go"
    have hrule := G.rule.same s1
    rw [eR] at hrule
    obtain ⟨dr, f, hra, htl⟩ := hrule
    refine k_fldx (s1 _ _ G.ins) T.cl_Game T.f_Game_rule (by walk_at "lk") ?_
    walk_at "go"
    refine k_methx hra (by walk_at "lz") ?_
    walk_at "go"
    refine k_fldx (s1 _ _ G.ins) T.cl_Game T.f_Game_drawn_values (by walk_at "lk") ?_
    walk_at "go"
    refine k_tupL (SqL.of (s1 _ _ G.lst)) (fun ta G1 n1 g1 hta => ?_)
    walk_at "go"
    refine k_fldx (g1 _ _ (s1 _ _ G.ins)) T.cl_Game T.f_Game_highest (by walk_at "lk") ?_
    walk_at "go"
    have okφ := fit.ok
    rw [eR] at okφ
    obtain ⟨o0, o1, oz⟩ := okφ g.vals
    have fbz := fit.bz
    have flen := fit.len
    refine ⟨r, dr, f, ta, _, _, φ, vs, g.vals, z, rfl, g1 _ _ hra, htl.mono (imm_same g1), SqT.of hta, (G.vals.same s1).same g1, nn, by omega, oz, by omega, o0, o1, fun no d H2 s2 hd => ke no d H2 (s1.trans (g1.trans s2)) hd, fun yes st H2 s2 hst => ?_⟩
    have kk := kk' yes
    replace s2 := g1.trans s2
    have es : φ g.vals = Gm.stake g := by unfold Gm.stake; rw [eR]; rfl
    rw [es] at hst
    have s02 := s1.trans s2
    have hpp2 := seqT_same s2 hpp
    walk_at "go"
    refine k_eqD (Fr.dp_fq hpp2) (Fr.dp_fq (q := 0) (by rw [Cm.fq0]; exact T.t_NOUGHT_games H2)) ?_ (Fr.shaped_fq _) (Fr.shaped_fq _)
    rw [Fr.eqv_fq]
    walk_at "go"
    refine k_if (fun e => ?_) (fun ne => ?_)
    · walk_at "go"
      refine k_fldx (s02 _ _ G.ins) T.cl_Game T.f_Game_now (by walk_at "lk") ?_
      have n := G.now_
      rw [if_neg (by rw [nc]; decide)] at n
      obtain ⟨pn, rfl, hn⟩ := n
      refine kk pn H2 s02 ?_
      rw [show Gm.behind g v = g.now from if_pos e]
      exact seqT_same s02 hn
    walk_at "go"
    refine ⟨st, p, _, _, pa, b, rfl, hst, seqT_same s02 hp, za, fit.vz, by have := fit.bb; clear room; omega, fun q1 H3 s3 h3 z3 => ?_⟩
    walk_at "go"
    refine ⟨q1, pp, _, _, _, pm, rfl, h3, seqT_same s3 hpp2, z3, zm, by have := fit.bb; clear room; omega, fun e => absurd e ne, fun _ q2 H4 s4 h4 z4 => ?_⟩
    walk_at "go"
    have s04 := s02.trans (s3.trans s4)
    refine k_fldx (s04 _ _ G.ins) T.cl_Game T.f_Game_now (by walk_at "lk") ?_
    have n := G.now_
    rw [if_neg (by rw [nc]; decide)] at n
    obtain ⟨pn, rfl, hn⟩ := n
    walk_at "go"
    refine ⟨_, st, 1, _, 1, pa, rfl, by rw [Cm.fq1]; exact T.t_ONE_games H4, seqT_same (s3.trans s4) hst, Ru.sz1 (by decide), za, by omega, fun q3 H5 s5 h5 z5 => ?_⟩
    walk_at "go"
    refine ⟨q3, q2, _, _, _, _, rfl, h5, seqT_same s5 h4, z5, z4, by omega, fun q4 H6 s6 h6 z6 => ?_⟩
    have s06 := s04.trans (s5.trans s6)
    have ge : Gm.grow (Gm.stake g) v (Gm.price g) = 1 - Gm.stake g + Gm.stake g * v / Gm.price g := rfl
    refine ⟨pn, q4, _, _, pw, _, rfl, seqT_same s06 hn, h6, zn, z6, room.elim (fun h => .inl (by omega)) (fun h => .inr ⟨by have := h.2; omega, by rw [← ge]; exact h.1 ne, by have := h.2; omega⟩), fun q5 H7 s7 h7 z7 => ?_⟩
    refine kk q5 H7 (s06.trans s7) ?_
    rw [show Gm.behind g v = _ from if_neg ne]
    exact h7
end
end Lw
namespace Lw
open PySem PySem.Spec PyProof.Rows L2 Gx LamX NdefX
section
variable {P : Program} {w : World} {K : PySem.W.Frag} {mg : Str → Option Value} {base : Heap} {f : Addr} {fd : FuncData}
theorem ok_Game_play (F : FnP K "play" "Game.play" s_Game_play f fd) (T : Txt K mg) (c_below : Cl P w K mg base 1 "below" ["x", "y"] (sp_below K)) (c_lowest : Cl P w K mg base 2 "lowest" ["a", "b"] (sp_lowest K)) (c_plus : Cl P w K mg base 3 "plus" ["x", "y"] (sp_plus K)) (m_Game_worth_behind : MCl P w K mg base 5 "Game" "worth_behind" ["self", "value"] (sp_Game_worth_behind K)) (m_Game_ended : MCl P w K mg base 1 "Game" "ended" ["self"] (sp_Game_ended K)) : FnOk P w K mg base (L2.CX P w) 6 f fd ["self", "value"] (sp_Game_play K) := by
  refine F.ok sc_Game_play (fun vs H Q E h => ?_) (fun cdv A outer s H vs Q E hr h => ?_)
  · obtain ⟨a, l, p, g, v, φ, rfl, _⟩ := h; rfl
  · refine ⟨_, (pss_cons (ps_if (pt_val (pmeth0 rfl m_Game_ended hr (by first | decide | omega) (takes_of rfl rfl rfl rfl) (pv 0))) (pss_one (ps_raise rfl (takes_of rfl rfl rfl rfl) (pmk_own PySem.F.excBase_ValueError T.x_Ended.1 T.g_Ended T.x_Ended.2.1 (raises_own T.x_Ended.2.2.1 T.x_Ended.2.2.2) rfl))) pss_nil) (pss_cons (ps_set (i := 2) sc_Game_play.nd rfl (Or.inl rfl) pe_non) (C8.pss_cut (ps_if (pt_not (pt_val (pe_fldK (K := K) rfl (pv 0) rfl))) (pss_one (ps_set (i := 2) sc_Game_play.nd rfl (Or.inl rfl) (pmeth rfl m_Game_worth_behind hr (by first | decide | omega) (takes_of rfl rfl rfl rfl) (pv 0) (pa_cons (pv 1) pa_nil)))) pss_nil) (pss_cons (ps_expr (pe_bmK (K := K) rfl PySem.F.plainAttrs_list PySem.F.slot_list_append PySem.F.type_list_append mt_append (pe_fldK (K := K) rfl (pv 0) rfl) (pa_cons (pv 1) pa_nil))) (pss_cons (ps_fld (pv 0) (pcall c_plus hr (by first | decide | omega) (takes_of rfl rfl rfl rfl) (pa_cons (pe_fldK (K := K) rfl (pv 0) rfl) (pa_cons (pv 1) pa_nil))) rfl) (C8.pss_cut (ps_if (PW.pt (pw_and (pt_not (pt_val (pe_fldK (K := K) rfl (pv 0) rfl))) (pw_and1 (pt_val (pcall c_below hr (by first | decide | omega) (takes_of rfl rfl rfl rfl) (pa_cons (pcall c_lowest hr (by first | decide | omega) (takes_of rfl rfl rfl rfl) (pa_cons (pe_fldK (K := K) rfl (pv 0) rfl) (pa_cons pe_int pa_nil))) (pa_cons (pe_fldK (K := K) rfl (pv 0) rfl) pa_nil))))))) (pss_cons (ps_fld (pv 0) pe_bl rfl) (pss_one (ps_set (i := 2) sc_Game_play.nd rfl (Or.inl rfl) pe_non))) pss_nil) (pss_cons (ps_fld (pv 0) (pv 2) rfl) (pss_one (ps_if (PW.pt (pw_and (pt_cmpR op_notNU (pv 2) pe_non (nomark _)) (pw_and1 (pt_val (pcall c_below hr (by first | decide | omega) (takes_of rfl rfl rfl rfl) (pa_cons (pe_fldK (K := K) rfl (pv 0) rfl) (pa_cons (pv 2) pa_nil))))))) (pss_one (ps_fld (pv 0) (pv 2) rfl)) pss_nil))))))))), ?_⟩
    obtain ⟨a, l, p, g, v, φ, rfl, gat, hp, eR, nn, h⟩ := h
    rcases h with ⟨en, ke⟩ | ⟨b, c, tt, z, fit, nc, no, ke⟩ | ⟨b, c, tt, z, fit, good, kk⟩
    · obtain ⟨dx, t, r, s, now, m, vs, G⟩ := id gat
      walk_at "go"
      refine k_methx G.ins (by walk_at "lz") ?_
      walk_at "go"
      refine ⟨a, l, g, rfl, gat, ?_⟩
      rw [en]
      walk_at "go"
      exact ke
    · obtain ⟨dx, t, r, s, now, m, vs, G⟩ := id gat
      walk_at "go"
      refine k_methx G.ins (by walk_at "lz") ?_
      walk_at "go"
      refine ⟨a, l, g, rfl, gat, ?_⟩
      rw [fit.open_]
      walk_at "go"
      refine k_cut0 ?_
      walk_at "go"
      refine k_fldx G.ins T.cl_Game T.f_Game_certain (by walk_at "lk") ?_
      rw [nc]
      walk_at "go"
      refine k_methx G.ins (by walk_at "lz") ?_
      walk_at "go"
      exact ⟨a, l, p, g, v, φ, b, c, tt, z, rfl, gat, hp, fit, nc, eR, nn, fun _ d H' s' hd => ke d H' s' hd, fun z => absurd no z⟩
    have gat' := gat
    obtain ⟨dx, t, r, s, now, m, vs, G⟩ := gat'
    have hvl := G.vals.len
    have nal : a ≠ l := gat.ne
    walk_at "go"
    refine k_methx G.ins (by walk_at "lz") ?_
    walk_at "go"
    refine ⟨a, l, g, rfl, gat, ?_⟩
    rw [fit.open_]
    walk_at "go"
    refine k_cut (fun σ H' => ∃ w : V, σ = [some (.ref a), some (.ref p), some w] ∧ Same H H' ∧ if g.cert = true then w = .non else ∃ q, w = .ref q ∧ SqT K H' q (Fr.fq (Gm.behind g v))) ?_ ?_
    · walk_at "go"
      refine k_fldx G.ins T.cl_Game T.f_Game_certain (by walk_at "lk") ?_
      walk_at "go"
      refine k_ifnb (fun e => ?_) (fun e => ?_)
      · walk_at "go"
        refine k_methx G.ins (by walk_at "lz") ?_
        walk_at "go"
        refine ⟨a, l, p, g, v, φ, b, c, tt, z, rfl, gat, hp, fit, e, eR, nn, fun no => (good.elim (fun z => by rw [e] at z; cases z) fun z => absurd no z), fun _ q H1 s1 hq => ?_⟩
        walk_at "go"
        exact ⟨_, rfl, s1, by rw [if_neg (by rw [e]; decide)]; exact ⟨q, rfl, hq⟩⟩
      · walk_at "go"
        exact ⟨_, rfl, Same.refl H, by rw [if_pos e]⟩
    rintro σ H1 ⟨w, rfl, s1, hw⟩
    replace G := G.same s1
    replace hp := seqT_same s1 hp
    walk_at "go"
    refine k_fldx G.ins T.cl_Game T.f_Game_drawn_values (by walk_at "lk") ?_
    have szl : vs.length < sizeLine := by rw [sizeLine_eq, hvl]; have := fit.len; omega
    refine ⟨k_app0 G.lst, ?_⟩
    walk_at "go"
    refine k_app1 G.lst szl (fun H2 b2 hl2 => ?_)
    have ins2 := b2 _ _ nal G.ins
    have im2 := imm_but b2 G.lst
    walk_at "go"
    refine k_fldx ins2 T.cl_Game T.f_Game_sum_so_far (by walk_at "lk") ?_
    walk_at "go"
    refine ⟨s, p, _, _, c, b, rfl, seqT_imm im2 G.sum, seqT_imm im2 hp, fit.sum, fit.vz, by have := fit.bb; have := fit.bc; omega, fun s' H3 s3 hs' zs' => ?_⟩
    rw [← Lw.sum_snoc] at hs' zs'
    walk_at "go"
    have ins3 := s3 _ _ ins2
    refine k_sfldx ins3 T.cl_Game T.f_Game_sum_so_far (fun H4 b4 h4 => ?_) (by simp)
    replace h4 : H4 a = some (.ins (He.ga K "Game") dx [("many", .int (g.n : Int)), ("again", .bl g.ag), ("highest", .ref t), ("rule", .ref r), ("drawn_values", .ref l), ("sum_so_far", .ref s'), ("now", now), ("most", .ref m), ("certain", .bl g.cert)]) := by rw [h4]; walk_at "pf"
    have hl4 := b4 _ _ (Ne.symm nal) (s3 _ _ hl2)
    have im4 : Imm H1 H4 := im2.trans ((imm_same s3).trans (imm_butI b4 ins3))
    have b14 : But2 a l H1 H4 := (But2.right b2).trans ((But2.of s3).trans (But2.left b4))
    have hs4 := seqT_imm (imm_butI b4 ins3) hs'
    walk_at "go"
    refine k_cut (fun σ H' => ∃ w : V, σ = [some (.ref a), some (.ref p), some w] ∧ But2 a l H4 H' ∧ Imm H4 H' ∧ H' l = some (.lst (vs ++ [.ref p])) ∧ H' a = some (.ins (He.ga K "Game") dx [("many", .int (g.n : Int)), ("again", .bl g.ag), ("highest", .ref t), ("rule", .ref r), ("drawn_values", .ref l), ("sum_so_far", .ref s'), ("now", now), ("most", .ref m), ("certain", .bl (Gm.certBehind g v))]) ∧
        if Gm.certBehind g v = true then w = .non else ∃ q, w = .ref q ∧ SqT K H' q (Fr.fq (Gm.behind g v))) ?_ ?_
    · have done : (g.ag = true ∨ ¬ ((g.n : Rat) / 2 < Lw.sum (g.vals ++ [v]))) → ∀ H5, Same H4 H5 → ∃ w' : V, [some (V.ref a), some (.ref p), some w] = [some (.ref a), some (.ref p), some w'] ∧ But2 a l H4 H5 ∧ Imm H4 H5 ∧ H5 l = some (.lst (vs ++ [.ref p])) ∧ H5 a = some (.ins (He.ga K "Game") dx [("many", .int (g.n : Int)), ("again", .bl g.ag), ("highest", .ref t), ("rule", .ref r), ("drawn_values", .ref l), ("sum_so_far", .ref s'), ("now", now), ("most", .ref m), ("certain", .bl (Gm.certBehind g v))]) ∧
          if Gm.certBehind g v = true then w' = .non else ∃ q, w' = .ref q ∧ SqT K H5 q (Fr.fq (Gm.behind g v)) := fun e H5 s5 => by
        have ec : Gm.certBehind g v = g.cert := by
          unfold Gm.certBehind
          rcases e with e | e
          · rw [e]; simp
          · rw [decide_eq_false e]; simp
        rw [ec]
        refine ⟨w, rfl, But2.of s5, imm_same s5, s5 _ _ hl4, s5 _ _ h4, ?_⟩
        split at hw
        · rw [if_pos ‹_›]; exact hw
        · rw [if_neg ‹_›]; obtain ⟨q, h1, h2⟩ := hw; exact ⟨q, h1, seqT_same s5 (seqT_imm im4 h2)⟩
      walk_at "go"
      refine k_fldx h4 T.cl_Game T.f_Game_again (by walk_at "lk") ?_
      walk_at "go"
      cases ea : g.ag with
      | true =>
        rw [ea] at done
        walk_at "go"
        exact done (.inl rfl) H4 (Same.refl _)
      | false =>
        rw [ea] at done h4
        walk_at "go"
        refine k_fldx h4 T.cl_Game T.f_Game_many (by walk_at "lk") ?_
        walk_at "go"
        refine ⟨(g.n : Int), 2, rfl, fun z => absurd z (by decide), fun _ => ⟨okd_den (n := 2) (by decide) (by decide) (by decide), fun p1 H5 s5 h5 => ?_⟩⟩
        have e5 : Rat.divInt (g.n : Int) 2 = (g.n : Rat) / 2 := by rw [Rat.divInt_eq_div]; rfl
        have z1 : Fr.Sz 6 ((g.n : Rat) / 2) := by rw [← e5]; exact Fr.sz_divInt (by decide) (by show _ < 64; have := fit.n; omega) (by decide)
        rw [e5] at h5
        walk_at "go"
        refine k_fldx (s5 _ _ h4) T.cl_Game T.f_Game_sum_so_far (by walk_at "lk") ?_
        walk_at "go"
        refine ⟨p1, s', _, _, 6, _, rfl, h5, seqT_same s5 hs4, z1, zs', by have := fit.bb; have := fit.bc; omega, ?_⟩
        walk_at "go"
        refine k_if (fun e => ?_) (fun e => ?_)
        · walk_at "go"
          refine k_sfldx (s5 _ _ h4) T.cl_Game T.f_Game_certain (fun H6 b6 h6 => ?_) (by simp)
          walk_at "go"
          have ec : Gm.certBehind g v = true := by unfold Gm.certBehind; rw [ea, decide_eq_true e]; simp
          rw [ec]
          exact ⟨_, rfl, (But2.of s5).trans (But2.left b6), (imm_same s5).trans (imm_butI b6 (s5 _ _ h4)), b6 _ _ (Ne.symm nal) (s5 _ _ hl4), by rw [h6]; walk_at "pf", rfl⟩
        · exact done (.inr e) H5 s5
    rintro σ H5 ⟨w', rfl, b5, im5, hl5, h5, hw'⟩
    walk_at "go"
    refine k_sfldx h5 T.cl_Game T.f_Game_now (fun H6 b6 h6 => ?_) (by simp)
    replace h6 : H6 a = some (.ins (He.ga K "Game") dx [("many", .int (g.n : Int)), ("again", .bl g.ag), ("highest", .ref t), ("rule", .ref r), ("drawn_values", .ref l), ("sum_so_far", .ref s'), ("now", w'), ("most", .ref m), ("certain", .bl (Gm.certBehind g v))]) := by rw [h6]; walk_at "pf"
    have im6 : Imm H1 H6 := im4.trans (im5.trans (imm_butI b6 h5))
    have b16 : But2 a l H1 H6 := b14.trans (b5.trans (But2.left b6))
    have hl6 := b6 _ _ (Ne.symm nal) hl5
    have rul6 : RAt K H6 r g.R := G.rule.mono im6 fun C d f hf h => b16 _ _ (ne_of h G.ins (by intro z; cases z; simp at hf)) (ne_of h G.lst (by intro z; cases z)) h
    have val6 : Fqs K H6 (vs ++ [.ref p]) (g.vals ++ [v]) := Fqs.snoc (seqT_imm im6 hp) (G.vals.imm im6)
    have sum6 := seqT_imm (im5.trans (imm_butI b6 h5)) hs4
    have e2 : (Gm.play g v).vals = g.vals ++ [v] := rfl
    walk_at "go"
    cases ec : Gm.certBehind g v with
    | true =>
      rw [ec] at h6
      obtain rfl : w' = .non := by rw [if_pos ec] at hw'; exact hw'
      walk_at "go"
      refine kk H6 ((But2.of s1).trans b16) ⟨dx, t, r, s', .non, m, _, ?_, seqT_imm im6 G.top, rul6, hl6, val6, sum6, ?_, ?_⟩
      · show _ = some (HO.ins _ dx [_, _, _, _, _, _, _, _, ("certain", .bl (Gm.certBehind g v))])
        rw [ec]; exact h6
      · rw [if_pos (show (Gm.play g v).cert = true from ec)]
      · show SqT K H6 m (Fr.fq (if Gm.certBehind g v = true then g.most else _))
        rw [if_pos ec]
        exact seqT_imm im6 G.most
    | false =>
      rw [ec] at h6
      rw [if_neg (by rw [ec]; decide)] at hw'
      obtain ⟨q, rfl, hq⟩ := hw'
      have nc : g.cert = false := by
        unfold Gm.certBehind at ec
        cases e : g.cert with
        | false => rfl
        | true => rw [e] at ec; simp at ec
      obtain ⟨pm, pa, pw, zm, za, zn, zo, zb, bm, ba, bw, room⟩ := fit.live nc
      have hq6 := seqT_imm (imm_butI b6 h5) hq
      have now6 : if (Gm.play g v).cert = true then V.ref q = .non else ∃ p, V.ref q = .ref p ∧ SqT K H6 p (Fr.fq (Gm.play g v).now) := by
        rw [if_neg (show ¬ (Gm.play g v).cert = true by show ¬ Gm.certBehind g v = true; rw [ec]; decide)]
        refine ⟨q, rfl, ?_⟩
        show SqT K H6 q (Fr.fq (if g.cert = true then g.now else Gm.behind g v))
        rw [if_neg (by rw [nc]; decide)]
        exact hq6
      have em : (Gm.play g v).most = if g.most < Gm.behind g v then Gm.behind g v else g.most := by
        show (if Gm.certBehind g v = true then g.most else _) = _
        rw [if_neg (by rw [ec]; decide)]
      walk_at "go"
      refine k_fldx h6 T.cl_Game T.f_Game_most (by walk_at "lk") ?_
      walk_at "go"
      refine ⟨m, q, _, _, pw, pw, rfl, seqT_imm im6 G.most, hq6, zo, zb, by omega, ?_⟩
      walk_at "go"
      refine k_if (fun lt => ?_) (fun ge => ?_)
      · walk_at "go"
        refine k_sfldx h6 T.cl_Game T.f_Game_most (fun H7 b7 h7 => ?_) (by simp)
        have im7 := imm_butI b7 h6
        walk_at "go"
        refine kk H7 ((But2.of s1).trans (b16.trans (But2.left b7))) ⟨dx, t, r, s', .ref q, q, _, ?_, seqT_imm (im6.trans im7) G.top, rul6.butI b7 h6 (by simp), b7 _ _ (Ne.symm nal) hl6, val6.imm im7, seqT_imm im7 sum6, ?_, ?_⟩
        · show _ = some (HO.ins _ dx [_, _, _, _, _, _, _, _, ("certain", .bl (Gm.certBehind g v))])
          rw [ec, h7]; walk_at "pf"
        · split at now6
          · rw [if_pos ‹_›]; exact now6
          · rw [if_neg ‹_›]; obtain ⟨p', h1, h2⟩ := now6; exact ⟨p', h1, seqT_imm im7 h2⟩
        · rw [em, if_pos lt]; exact seqT_imm im7 hq6
      · walk_at "go"
        refine kk H6 ((But2.of s1).trans b16) ⟨dx, t, r, s', .ref q, m, _, ?_, seqT_imm im6 G.top, rul6, hl6, val6, sum6, now6, ?_⟩
        · show _ = some (HO.ins _ dx [_, _, _, _, _, _, _, _, ("certain", .bl (Gm.certBehind g v))])
          rw [ec]; exact h6
        · rw [em, if_neg ge]; exact seqT_imm im6 G.most
end
end Lw
namespace Lw
open PySem PySem.Spec PyProof.Rows L2 Gx LamX NdefX
section
variable {P : Program} {w : World} {K : PySem.W.Frag} {mg : Str → Option Value} {base : Heap} {f : Addr} {fd : FuncData}
theorem ok_Game_worth (F : FnP K "worth" "Game.worth" s_Game_worth f fd) (T : Txt K mg) : FnOk P w K mg base (L2.CX P w) 1 f fd ["self"] (sp_Game_worth K) := by
  refine F.ok sc_Game_worth (fun vs H Q E h => ?_) (fun cdv A outer s H vs Q E hr h => ?_)
  · obtain ⟨a, l, g, rfl, _⟩ := h; rfl
  · refine ⟨_, (pss_one (ps_ret (pe_fldK (K := K) rfl (pv 0) rfl))), ?_⟩
    obtain ⟨a, l, g, rfl, ⟨dx, t, r, s, now, m, vs, G⟩, kk⟩ := h
    walk_at "go"
    refine k_fldx G.ins T.cl_Game T.f_Game_now (by walk_at "lk") ?_
    refine kk now ?_
    have n := G.now_
    unfold Gm.worthO
    split at n
    · rw [if_pos ‹_›]; exact n
    · rw [if_neg ‹_›]; exact n
end
end Lw
namespace Lw
open PySem PySem.Spec PyProof.Rows L2 Gx LamX NdefX
section
variable {P : Program} {w : World} {K : PySem.W.Frag} {mg : Str → Option Value} {base : Heap} {f : Addr} {fd : FuncData}
theorem ok_Game_turns (F : FnP K "turns" "Game.turns" s_Game_turns f fd) (T : Txt K mg) : FnOk P w K mg base (L2.CX P w) 1 f fd ["self"] (sp_Game_turns K) := by
  refine F.ok sc_Game_turns (fun vs H Q E h => ?_) (fun cdv A outer s H vs Q E hr h => ?_)
  · obtain ⟨a, l, g, rfl, _⟩ := h; rfl
  · refine ⟨_, (pss_one (ps_ret (pe_callB (callK (K := K) (r := rLenU) rfl call_lenU) (by rfl) T.n_len (by decide +kernel) (pa_cons (pe_fldK (K := K) rfl (pv 0) rfl) pa_nil)))), ?_⟩
    obtain ⟨a, l, g, rfl, ⟨dx, t, r, s, now, m, vs, G⟩, kk⟩ := h
    have hvl := G.vals.len
    walk_at "go"
    refine k_fldx G.ins T.cl_Game T.f_Game_drawn_values (by walk_at "lk") ?_
    walk_at "go"
    refine k_lenL ?_ (SqL.of G.lst)
    rw [hvl]
    exact kk
end
end Lw
namespace Lw
open PySem PySem.Spec PyProof.Rows L2 Gx LamX NdefX
section
variable {P : Program} {w : World} {K : PySem.W.Frag} {mg : Str → Option Value} {base : Heap} {f : Addr} {fd : FuncData}
theorem ok_Game_past (F : FnP K "past" "Game.past" s_Game_past f fd) (T : Txt K mg) : FnOk P w K mg base (L2.CX P w) 1 f fd ["self"] (sp_Game_past K) := by
  refine F.ok sc_Game_past (fun vs H Q E h => ?_) (fun cdv A outer s H vs Q E hr h => ?_)
  · obtain ⟨a, l, g, rfl, _⟩ := h; rfl
  · refine ⟨_, (pss_one (ps_ret (pe_callTy (callK (K := K) (r := rTupV) rfl call_tupV) (by rfl) T.n_tuple (by decide +kernel) (pa_cons (pe_fldK (K := K) rfl (pv 0) rfl) pa_nil)))), ?_⟩
    obtain ⟨a, l, g, rfl, ⟨dx, t, r, s, now, m, vs, G⟩, kk⟩ := h
    walk_at "go"
    refine k_fldx G.ins T.cl_Game T.f_Game_drawn_values (by walk_at "lk") ?_
    walk_at "go"
    refine k_tupL (SqL.of G.lst) (fun p H1 n1 s1 hp => ?_)
    exact kk p vs H1 s1 (SqT.of hp) (G.vals.same s1)
end
end Lw
namespace Lw
open PySem PySem.Spec PyProof.Rows L2 Gx LamX NdefX
section
variable {P : Program} {w : World} {K : PySem.W.Frag} {mg : Str → Option Value} {base : Heap} {f : Addr} {fd : FuncData}
theorem ok_Game_reached (F : FnP K "reached" "Game.reached" s_Game_reached f fd) (T : Txt K mg) (c_below : Cl P w K mg base 1 "below" ["x", "y"] (sp_below K)) (c_times : Cl P w K mg base 3 "times" ["x", "y"] (sp_times K)) : FnOk P w K mg base (L2.CX P w) 4 f fd ["self", "limit"] (sp_Game_reached K) := by
  refine F.ok sc_Game_reached (fun vs H Q E h => ?_) (fun cdv A outer s H vs Q E hr h => ?_)
  · obtain ⟨a, l, p, g, x, m, n, rfl, _⟩ := h; rfl
  · refine ⟨_, (pss_one (ps_ret (pe_or (pe_fldK (K := K) rfl (pv 0) rfl) (pe_one (pe_not (pcall c_below hr (by first | decide | omega) (takes_of rfl rfl rfl rfl) (pa_cons (pcall c_times hr (by first | decide | omega) (takes_of rfl rfl rfl rfl) (pa_cons (pe_fldK (K := K) rfl (pv 0) rfl) (pa_cons (pv 1) pa_nil))) (pa_cons (C8.pe_gc (by rfl) T.c_ONE_games) pa_nil)))))))), ?_⟩
    obtain ⟨a, l, p, g, x, mm, n, rfl, ⟨dx, t, r, s, now, m, vs, G⟩, hp, sm, sx, hmn, kk⟩ := h
    walk_at "go"
    refine k_fldx G.ins T.cl_Game T.f_Game_certain (by walk_at "lk") ?_
    cases e : g.cert with
    | true =>
      walk_at "go"
      have er : Gm.reached g x = true := by unfold Gm.reached; rw [e]; rfl
      rw [er] at kk
      exact kk H (Same.refl H)
    | false =>
      have er : Gm.reached g x = !decide (g.most * x < 1) := by unfold Gm.reached; rw [e]; rfl
      rw [er] at kk
      walk_at "go"
      refine k_fldx G.ins T.cl_Game T.f_Game_most (by walk_at "lk") ?_
      walk_at "go"
      refine ⟨m, p, _, _, mm, n, rfl, G.most, hp, sm e, sx, hmn, fun q1 H1 s1 h1 z1 => ?_⟩
      walk_at "go"
      refine ⟨q1, _, _, 1, mm + n, 1, rfl, h1, by rw [Cm.fq1]; exact T.t_ONE_games H1, z1, Ru.sz1 (by decide), by omega, ?_⟩
      walk_at "go"
      exact kk H1 s1
end
end Lw
namespace Lw
open PySem PySem.Spec PyProof.Rows L2 Gx LamX NdefX
section
variable {P : Program} {w : World} {K : PySem.W.Frag} {mg : Str → Option Value} {base : Heap} {f : Addr} {fd : FuncData}
theorem ok_within (F : FnP K "within" "within" s_within f fd) (T : Txt K mg) (c_below : Cl P w K mg base 1 "below" ["x", "y"] (sp_below K)) : FnOk P w K mg base (L2.CX P w) 2 f fd ["x"] (sp_within K) := by
  refine F.ok sc_within (fun vs H Q E h => ?_) (fun cdv A outer s H vs Q E hr h => ?_)
  · obtain ⟨p, x, m, rfl, _⟩ := h; rfl
  · refine ⟨_, (pss_cons (ps_if (pt_val (pcall c_below hr (by first | decide | omega) (takes_of rfl rfl rfl rfl) (pa_cons (pv 0) (pa_cons (C8.pe_gc (by rfl) T.c_NOUGHT_rules) pa_nil)))) (pss_one (ps_ret (C8.pe_gc (by rfl) T.c_NOUGHT_rules))) pss_nil) (pss_cons (ps_if (pt_val (pcall c_below hr (by first | decide | omega) (takes_of rfl rfl rfl rfl) (pa_cons (C8.pe_gc (by rfl) T.c_ONE_rules) (pa_cons (pv 0) pa_nil)))) (pss_one (ps_ret (C8.pe_gc (by rfl) T.c_ONE_rules))) pss_nil) (pss_one (ps_ret (pv 0))))), ?_⟩
    obtain ⟨p, x, m, rfl, hp, sx, hm, kk⟩ := h
    walk_at "go"
    refine ⟨p, _, x, 0, m, 2, rfl, hp, by rw [Cm.fq0]; exact T.t_NOUGHT_rules H, sx, Cm.sz0 (n := 0), by omega, ?_⟩
    walk_at "go"
    refine k_if (fun c => ?_) (fun c => ?_)
    · walk_at "go"
      refine kk _ ?_
      rw [show Ru.clip x = 0 from if_pos c, Cm.fq0]
      exact T.t_NOUGHT_rules H
    walk_at "go"
    refine ⟨_, p, 1, x, 2, m, rfl, by rw [Cm.fq1]; exact T.t_ONE_rules H, hp, Cm.sz1 (n := 0), sx, by omega, ?_⟩
    walk_at "go"
    refine k_if (fun c2 => ?_) (fun c2 => ?_)
    · walk_at "go"
      refine kk _ ?_
      rw [show Ru.clip x = 1 from (if_neg c).trans (if_pos c2), Cm.fq1]
      exact T.t_ONE_rules H
    · walk_at "go"
      refine kk p ?_
      rw [show Ru.clip x = x from (if_neg c).trans (if_neg c2)]
      exact hp
end
end Lw
namespace Lw
open PySem PySem.Spec PyProof.Rows L2 Gx LamX NdefX
section
variable {P : Program} {w : World} {K : PySem.W.Frag} {mg : Str → Option Value} {base : Heap} {f : Addr} {fd : FuncData}
theorem ok_Asked___init__ (F : FnP K "__init__" "Asked.__init__" s_Asked___init__ f fd) (T : Txt K mg) : FnOk P w K mg base (L2.CX P w) 1 f fd ["self", "function"] (sp_Asked___init__ K) := by
  refine F.ok sc_Asked___init__ (fun vs H Q E h => ?_) (fun cdv A outer s H vs Q E hr h => ?_)
  · obtain ⟨a, dx, u, rfl, _⟩ := h; rfl
  · refine ⟨_, (pss_one (ps_fld (pv 0) (pv 1) rfl)), ?_⟩
    obtain ⟨a, dx, u, rfl, h0, kk⟩ := h
    walk_at "go"
    refine k_sfldx h0 T.cl_Asked T.f_Asked_function (fun H1 b1 h1 => ?_) (by walk_at "pl")
    walk_at "go"
    exact kk H1 b1 (by rw [h1]; walk_at "pf")
end
end Lw
namespace Lw
open PySem PySem.Spec PyProof.Rows L2 Gx LamX NdefX
section
variable {P : Program} {w : World} {K : PySem.W.Frag} {mg : Str → Option Value} {base : Heap} {f : Addr} {fd : FuncData}
theorem ok_Asked_stake (F : FnP K "stake" "Asked.stake" s_Asked_stake f fd) (T : Txt K mg) (c_within : Cl P w K mg base 2 "within" ["x"] (sp_within K)) (c_is_fraction : Cl P w K mg base 2 "is_fraction" ["thing"] (sp_is_fraction K)) (c_NoStake___init__ : XCl P w K mg base 1 "NoStake" ["self", "turn"] (sp_NoStake___init__ K)) (c_law___law_told : CloCl P w K mg base 2 IsF_law___law_told ["_law_past"] ["_law_bad", "_law_good", "_law_odd"] (sp_law___law_told K)) : FnOk P w K mg base (L2.CX P w) 3 f fd ["self", "past", "price", "top"] (sp_Asked_stake K) := by
  refine F.ok sc_Asked_stake (fun vs H Q E h => ?_) (fun cdv A outer s H vs Q E hr h => ?_)
  · obtain ⟨a, dx, f, l, u, v, φ, xs, qs, z, rfl, _⟩ := h; rfl
  · refine ⟨_, (pss_cons (ps_set (i := 4) sc_Asked_stake.nd rfl (Or.inl rfl) (pfldcall (K := K) rfl c_law___law_told hr (by first | decide | omega) (pv 0) (pa_cons (pv 1) pa_nil))) (pss_cons (ps_if (PW.pt (pw_or (pt_not (pt_val (pcall c_is_fraction hr (by first | decide | omega) (takes_of rfl rfl rfl rfl) (pa_cons (pv 4) pa_nil)))) (pw_or1 (pt_cmpR (op_neK (K := K) rfl hr) (pcall c_within hr (by first | decide | omega) (takes_of rfl rfl rfl rfl) (pa_cons (pv 4) pa_nil)) (pv 4) (nomark _))))) (pss_one (ps_raise rfl (takes_of rfl rfl rfl rfl) (pmkOK (K := K) rfl c_NoStake___init__ hr (by first | decide | omega) (pa_cons (pe_callB (callK (K := K) (r := rLenU) rfl call_lenU) (by rfl) T.n_len (by decide +kernel) (pa_cons (pv 1) pa_nil)) pa_nil)))) pss_nil) (pss_one (ps_ret (pv 4))))), ?_⟩
    obtain ⟨a, dx, f, l, u, v, φ, xs, qs, z, rfl, h0, ht, hl, fq, nn, q60, sz, hz, p0, p1, ke, kk⟩ := h
    obtain ⟨F, hF⟩ := ht.fn
    have hxl := fq.len
    walk_at "go"
    refine k_fldcallx h0 T.cl_Asked T.f_Asked_function (by walk_at "lk") hF ?_
    walk_at "go"
    refine ht.call hl fq q60 nn hF (fun no t H1 s1 hodd => ?_) (fun yes r H1 s1 hr => ?_)
    · walk_at "go"
      rcases hodd.isF with i | ⟨r, q, rfl, i, hr, sq, ne⟩
      · refine ⟨_, false, rfl, i, ?_⟩
        walk_at "go"
        refine k_lenT ?_ (seqT_same s1 hl)
        rw [hxl]
        walk_at "go"
        refine k_mkx (fun d H3 nd s3 hd => ?_)
        exact ke no d H3 (s1.trans s3) hd
      refine ⟨_, true, rfl, i, ?_⟩
      walk_at "go"
      refine ⟨r, q, 60, rfl, hr, sq, by decide, fun r2 hr2 => ?_⟩
      walk_at "go"
      refine k_neD (Fr.dp_fq hr2) (Fr.dp_fq hr) ?_ (Fr.shaped_fq _) (Fr.shaped_fq _)
      rw [Fr.eqv_fq, decide_eq_false ne]
      walk_at "go"
      refine k_lenT ?_ (seqT_same s1 hl)
      rw [hxl]
      walk_at "go"
      refine k_mkx (fun d H3 nd s3 hd => ?_)
      exact ke no d H3 (s1.trans s3) hd
    walk_at "go"
    refine ⟨_, true, rfl, IsF.yes hr, ?_⟩
    walk_at "go"
    refine ⟨r, _, z, rfl, hr, sz, by omega, fun r2 hr2 => ?_⟩
    walk_at "go"
    rw [Ru.clip_id p0 p1] at hr2
    refine k_neD (Fr.dp_fq hr2) (Fr.dp_fq hr) ?_ (Fr.shaped_fq _) (Fr.shaped_fq _)
    rw [Fr.eqv_fq, decide_eq_true rfl]
    walk_at "go"
    exact kk yes r H1 s1 hr
end
end Lw
namespace Lw
open PySem PySem.Spec PyProof.Rows L2 Gx LamX NdefX
section
variable {P : Program} {w : World} {K : PySem.W.Frag} {mg : Str → Option Value} {base : Heap} {f : Addr} {fd : FuncData}
theorem ok__law_cell_at (F : FnP K "_law_cell_at" "_law_cell_at" s__law_cell_at f fd) (T : Txt K mg) : FnOk P w K mg base (L2.CX P w) 1 f fd ["_law_script", "_law_k"] (sp__law_cell_at K) := by
  refine F.ok sc__law_cell_at (fun vs H Q E h => ?_) (fun cdv A outer s H vs Q E hr h => ?_)
  · obtain ⟨a, ns, k, rfl, _⟩ := h; rfl
  · refine ⟨_, (pss_cons (ps_if (pt_cmpR op_lt (pv 1) (pe_callB (callK (K := K) (r := rLenU) rfl call_lenU) (by rfl) T.n_len (by decide +kernel) (pa_cons (pv 0) pa_nil)) (nomark _)) (pss_one (ps_ret (pe_ix (ix_K (K := K) rfl) (pv 0) (pv 1) (fun _ _ => rfl)))) pss_nil) (pss_one (ps_ret pe_int))), ?_⟩
    obtain ⟨a, ns, k, rfl, hS, k0, kk⟩ := h
    have hlm : (ns.map V.int).length = ns.length := List.length_map ..
    walk_at "go"
    refine k_lenL ?_ hS
    walk_at "go"
    refine k_if (fun c => ?_) (fun c => ?_)
    · walk_at "go"
      obtain ⟨z, hz⟩ := Dk.at_map (ns := ns) k0 (by omega)
      refine k_ixL hS hz ?_
      exact kk _
    · walk_at "go"
      exact kk _
end
end Lw
namespace Lw
open PySem PySem.Spec PyProof.Rows L2 Gx LamX NdefX
section
variable {P : Program} {w : World} {K : PySem.W.Frag} {mg : Str → Option Value} {base : Heap} {f : Addr} {fd : FuncData}
theorem ok__law_begin (F : FnP K "_law_begin" "_law_begin" s__law_begin f fd) (T : Txt K mg) : FnOk P w K mg base (L2.CX P w) 1 f fd ["_law_cell"] (sp__law_begin K) := by
  refine F.ok sc__law_begin (fun vs H Q E h => ?_) (fun cdv A outer s H vs Q E hr h => ?_)
  · obtain ⟨c, rfl, _⟩ := h; rfl
  · refine ⟨_, (pss_one (ps_ret (pe_lst (pa_cons (pe_op op_fdivG (pv 0) pe_int) (pa_cons (pe_op op_modN (pv 0) pe_int) pa_nil))))), ?_⟩
    obtain ⟨c, rfl, kk⟩ := h
    walk_at "go"
    refine k_lstx (fun l H1 n1 s1 h1 => ?_) (by simp [sizeLine_eq])
    exact kk l _ _ H1 n1 s1 h1
end
end Lw
namespace Lw
open PySem PySem.Spec PyProof.Rows L2 Gx LamX NdefX
section
variable {P : Program} {w : World} {K : PySem.W.Frag} {mg : Str → Option Value} {base : Heap} {f : Addr} {fd : FuncData}
theorem ok__law_draw (F : FnP K "_law_draw" "_law_draw" s__law_draw f fd) (T : Txt K mg) : FnOk P w K mg base (L2.CX P w) 1 f fd ["_law_state", "_law_many"] (sp__law_draw K) := by
  refine F.ok sc__law_draw (fun vs H Q E h => ?_) (fun cdv A outer s H vs Q E hr h => ?_)
  · obtain ⟨l, n, f, m, rfl, _⟩ := h; rfl
  · refine ⟨_, (pss_cons (ps_if (pt_cmpR (op_eqK (K := K) rfl hr) (pe_ix (ix_K (K := K) rfl) (pv 0) pe_int (fun _ _ => rfl)) pe_int (nomark _)) (pss_cons (ps_set (i := 2) sc__law_draw.nd rfl (Or.inl rfl) (pe_op op_modN (pe_ix (ix_K (K := K) rfl) (pv 0) pe_int (fun _ _ => rfl)) (pv 1))) (pss_cons (ps_asg (pe_op op_fdivG (pe_ix (ix_K (K := K) rfl) (pv 0) pe_int (fun _ _ => rfl)) (pv 1)) (pg_sub (pv 0) pe_int set_list)) (pss_one (ps_ret (pv 2))))) pss_nil) (pss_cons (ps_set (i := 3) sc__law_draw.nd rfl (Or.inl rfl) (pe_op op_modN (pe_op (op_addK (K := K) rfl) (pe_op (op_mulK (K := K) rfl) (pe_op op_modN (pe_ix (ix_K (K := K) rfl) (pv 0) pe_int (fun _ _ => rfl)) pe_int) pe_int) pe_int) pe_int)) (pss_cons (ps_asg (pe_op op_modN (pe_op (op_addK (K := K) rfl) (pe_op (op_addK (K := K) rfl) (pe_op (op_mulK (K := K) rfl) (pv 3) pe_int) (pe_op op_modN (pe_op op_fdivG (pe_ix (ix_K (K := K) rfl) (pv 0) pe_int (fun _ _ => rfl)) pe_int) pe_int)) pe_int) pe_int) (pg_sub (pv 0) pe_int set_list)) (pss_one (ps_ret (pe_op op_modN (pe_op op_fdivG (pe_op op_modN (pe_op (op_addK (K := K) rfl) (pe_op (op_mulK (K := K) rfl) (pe_ix (ix_K (K := K) rfl) (pv 0) pe_int (fun _ _ => rfl)) pe_int) pe_int) pe_int) pe_int) (pv 1))))))), ?_⟩
    obtain ⟨l, n, f, m, rfl, hl, m1, m2, kk⟩ := h
    walk_at "go"
    refine k_ixL (SqL.of hl) (v := .int f) rfl ?_
    walk_at "go"
    refine k_if (fun c => ?_) (fun c => ?_)
    · walk_at "go"
      refine k_ixL (SqL.of hl) (v := .int n) rfl ?_
      walk_at "go"
      refine k_ixL (SqL.of hl) (v := .int n) rfl ?_
      walk_at "go"
      refine k_setL (j := 0) hl rfl (fun H1 b1 h1 => ?_)
      walk_at "go"
      exact kk _ _ H1 b1 h1 (Int.emod_nonneg _ (by omega)) (Int.emod_lt_of_pos _ (by omega))
    · walk_at "go"
      refine k_ixL (SqL.of hl) (v := .int n) rfl ?_
      walk_at "go"
      refine k_mulB (m := 32) (n := 32) (by show (n % 2147483647).natAbs < 4294967296; omega) (by decide) (by decide) ?_
      walk_at "go"
      refine k_mulB (m := 32) (n := 32) (by show (_ % 2147483629 : Int).natAbs < 4294967296; omega) (by decide) (by decide) ?_
      walk_at "go"
      refine k_ixL (SqL.of hl) (v := .int n) rfl ?_
      walk_at "go"
      refine k_setL (j := 0) hl rfl (fun H1 b1 h1 => ?_)
      walk_at "go"
      refine k_ixL (SqL.of h1) rfl ?_
      walk_at "go"
      refine k_mulB (m := 32) (n := 32) (by show (_ % 2147483587 : Int).natAbs < 4294967296; omega) (by decide) (by decide) ?_
      walk_at "go"
      exact kk _ _ H1 b1 h1 (Int.emod_nonneg _ (by omega)) (Int.emod_lt_of_pos _ (by omega))
end
end Lw
namespace Lw
open PySem PySem.Spec PyProof.Rows L2 Gx LamX NdefX
section
variable {P : Program} {w : World} {K : PySem.W.Frag} {mg : Str → Option Value} {base : Heap} {f : Addr} {fd : FuncData}
theorem ok__law_low (F : FnP K "_law_low" "_law_low" s__law_low f fd) (T : Txt K mg) : FnOk P w K mg base (L2.CX P w) 1 f fd ["_law_a", "_law_b"] (sp__law_low K) := by
  refine F.ok sc__law_low (fun vs H Q E h => ?_) (fun cdv A outer s H vs Q E hr h => ?_)
  · obtain ⟨a, b, rfl, _⟩ := h; rfl
  · refine ⟨_, (pss_cons (ps_set (i := 2) sc__law_low.nd rfl (Or.inl rfl) (pe_callB call_absU (by rfl) T.n_abs (by decide +kernel) (pa_cons (pv 0) pa_nil))) (pss_cons (ps_set (i := 3) sc__law_low.nd rfl (Or.inl rfl) (pv 1)) (pss_cons (ps_while (passes_of rfl) (pt_cmpR op_gt (pv 3) pe_int (nomark _)) (pss_one (ps_par (i := 2) (j := 3) (by rfl) sc__law_low.nd rfl rfl (by decide) rfl rfl (pa_cons (pv 3) (pa_cons (pe_op op_modN (pv 2) (pv 3)) pa_nil)) (by rfl)))) (pss_one (ps_ret (pe_tup (pa_cons (pe_op op_fdivG (pv 0) (pv 2)) (pa_cons (pe_op op_fdivG (pv 1) (pv 2)) pa_nil)))))))), ?_⟩
    obtain ⟨a, b, rfl, b0, hd, kk⟩ := h
    walk_at "go"
    refine k_while (fun m σ H' => H' = H ∧ ∃ x y : Int, σ = [some (.int a), some (.int b), some (.int x), some (.int y)] ∧ m = y.natAbs ∧ 0 ≤ x ∧ 0 ≤ y ∧ Int.gcd x y = Int.gcd a b) b.natAbs ⟨rfl, (a.natAbs : Int), b, rfl, rfl, by omega, by omega, by show Nat.gcd ((a.natAbs : Int)).natAbs b.natAbs = Nat.gcd a.natAbs b.natAbs; rw [Int.natAbs_natCast]⟩ ?_
    rintro m σ H' ⟨rfl, x, y, rfl, rfl, x0, y0, e⟩
    walk_at "go"
    refine k_if (fun c => ?_) (fun c => ?_)
    · refine k_wN ?_
      walk_at "go"
      have v0 := Int.emod_nonneg x (show y ≠ 0 by omega)
      have v1 := Int.emod_lt_of_pos x c
      refine ⟨(x % y).natAbs, by omega, rfl, y, x % y, rfl, rfl, y0, v0, ?_⟩
      rw [← e, Int.gcd_comm x y, ← Int.fmod_eq_emod_of_nonneg x y0, Fr.gcd_fmod, Int.gcd_comm]
    · have ey : y = 0 := by omega
      subst ey
      walk_at "go"
      rw [Int.gcd_zero] at e
      have hx : x = (Int.gcd a b : Int) := by omega
      have hg := Int.gcd_pos_of_ne_zero_right a (show b ≠ 0 by omega)
      have ed : x = (if b < 0 then 0 - (Int.gcd a b : Int) else (Int.gcd a b : Int)) := by rw [if_neg (by omega)]; exact hx
      obtain ⟨d1, d2⟩ := hd.div (d := x) (by omega)
      refine k_I ?_ ⟨by omega, d1⟩
      walk_at "go"
      refine k_I ?_ ⟨by omega, d2⟩
      walk_at "go"
      refine k_tupx (fun p H2 np s1 hp => ?_) (by simp [sizeLine_eq])
      refine kk p H2 s1 np (SqT.of ?_)
      rw [hp, Fr.low_num (by omega) ed, Fr.low_den (by omega) ed]
end
end Lw
namespace Lw
open PySem PySem.Spec PyProof.Rows L2 Gx LamX NdefX
section
variable {P : Program} {w : World} {K : PySem.W.Frag} {mg : Str → Option Value} {base : Heap} {f : Addr} {fd : FuncData}
theorem ok__law_add (F : FnP K "_law_add" "_law_add" s__law_add f fd) (T : Txt K mg) (c__law_low : Cl P w K mg base 1 "_law_low" ["_law_a", "_law_b"] (sp__law_low K)) : FnOk P w K mg base (L2.CX P w) 2 f fd ["_law_one", "_law_other"] (sp__law_add K) := by
  refine F.ok sc__law_add (fun vs H Q E h => ?_) (fun cdv A outer s H vs Q E hr h => ?_)
  · obtain ⟨p, q, a, b, c, d, m, n, rfl, _⟩ := h; rfl
  · refine ⟨_, (pss_one (ps_ret (pcall c__law_low hr (by first | decide | omega) (takes_of rfl rfl rfl rfl) (pa_cons (pe_op (op_addK (K := K) rfl) (pe_op (op_mulK (K := K) rfl) (pe_ix (ix_K (K := K) rfl) (pv 0) pe_int (fun _ _ => rfl)) (pe_ix (ix_K (K := K) rfl) (pv 1) pe_int (fun _ _ => rfl))) (pe_op (op_mulK (K := K) rfl) (pe_ix (ix_K (K := K) rfl) (pv 1) pe_int (fun _ _ => rfl)) (pe_ix (ix_K (K := K) rfl) (pv 0) pe_int (fun _ _ => rfl)))) (pa_cons (pe_op (op_mulK (K := K) rfl) (pe_ix (ix_K (K := K) rfl) (pv 0) pe_int (fun _ _ => rfl)) (pe_ix (ix_K (K := K) rfl) (pv 1) pe_int (fun _ _ => rfl))) pa_nil))))), ?_⟩
    obtain ⟨p, q, a, b, c, d, m, n, rfl, hp, hq, ha, hb, hc, hd, hmn, b0, d0, kk⟩ := h
    have e : Rat.divInt (a * d + c * b) (b * d) = Rat.divInt a b + Rat.divInt c d := (Rat.divInt_add_divInt a c (by omega) (by omega)).symm
    have bd : 0 < b * d := Int.mul_pos b0 d0
    have l1 := Fr.mul_lt ha hd
    have l2 := Fr.mul_lt hc hb
    rw [Nat.add_comm n m] at l2
    have l3 := Fr.add_lt l1 l2
    have l4 := Fr.up1 (Fr.mul_lt hb hd)
    walk_at "go"
    refine k_ixT hp (v := .int a) rfl ?_
    walk_at "go"
    refine k_ixT hq (v := .int d) rfl ?_
    walk_at "go"
    refine k_mulB ha hd (by omega) ?_
    walk_at "go"
    refine k_ixT hq (v := .int c) rfl ?_
    walk_at "go"
    refine k_ixT hp (v := .int b) rfl ?_
    walk_at "go"
    refine k_mulB hc hb (by omega) ?_
    walk_at "go"
    refine k_ixT hp (v := .int b) rfl ?_
    walk_at "go"
    refine k_ixT hq (v := .int d) rfl ?_
    walk_at "go"
    refine k_mulB hb hd (by omega) ?_
    walk_at "go"
    refine ⟨_, _, rfl, bd, okd_den (by omega) l4 (by omega), fun r H' s1 nr hr => ?_⟩
    rw [e] at hr
    exact kk r H' s1 nr hr (by rw [← e]; exact Fr.sz_divInt (by omega) l3 l4)
end
end Lw
namespace Lw
open PySem PySem.Spec PyProof.Rows L2 Gx LamX NdefX
section
variable {P : Program} {w : World} {K : PySem.W.Frag} {mg : Str → Option Value} {base : Heap} {f : Addr} {fd : FuncData}
theorem ok__law_times (F : FnP K "_law_times" "_law_times" s__law_times f fd) (T : Txt K mg) (c__law_low : Cl P w K mg base 1 "_law_low" ["_law_a", "_law_b"] (sp__law_low K)) : FnOk P w K mg base (L2.CX P w) 2 f fd ["_law_one", "_law_other"] (sp__law_times K) := by
  refine F.ok sc__law_times (fun vs H Q E h => ?_) (fun cdv A outer s H vs Q E hr h => ?_)
  · obtain ⟨p, q, x, y, m, n, rfl, _⟩ := h; rfl
  · refine ⟨_, (pss_one (ps_ret (pcall c__law_low hr (by first | decide | omega) (takes_of rfl rfl rfl rfl) (pa_cons (pe_op (op_mulK (K := K) rfl) (pe_ix (ix_K (K := K) rfl) (pv 0) pe_int (fun _ _ => rfl)) (pe_ix (ix_K (K := K) rfl) (pv 1) pe_int (fun _ _ => rfl))) (pa_cons (pe_op (op_mulK (K := K) rfl) (pe_ix (ix_K (K := K) rfl) (pv 0) pe_int (fun _ _ => rfl)) (pe_ix (ix_K (K := K) rfl) (pv 1) pe_int (fun _ _ => rfl))) pa_nil))))), ?_⟩
    obtain ⟨p, q, x, y, m, n, rfl, hp, hq, sx, sy, hmn, kk⟩ := h
    walk_at "go"
    refine k_ixT hp (v := .int x.num) rfl ?_
    walk_at "go"
    refine k_ixT hq (v := .int y.num) rfl ?_
    walk_at "go"
    refine k_mulB sx.1 sy.1 (by omega) ?_
    walk_at "go"
    refine k_ixT hp (v := .int (x.den : Int)) rfl ?_
    walk_at "go"
    refine k_ixT hq (v := .int (y.den : Int)) rfl ?_
    walk_at "go"
    refine k_mulB sx.den sy.den (by omega) ?_
    walk_at "go"
    refine ⟨_, _, rfl, Int.mul_pos (Fr.den_pos x) (Fr.den_pos y), okd_den (Int.mul_ne_zero (Fr.den_ne x) (Fr.den_ne y)) (Fr.dd_lt sx sy) hmn, fun r H' s1 nr hr => ?_⟩
    rw [Fr.mul_eq x y] at hr
    exact kk r H' s1 nr hr (sx.mul sy)
end
end Lw
namespace Lw
open PySem PySem.Spec PyProof.Rows L2 Gx LamX NdefX
section
variable {P : Program} {w : World} {K : PySem.W.Frag} {mg : Str → Option Value} {base : Heap} {f : Addr} {fd : FuncData}
theorem ok__law_sum (F : FnP K "_law_sum" "_law_sum" s__law_sum f fd) (T : Txt K mg) (c__law_add : Cl P w K mg base 2 "_law_add" ["_law_one", "_law_other"] (sp__law_add K)) : FnOk P w K mg base (L2.CX P w) 3 f fd ["_law_some"] (sp__law_sum K) := by
  refine F.ok sc__law_sum (fun vs H Q E h => ?_) (fun cdv A outer s H vs Q E hr h => ?_)
  · obtain ⟨l, xs, qs, n, rfl, _⟩ := h; rfl
  · refine ⟨_, (pss_cons (ps_set (i := 1) sc__law_sum.nd rfl (Or.inl rfl) (pe_tup (pa_cons pe_int (pa_cons pe_int pa_nil)))) (pss_cons (ps_for (passes_of rfl) rfl (pi_seqU (pv 0)) (pg_name (i := 2) sc__law_sum.nd rfl (Or.inl rfl)) (pss_one (ps_set (i := 1) sc__law_sum.nd rfl (Or.inl rfl) (pcall c__law_add hr (by first | decide | omega) (takes_of rfl rfl rfl rfl) (pa_cons (pv 1) (pa_cons (pv 2) pa_nil)))))) (pss_one (ps_ret (pv 1))))), ?_⟩
    obtain ⟨l, xs, qs, n, rfl, hS, fq, sz, hb, kk⟩ := h
    have hlen := fq.len
    walk_at "go"
    refine k_tupx (fun r0 H1 n1 s1 h1 => ?_) (by simp [sizeLine_eq])
    walk_at "go"
    refine k_loopU (hS.imp (seqL_same s1) (seqT_same s1)) (fun i σ H' => Same H1 H' ∧ ∃ (r : Addr) (t : Option V), σ = [some (.ref l), some (.ref r), t] ∧ SqT K H' r (Fr.fq (Lw.sum (qs.take i))) ∧ Fr.Sz (i * (n + 1) + 1) (Lw.sum (qs.take i)))
      ⟨Same.refl _, r0, none, rfl, ?_, ?_⟩ (fun i σ H' h => h.1) ?_ ?_
    · show SqT K H1 r0 (Fr.fq 0)
      rw [Cm.fq0]
      exact SqT.of h1
    · show Fr.Sz _ 0
      exact ⟨by show (0 : Int).natAbs < _; exact Nat.two_pow_pos _, by show 1 < 2 ^ (0 * (n + 1) + 1); rw [Nat.zero_mul]; decide⟩
    · rintro i x σ H2 hx ⟨s2, r, t, rfl, hr, s⟩
      have hi := (List.getElem?_eq_some_iff.mp hx).1
      obtain ⟨p, q, rfl, hq, hp⟩ := (fq.same (s1.trans s2)).get hx
      have sq := sz q (List.mem_of_getElem? hq)
      have z : (i + 1) * (n + 1) ≤ qs.length * (n + 1) := Nat.mul_le_mul_right _ (by omega)
      have z2 : (i + 1) * (n + 1) = i * (n + 1) + (n + 1) := Nat.succ_mul ..
      walk_at "go"
      refine add_fq hr hp s sq (by omega) (fun r2 H3 s3 _ hr2 sz2 => ?_)
      rw [← Lw.sum_snoc, ← Lw.take_snoc hq] at hr2 sz2
      exact ⟨s2.trans s3, r2, _, rfl, hr2, sz2.mono (by omega)⟩
    · rintro σ H2 ⟨s2, r, t, rfl, hr, s⟩
      rw [hlen, List.take_of_length_le (Nat.le_refl _)] at hr s
      walk_at "go"
      exact kk r H2 (s1.trans s2) hr s
end
end Lw
namespace Lw
open PySem PySem.Spec PyProof.Rows L2 Gx LamX NdefX
section
variable {P : Program} {w : World} {K : PySem.W.Frag} {mg : Str → Option Value} {base : Heap} {f : Addr} {fd : FuncData}
theorem ok__law_top (F : FnP K "_law_top" "_law_top" s__law_top f fd) (T : Txt K mg) (c__law_low : Cl P w K mg base 1 "_law_low" ["_law_a", "_law_b"] (sp__law_low K)) (c__law_draw : Cl P w K mg base 1 "_law_draw" ["_law_state", "_law_many"] (sp__law_draw K)) : FnOk P w K mg base (L2.CX P w) 2 f fd ["_law_state"] (sp__law_top K) := by
  refine F.ok sc__law_top (fun vs H Q E h => ?_) (fun cdv A outer s H vs Q E hr h => ?_)
  · obtain ⟨l, n, f, rfl, _⟩ := h; rfl
  · refine ⟨_, (pss_one (ps_ret (pcall c__law_low hr (by first | decide | omega) (takes_of rfl rfl rfl rfl) (pa_cons (pe_op (op_addK (K := K) rfl) pe_int (pcall c__law_draw hr (by first | decide | omega) (takes_of rfl rfl rfl rfl) (pa_cons (pv 0) (pa_cons pe_int pa_nil)))) (pa_cons (pe_op (op_addK (K := K) rfl) pe_int (pcall c__law_draw hr (by first | decide | omega) (takes_of rfl rfl rfl rfl) (pa_cons (pv 0) (pa_cons pe_int pa_nil)))) pa_nil))))), ?_⟩
    obtain ⟨l, n, f, rfl, hl, kk⟩ := h
    walk_at "go"
    refine ⟨l, n, f, 20, rfl, hl, by decide, by decide, fun r n1 H1 b1 h1 r0 r1 => ?_⟩
    walk_at "go"
    refine ⟨l, n1, f, 9, rfl, h1, by decide, by decide, fun q n2 H2 b2 h2 q0 q1 => ?_⟩
    walk_at "go"
    have d5 : (1 + q).natAbs < 2 ^ 5 := by show _ < 32; omega
    refine ⟨1 + r, 1 + q, rfl, by omega, okd_den (n := 5) (by omega) d5 (by decide), fun p H3 s3 np hp => ?_⟩
    refine kk p _ n2 H3 ((b1.trans b2).trans (But.of s3)) (s3 _ _ h2) hp (Ru.pos (by omega) (by omega)) (Fr.sz_divInt (by omega) (by show _ < 32; omega) d5)
end
end Lw
namespace Lw
open PySem PySem.Spec PyProof.Rows L2 Gx LamX NdefX
section
variable {P : Program} {w : World} {K : PySem.W.Frag} {mg : Str → Option Value} {base : Heap} {f : Addr} {fd : FuncData}
theorem ok__law_value (F : FnP K "_law_value" "_law_value" s__law_value f fd) (T : Txt K mg) (c__law_times : Cl P w K mg base 2 "_law_times" ["_law_one", "_law_other"] (sp__law_times K)) (c__law_low : Cl P w K mg base 1 "_law_low" ["_law_a", "_law_b"] (sp__law_low K)) (c__law_draw : Cl P w K mg base 1 "_law_draw" ["_law_state", "_law_many"] (sp__law_draw K)) : FnOk P w K mg base (L2.CX P w) 3 f fd ["_law_state", "_law_top_here"] (sp__law_value K) := by
  refine F.ok sc__law_value (fun vs H Q E h => ?_) (fun cdv A outer s H vs Q E hr h => ?_)
  · obtain ⟨l, p, n, f, x, rfl, _⟩ := h; rfl
  · refine ⟨_, (pss_cons (ps_set (i := 2) sc__law_value.nd rfl (Or.inl rfl) (pe_op (op_addK (K := K) rfl) pe_int (pcall c__law_draw hr (by first | decide | omega) (takes_of rfl rfl rfl rfl) (pa_cons (pv 0) (pa_cons pe_int pa_nil))))) (pss_one (ps_ret (pcall c__law_times hr (by first | decide | omega) (takes_of rfl rfl rfl rfl) (pa_cons (pv 1) (pa_cons (pcall c__law_low hr (by first | decide | omega) (takes_of rfl rfl rfl rfl) (pa_cons (pcall c__law_draw hr (by first | decide | omega) (takes_of rfl rfl rfl rfl) (pa_cons (pv 0) (pa_cons (pe_op (op_addK (K := K) rfl) (pv 2) pe_int) pa_nil))) (pa_cons (pv 2) pa_nil))) pa_nil)))))), ?_⟩
    obtain ⟨l, p, n, f, x, rfl, hl, hp, x0, sx, kk⟩ := h
    walk_at "go"
    refine ⟨l, n, f, 6, rfl, hl, by decide, by decide, fun r n1 H1 b1 h1 r0 r1 => ?_⟩
    walk_at "go"
    refine ⟨l, n1, f, _, rfl, h1, by omega, by omega, fun q n2 H2 b2 h2 q0 q1 => ?_⟩
    walk_at "go"
    have d3 : (1 + r).natAbs < 2 ^ 3 := by show _ < 8; omega
    refine ⟨q, 1 + r, rfl, by omega, okd_den (n := 3) (by omega) d3 (by decide), fun p2 H3 s3 np hp2 => ?_⟩
    have z2 : Fr.Sz 3 (Rat.divInt q (1 + r)) := Fr.sz_divInt (by omega) (by show _ < 8; omega) d3
    obtain ⟨u0, u1⟩ := Ru.unit (a := q) (b := 1 + r) q0 (by omega) (by omega)
    have hp3 := seqT_same s3 (seqT_but b2 h1 (seqT_but b1 hl hp))
    refine ⟨p, p2, x, _, 5, 3, rfl, hp3, hp2, sx, z2, by decide, fun p3 H4 s4 np3 hp4 sz4 => ?_⟩
    have le4 : x * Rat.divInt q (1 + r) ≤ x := by
      have := Rat.mul_le_mul_of_nonneg_left u1 (Rat.le_of_lt x0)
      rwa [Rat.mul_one] at this
    have nn4 := Rat.mul_nonneg (Rat.le_of_lt x0) u0
    refine kk p3 _ n2 H4 ((b1.trans b2).trans ((But.of s3).trans (But.of s4))) (s4 _ _ (s3 _ _ h2)) ?_ hp4 nn4 le4 sz4 ⟨nn4, le4, Gm.on_value (by omega) (by omega), sz4⟩
    cases e : H p3 with
    | none => rfl
    | some o =>
        by_cases c : p3 = l
        · subst c; rw [s3 _ _ h2] at np3; cases np3
        · rw [s3 _ _ (b2 _ _ c (b1 _ _ c e))] at np3; cases np3
end
end Lw
namespace Lw
open PySem PySem.Spec PyProof.Rows L2 Gx LamX NdefX
section
variable {P : Program} {w : World} {K : PySem.W.Frag} {mg : Str → Option Value} {base : Heap} {f : Addr} {fd : FuncData}
theorem ok__law_is (F : FnP K "_law_is" "_law_is" s__law_is f fd) (T : Txt K mg) : FnOk P w K mg base (L2.CX P w) 1 f fd ["_law_found", "_law_due"] (sp__law_is K) := by
  refine F.ok sc__law_is (fun vs H Q E h => ?_) (fun cdv A outer s H vs Q E hr h => ?_)
  · obtain ⟨u, v, rfl, _⟩ := h; rfl
  · refine ⟨_, (pss_cons (ps_if (pt_cmpR op_isNU (pv 1) pe_non (nomark _)) (pss_one (ps_ret (pe_cmpR op_isNU (pv 0) pe_non (nomark _)))) pss_nil) (pss_cons (ps_if (PW.pt (pw_or (pt_not (pt_val (pe_callB (callK (K := K) (r := rIsi) rfl call_isi) (by rfl) T.n_isinstance (by decide +kernel) (pa_cons (pv 0) (pa_cons (pe_bltn (v := .ty "tuple") (by rfl) T.n_tuple (by decide +kernel) rfl) pa_nil))))) (pw_or1 (pt_cmpR (op_neK (K := K) rfl hr) (pe_callB (callK (K := K) (r := rLenU) rfl call_lenU) (by rfl) T.n_len (by decide +kernel) (pa_cons (pv 0) pa_nil)) pe_int (nomark _))))) (pss_one (ps_ret pe_bl)) pss_nil) (pss_cons (ps_for (passes_of rfl) rfl (pi_seqU (pv 0)) (pg_name (i := 2) sc__law_is.nd rfl (Or.inl rfl)) (pss_one (ps_if (PW.pt (pw_or (pt_not (pt_val (pe_callB (callK (K := K) (r := rIsi) rfl call_isi) (by rfl) T.n_isinstance (by decide +kernel) (pa_cons (pv 2) (pa_cons (pe_bltn (v := .ty "int") (by rfl) T.n_int (by decide +kernel) rfl) pa_nil))))) (pw_or1 (pt_val (pe_callB (callK (K := K) (r := rIsi) rfl call_isi) (by rfl) T.n_isinstance (by decide +kernel) (pa_cons (pv 2) (pa_cons (pe_bltn (v := .ty "bool") (by rfl) T.n_bool (by decide +kernel) rfl) pa_nil))))))) (pss_one (ps_ret pe_bl)) pss_nil))) (pss_one (ps_ret (pe_cmpR (op_eqK (K := K) rfl hr) (pv 0) (pv 1) (nomark _))))))), ?_⟩
    obtain ⟨u, v, rfl, ⟨rfl, rfl⟩ | ⟨p, q, x, rfl, rfl, hp, hq⟩, kk⟩ := h
    · walk_at "go"
      have : decide (V.non = V.non) = true := by simp
      rw [this]
      exact kk
    walk_at "go"
    refine k_isi (.ty "tuple") (ty_tup hp) (kit_ty (r := true) (by decide +kernel)) ?_
    walk_at "go"
    refine k_lenT ?_ hp
    walk_at "go"
    refine k_ifn (fun c => absurd rfl c) (fun c => ?_)
    walk_at "go"
    refine k_itUT hp ?_
    refine k_loopT (fun i σ H' => H' = H ∧ ∃ t : Option V, σ = [some (.ref p), some (.ref q), t]) ⟨rfl, none, rfl⟩ (fun i σ H' _ h => by rw [h.1]; exact hp) ?_ ?_
    · rintro i y σ H' hy ⟨rfl, t, rfl⟩
      obtain ⟨j, rfl⟩ : ∃ j : Int, y = .int j := by
        match i, hy with
        | 0, e => exact ⟨_, (Option.some.inj e).symm⟩
        | 1, e => exact ⟨_, (Option.some.inj e).symm⟩
        | n + 2, e => simp at e
      walk_at "go"
      refine k_isi (.ty "int") (.base (.int j)) (kit_ty (r := true) (by decide +kernel)) ?_
      walk_at "go"
      refine k_isi (.ty "bool") (.base (.int j)) (kit_ty (r := false) (by decide +kernel)) ?_
      walk_at "go"
      exact ⟨rfl, _, rfl⟩
    · rintro σ H' ⟨rfl, t, rfl⟩
      walk_at "go"
      refine k_eqD (Fr.dp_fq hp) (Fr.dp_fq hq) ?_ (Fr.shaped_fq x) (Fr.shaped_fq x)
      rw [Fr.eqv_fq, decide_eq_true rfl]
      exact kk
end
end Lw
namespace Lw
open PySem PySem.Spec PyProof.Rows L2 Gx LamX NdefX
section
variable {P : Program} {w : World} {K : PySem.W.Frag} {mg : Str → Option Value} {base : Heap} {f : Addr} {fd : FuncData}
theorem ok__law_price (F : FnP K "_law_price" "_law_price" s__law_price f fd) (T : Txt K mg) (c__law_low : Cl P w K mg base 1 "_law_low" ["_law_a", "_law_b"] (sp__law_low K)) (c__law_add : Cl P w K mg base 2 "_law_add" ["_law_one", "_law_other"] (sp__law_add K)) (c__law_times : Cl P w K mg base 2 "_law_times" ["_law_one", "_law_other"] (sp__law_times K)) (c__law_sum : Cl P w K mg base 3 "_law_sum" ["_law_some"] (sp__law_sum K)) : FnOk P w K mg base (L2.CX P w) 4 f fd ["_law_many", "_law_again", "_law_past"] (sp__law_price K) := by
  refine F.ok sc__law_price (fun vs H Q E h => ?_) (fun cdv A outer s H vs Q E hr h => ?_)
  · obtain ⟨l, xs, g, rfl, _⟩ := h; rfl
  · refine ⟨_, (pss_cons (ps_if (pt_val (pv 1)) (pss_one (ps_ret (pe_tup (pa_cons pe_int (pa_cons pe_int pa_nil))))) pss_nil) (pss_cons (ps_if (pt_cmpR (op_eqK (K := K) rfl hr) (pe_callB (callK (K := K) (r := rLenU) rfl call_lenU) (by rfl) T.n_len (by decide +kernel) (pa_cons (pv 2) pa_nil)) (pv 0) (nomark _)) (pss_one (ps_ret pe_non)) pss_nil) (pss_cons (ps_set (i := 3) sc__law_price.nd rfl (Or.inl rfl) (pcall c__law_add hr (by first | decide | omega) (takes_of rfl rfl rfl rfl) (pa_cons (pe_tup (pa_cons (pv 0) (pa_cons pe_int pa_nil))) (pa_cons (pcall c__law_times hr (by first | decide | omega) (takes_of rfl rfl rfl rfl) (pa_cons (pe_tup (pa_cons (pe_un un_neg pe_int) (pa_cons pe_int pa_nil))) (pa_cons (pcall c__law_sum hr (by first | decide | omega) (takes_of rfl rfl rfl rfl) (pa_cons (pv 2) pa_nil)) pa_nil))) pa_nil)))) (pss_cons (ps_if (pt_cmpR op_lt (pe_ix (ix_K (K := K) rfl) (pv 3) pe_int (fun _ _ => rfl)) pe_int (nomark _)) (pss_one (ps_ret pe_non)) pss_nil) (pss_one (ps_ret (pcall c__law_low hr (by first | decide | omega) (takes_of rfl rfl rfl rfl) (pa_cons (pe_ix (ix_K (K := K) rfl) (pv 3) pe_int (fun _ _ => rfl)) (pa_cons (pe_op (op_mulK (K := K) rfl) (pe_ix (ix_K (K := K) rfl) (pv 3) pe_int (fun _ _ => rfl)) (pe_op op_sub (pv 0) (pe_callB (callK (K := K) (r := rLenU) rfl call_lenU) (by rfl) T.n_len (by decide +kernel) (pa_cons (pv 2) pa_nil)))) pa_nil))))))))), ?_⟩
    obtain ⟨l, xs, g, rfl, hl, fq, s, kk⟩ := h
    have hxl := fq.len
    have l60 := s.len
    walk_at "go"
    refine k_ifb (fun ea => ?_) (fun ea => ?_)
    · walk_at "go"
      refine k_tupx (fun p H1 np s1 hp => ?_) (by simp [sizeLine_eq])
      refine kk (.ref p) H1 s1 ?_
      rw [Gm.priceO_ag s ea]
      exact ⟨p, rfl, by rw [Cm.fqh]; exact SqT.of hp⟩
    have few := s.few ea
    walk_at "go"
    refine k_lenT ?_ hl
    rw [hxl]
    walk_at "go"
    refine k_if (fun c => ?_) (fun c => ?_)
    · walk_at "go"
      refine kk .non H (Same.refl H) ?_
      rw [Gm.priceO_end ea (by omega)]
      rfl
    walk_at "go"
    refine k_tupx (fun p1 H1 n1 s1 h1 => ?_) (by simp [sizeLine_eq])
    walk_at "go"
    refine k_tupx (fun p2 H2 n2 s2 h2 => ?_) (by simp [sizeLine_eq])
    walk_at "go"
    have s02 := s1.trans s2
    refine ⟨l, xs, g.vals, 8, rfl, .inr (seqT_same s02 hl), fq.same s02, fun q hq => (s.vals q hq).sz, by omega, fun p3 H3 s3 h3 z3 => ?_⟩
    walk_at "go"
    have z3' := Gm.sum_sz17 s.ts s.vals (by omega)
    refine ⟨p2, p3, -1, _, 1, 17, rfl, seqT_same s3 (SqT.of h2), h3, ⟨by decide, by decide⟩, z3', by decide, fun p4 H4 s4 n4 h4 z4 => ?_⟩
    walk_at "go"
    have nb : ((g.n : Nat) : Int).natAbs < 2 ^ 6 := by show _ < 64; have := s.n1; omega
    refine ⟨p1, p4, _, _, _, _, 6, _, rfl, seqT_same (s2.trans (s3.trans s4)) (SqT.of h1), h4, nb, by decide, z4.1, z4.den, by decide, by decide, Fr.den_pos _, fun p5 H5 s5 n5 h5 z5 => ?_⟩
    have e5 : Rat.divInt (g.n : Int) 2 + Rat.divInt (-1 * Lw.sum g.vals).num ((-1 * Lw.sum g.vals).den : Int) = (g.n : Rat) / 2 - Lw.sum g.vals := by
      rw [Rat.num_divInt_den, Rat.divInt_eq_div, Rat.intCast_natCast]
      have : ((2 : Int) : Rat) = 2 := rfl
      rw [this]
      grind
    rw [e5] at h5 z5
    walk_at "go"
    refine k_ixT h5 (v := .int _) rfl ?_
    walk_at "go"
    refine k_if (fun c2 => ?_) (fun c2 => ?_)
    · walk_at "go"
      refine kk .non H5 (s02.trans (s3.trans (s4.trans s5))) ?_
      have := Gm.num_neg.mp c2
      rw [Gm.priceO_cert s ea (by grind)]
      rfl
    walk_at "go"
    have s05 := s02.trans (s3.trans (s4.trans s5))
    refine k_ixT h5 (v := .int _) rfl ?_
    walk_at "go"
    refine k_ixT h5 (v := .int _) rfl ?_
    walk_at "go"
    refine k_lenT ?_ (seqT_same s05 hl)
    rw [hxl]
    have ed : ((g.n : Int) - ((g.vals.length : Nat) : Int)) = ((g.n - g.vals.length : Nat) : Int) := by omega
    walk_at "go"
    rw [ed]
    have db : (((g.n - g.vals.length : Nat) : Int)).natAbs < 2 ^ 6 := by show _ < 64; have := s.n1; omega
    refine k_mulB z5.den db (by decide) ?_
    walk_at "go"
    have d0 : 0 < (((g.n : Rat) / 2 - Lw.sum g.vals).den : Int) * ((g.n - g.vals.length : Nat) : Int) := Int.mul_pos (Fr.den_pos _) (by omega)
    refine ⟨_, _, rfl, d0, okd_den (by omega) (Fr.mul_lt z5.den db) (by decide), fun p6 H6 s6 n6 h6 => ?_⟩
    refine kk (.ref p6) H6 (s05.trans s6) ?_
    have nl : ¬ (g.n : Rat) / 2 < Lw.sum g.vals := fun z => c2 (Gm.num_neg.mpr (by grind))
    rw [Gm.priceO_some s ea (by omega) nl]
    refine ⟨p6, rfl, ?_⟩
    have e6 : Rat.divInt ((g.n : Rat) / 2 - Lw.sum g.vals).num ((((g.n : Rat) / 2 - Lw.sum g.vals).den : Int) * ((g.n - g.vals.length : Nat) : Int)) = ((g.n : Rat) / 2 - Lw.sum g.vals) / ((g.n - g.vals.length : Nat) : Rat) := by
      rw [← Fr.div_eq ((g.n : Rat) / 2 - Lw.sum g.vals) ((g.n - g.vals.length : Nat) : Rat)]
      show _ = Rat.divInt (_ * 1) _
      rw [Int.mul_one]
      rfl
    rw [e6] at h6
    exact h6
end
end Lw
namespace Lw
open PySem PySem.Spec PyProof.Rows L2 Gx LamX NdefX
section
variable {P : Program} {w : World} {K : PySem.W.Frag} {mg : Str → Option Value} {base : Heap} {f : Addr} {fd : FuncData}
theorem ok__law_behind (F : FnP K "_law_behind" "_law_behind" s__law_behind f fd) (T : Txt K mg) (c__law_times : Cl P w K mg base 2 "_law_times" ["_law_one", "_law_other"] (sp__law_times K)) (c__law_add : Cl P w K mg base 2 "_law_add" ["_law_one", "_law_other"] (sp__law_add K)) (c__law_low : Cl P w K mg base 1 "_law_low" ["_law_a", "_law_b"] (sp__law_low K)) (c_law___law_good : CloCl P w K mg base 1 IsF_law___law_good ["_law_past"] ["_law_parts"] (sp_law___law_good K)) (c__law_sum : Cl P w K mg base 3 "_law_sum" ["_law_some"] (sp__law_sum K)) (c__law_price : Cl P w K mg base 4 "_law_price" ["_law_many", "_law_again", "_law_past"] (sp__law_price K)) : FnOk P w K mg base (L2.CX P w) 5 f fd ["_law_rule", "_law_many", "_law_again", "_law_top_here", "_law_past", "_law_worth", "_law_value_here"] (sp__law_behind K) := by
  refine F.ok sc__law_behind (fun vs H Q E h => ?_) (fun cdv A outer s H vs Q E hr h => ?_)
  · obtain ⟨a, t, l, p, u, w, xs, us, g, v, G, o, ps, bad, rfl, _⟩ := h; rfl
  · refine ⟨_, (pss_cons (ps_set (i := 7) sc__law_behind.nd rfl (Or.inl rfl) (pcall c__law_price hr (by first | decide | omega) (takes_of rfl rfl rfl rfl) (pa_cons (pv 1) (pa_cons (pv 2) (pa_cons (pv 4) pa_nil))))) (pss_cons (ps_if (PW.pt (pw_or (pt_cmpR op_isNU (pv 5) pe_non (nomark _)) (pw_or1 (pt_cmpR op_isNU (pv 7) pe_non (nomark _))))) (pss_one (ps_ret pe_non)) pss_nil) (pss_cons (ps_set (i := 8) sc__law_behind.nd rfl (Or.inl rfl) (pcall c__law_sum hr (by first | decide | omega) (takes_of rfl rfl rfl rfl) (pa_cons (pe_op (op_addK (K := K) rfl) (pv 4) (pe_tup (pa_cons (pv 6) pa_nil))) pa_nil))) (pss_cons (ps_if (PW.pt (pw_and (pt_not (pt_val (pv 2))) (pw_and1 (pt_cmpR op_gt (pe_op (op_mulK (K := K) rfl) (pe_ix (ix_K (K := K) rfl) (pv 8) pe_int (fun _ _ => rfl)) pe_int) (pe_op (op_mulK (K := K) rfl) (pv 1) (pe_ix (ix_K (K := K) rfl) (pv 8) pe_int (fun _ _ => rfl))) (nomark _))))) (pss_one (ps_ret pe_non)) pss_nil) (pss_cons (ps_if (pt_cmpR (op_eqK (K := K) rfl hr) (pv 7) (pe_tup (pa_cons pe_int (pa_cons pe_int pa_nil))) (nomark _)) (pss_one (ps_ret (pv 5))) pss_nil) (pss_cons (ps_set (i := 9) sc__law_behind.nd rfl (Or.inl rfl) (pnmcall c_law___law_good hr (by first | decide | omega) (pv 0) (pa_cons (pv 4) pa_nil))) (pss_cons (ps_set (i := 10) sc__law_behind.nd rfl (Or.inl rfl) (pcall c__law_low hr (by first | decide | omega) (takes_of rfl rfl rfl rfl) (pa_cons (pe_op (op_mulK (K := K) rfl) (pe_ix (ix_K (K := K) rfl) (pv 6) pe_int (fun _ _ => rfl)) (pe_ix (ix_K (K := K) rfl) (pv 7) pe_int (fun _ _ => rfl))) (pa_cons (pe_op (op_mulK (K := K) rfl) (pe_ix (ix_K (K := K) rfl) (pv 6) pe_int (fun _ _ => rfl)) (pe_ix (ix_K (K := K) rfl) (pv 7) pe_int (fun _ _ => rfl))) pa_nil)))) (pss_one (ps_ret (pcall c__law_times hr (by first | decide | omega) (takes_of rfl rfl rfl rfl) (pa_cons (pv 5) (pa_cons (pcall c__law_add hr (by first | decide | omega) (takes_of rfl rfl rfl rfl) (pa_cons (pcall c__law_add hr (by first | decide | omega) (takes_of rfl rfl rfl rfl) (pa_cons (pe_tup (pa_cons pe_int (pa_cons pe_int pa_nil))) (pa_cons (pe_tup (pa_cons (pe_op op_sub pe_int (pe_ix (ix_K (K := K) rfl) (pv 9) pe_int (fun _ _ => rfl))) (pa_cons (pe_ix (ix_K (K := K) rfl) (pv 9) pe_int (fun _ _ => rfl)) pa_nil))) pa_nil))) (pa_cons (pcall c__law_times hr (by first | decide | omega) (takes_of rfl rfl rfl rfl) (pa_cons (pv 9) (pa_cons (pv 10) pa_nil))) pa_nil))) pa_nil)))))))))))), ?_⟩
    obtain ⟨a, t, l, p, u, w, xs, us, g, v, G, o, ps, bad, rfl, hgd, eR, ht, hl, fq, hw, hp, s, op, l60, hv, kk⟩ := h
    walk_at "go"
    refine ⟨l, xs, g, rfl, hl, fq, s, fun pv H1 s1 hpv => ?_⟩
    walk_at "go"
    cases nc : g.cert with
    | true =>
      rw [show Gm.worthO g = none from if_pos nc] at hw
      obtain rfl : w = .non := hw
      walk_at "go"
      refine kk .non H1 s1 ?_
      rw [show Gm.worthO (Gm.play g v) = none from if_pos (by show Gm.certBehind g v = true; unfold Gm.certBehind; rw [nc]; rfl)]
      rfl
    | false =>
    rw [show Gm.worthO g = some g.now from if_neg (by rw [nc]; decide)] at hw
    obtain ⟨pw, rfl, hw⟩ := hw
    rw [Gm.alive_price nc op] at hpv
    obtain ⟨pp, rfl, hpp⟩ := hpv
    walk_at "go"
    refine k_tupx (fun p1 H2 n2 s2 h2 => ?_) (by simp [sizeLine_eq])
    walk_at "go"
    have s02 := s1.trans s2
    have hxl := fq.len
    refine k_addT1 (seqT_same s02 hl) (SqT.of h2) (by rw [sizeLine_eq]; omega) (fun p2 H3 s3 h3 => ?_)
    walk_at "go"
    have s03 := s02.trans s3
    have fq3 : Fqs K H3 (xs ++ [.ref p]) (g.vals ++ [v]) := Fqs.snoc (seqT_same s03 hp) (fq.same s03)
    have vals' : ∀ q ∈ g.vals ++ [v], Gm.Vok g.top q := fun q hq => by
      rcases List.mem_append.mp hq with h | h
      · exact s.vals q h
      · rw [List.mem_singleton.mp h]; exact hv
    have len' : (g.vals ++ [v]).length = g.vals.length + 1 := by simp
    refine ⟨p2, _, g.vals ++ [v], 8, rfl, .inr h3, fq3, fun q hq => (vals' q hq).sz, by rw [len']; omega, fun p3 H4 s4 h4 _ => ?_⟩
    have z4 := Gm.sum_sz17 s.ts vals' (by omega)
    refine k_gn ?_
    dsimp only
    have s04 := s03.trans s4
    have cb : ∀ b, decide ((g.n : Rat) / 2 < Lw.sum (g.vals ++ [v])) = b → Gm.certBehind g v = (!g.ag && b) := fun b e => by
      unfold Gm.certBehind
      rw [nc, e]
      rfl
    have nb : ((g.n : Nat) : Int).natAbs < 2 ^ 6 := by show _ < 64; have := s.n1; omega
    have none_ : Gm.certBehind g v = true → Gm.worthO (Gm.play g v) = none := fun e => if_pos e
    have some_ : Gm.certBehind g v = false → Gm.worthO (Gm.play g v) = some (Gm.behind g v) := fun e => by
      show (if Gm.certBehind g v = true then none else some (if g.cert = true then g.now else Gm.behind g v)) = _
      rw [if_neg (by rw [e]; decide), if_neg (by rw [nc]; decide)]
    refine k_evT (fun b H' => H' = H4 ∧ b = Gm.certBehind g v) (fun Q' kq => ?_) ?_
    · cases ea : g.ag with
      | true =>
        walk_at "go"
        exact kq _ H4 ⟨rfl, by rw [cb _ rfl, ea]; rfl⟩
      | false =>
        walk_at "go"
        refine k_ixT h4 (v := .int _) rfl ?_
        walk_at "go"
        refine k_mulB z4.1 (m := 17) (n := 2) (by decide) (by decide) ?_
        walk_at "go"
        refine k_ixT h4 (v := .int _) rfl ?_
        walk_at "go"
        refine k_mulB nb z4.den (by decide) ?_
        walk_at "go"
        refine kq _ H4 ⟨rfl, ?_⟩
        rw [cb _ rfl, ea]
        show _ = (true && _)
        rw [Bool.true_and, decide_eq_decide]
        exact Gm.half_lt.symm
    rintro b H5 ⟨rfl, rfl⟩
    refine k_ifb (fun ec => ?_) (fun ec => ?_)
    · walk_at "go"
      refine kk .non H5 s04 ?_
      rw [none_ ec]
      rfl
    rw [some_ ec] at kk
    walk_at "go"
    refine k_tupx (fun p4 H6 n6 s6 h6 => ?_) (by simp [sizeLine_eq])
    walk_at "go"
    have s14 := s2.trans (s3.trans s4)
    have hpp6 := seqT_same (s14.trans s6) hpp
    have s06 := s04.trans s6
    refine k_eqD (Fr.dp_fq hpp6) (Fr.dp_fq (q := 0) (by rw [Cm.fq0]; exact SqT.of h6)) ?_ (Fr.shaped_fq _) (Fr.shaped_fq _)
    rw [Fr.eqv_fq]
    walk_at "go"
    refine k_if (fun e => ?_) (fun ne => ?_)
    · walk_at "go"
      refine kk _ H6 s06 ⟨pw, rfl, ?_⟩
      rw [show Gm.behind g v = g.now from if_pos e]
      exact seqT_same s06 hw
    have zp := Gm.price_sz s op
    have p0 : 0 < Gm.price g := by
      have := Gm.price_nn s nc op
      grind
    have zs := Gm.stake_sz7 s op
    have nnv : ∀ q ∈ g.vals, 0 ≤ q := fun q hq => (s.vals q hq).nn
    have hgd6 := hgd.imm (imm_same s06)
    walk_at "go"
    refine k_valcallx hgd6.clo.fn ?_
    walk_at "go"
    refine hgd6.call (seqT_same s06 hl) (fq.same s06) (by omega) (fun st H7 e7 hst => ?_)
    have es : Gm.toldBy Gm.numN ps g.vals = Gm.stake g := by
      unfold Gm.stake
      rw [eR]
      show _ = Gm.phi bad ps g.vals
      rw [Gm.phi_past nnv]
    rw [es] at hst
    have i7 := imm_same e7
    have hp7 := seqT_imm i7 (seqT_same s06 hp)
    have hpp7 := seqT_imm i7 hpp6
    have pn := Cm.num_pos p0
    walk_at "go"
    refine k_ixT hp7 (v := .int _) rfl ?_
    walk_at "go"
    refine k_ixT hpp7 (v := .int _) rfl ?_
    walk_at "go"
    refine k_mulB hv.sz.1 zp.den (by decide) ?_
    walk_at "go"
    refine k_ixT hp7 (v := .int _) rfl ?_
    walk_at "go"
    refine k_ixT hpp7 (v := .int _) rfl ?_
    walk_at "go"
    refine k_mulB hv.sz.den zp.1 (by decide) ?_
    walk_at "go"
    have d8 := Int.mul_pos (Fr.den_pos v) pn
    have m8 := Fr.mul_lt hv.sz.den zp.1
    refine ⟨_, _, rfl, d8, okd_den (by omega) m8 (by decide), fun p8 H8 s8 n8 h8 => ?_⟩
    rw [Fr.div_eq] at h8
    have z8 := hv.sz.div zp
    walk_at "go"
    refine k_tupx (fun p9 H9 n9 s9 h9 => ?_) (by simp [sizeLine_eq])
    walk_at "go"
    have s79 := s8.trans s9
    refine k_ixT (seqT_same s79 hst) (v := .int _) rfl ?_
    walk_at "go"
    refine k_ixT (seqT_same s79 hst) (v := .int _) rfl ?_
    walk_at "go"
    refine k_tupx (fun p10 H10 n10 s10 h10 => ?_) (by simp [sizeLine_eq])
    walk_at "go"
    have sn : Fr.Sz 105 (-Gm.stake g) := ⟨by rw [Rat.neg_num, Int.natAbs_neg]; exact zs.1, by rw [Rat.neg_den]; exact zs.2⟩
    refine add_fq (x := 1) (y := -Gm.stake g) (m := 1) (seqT_same s10 (by rw [Cm.fq1]; exact SqT.of h9)) (by rw [Ru.neg_fq]; exact SqT.of h10) (Ru.sz1 (by decide)) sn (by decide) (fun p11 H11 s11 n11 h11 z11 => ?_)
    walk_at "go"
    have s7b := s79.trans (s10.trans s11)
    refine ⟨st, p8, _, _, 105, _, rfl, seqT_same s7b hst, seqT_same (s9.trans (s10.trans s11)) h8, zs, z8, by decide, fun p12 H12 s12 n12 h12 z12 => ?_⟩
    walk_at "go"
    refine add_fq (seqT_same s12 h11) h12 z11 z12 (by decide) (fun p13 H13 s13 n13 h13 z13 => ?_)
    walk_at "go"
    have s7d := s7b.trans (s12.trans s13)
    have zn := s.now nc
    refine ⟨pw, p13, _, _, _, _, rfl, seqT_same s7d (seqT_imm i7 (seqT_same s06 hw)), h13, zn, z13, by omega, fun p14 H14 s14' n14 h14 z14 => ?_⟩
    have s7e := s7d.trans s14'
    refine kk _ H14 (s06.trans (e7.trans s7e)) ⟨p14, rfl, ?_⟩
    have e : Gm.behind g v = g.now * (1 + -Gm.stake g + Gm.stake g * (v / Gm.price g)) := by
      rw [show Gm.behind g v = g.now * Gm.grow (Gm.stake g) v (Gm.price g) from if_neg ne]
      unfold Gm.grow
      rw [Rat.sub_eq_add_neg, Rat.div_def, Rat.div_def, Rat.mul_assoc]
    rw [e]
    exact h14
end
end Lw
namespace Lw
open PySem PySem.Spec PyProof.Rows L2 Gx LamX NdefX
section
variable {P : Program} {w : World} {K : PySem.W.Frag} {mg : Str → Option Value} {base : Heap} {f : Addr} {fd : FuncData}
theorem ok__law_played (F : FnP K "_law_played" "_law_played" s__law_played f fd) (T : Txt K mg) (m_Game_play : MCl P w K mg base 6 "Game" "play" ["self", "value"] (sp_Game_play K)) : FnOk P w K mg base (L2.CX P w) 7 f fd ["_law_game", "_law_value_here"] (sp__law_played K) := by
  refine F.ok sc__law_played (fun vs H Q E h => ?_) (fun cdv A outer s H vs Q E hr h => ?_)
  · obtain ⟨a, l, p, g, v, φ, rfl, _⟩ := h; rfl
  · refine ⟨_, (pss_cons (ps_set (i := 2) sc__law_played.nd rfl (Or.inl rfl) (pe_lst pa_nil)) (pss_cons (ps_try_as (i := 3) rfl rfl sc__law_played.nd rfl rfl ⟨rfl, by decide, Or.inl T.g_SureError⟩ (takes_of rfl rfl rfl rfl) (fun W pn xe tk po => (pss_one (ps_expr (pmeth rfl m_Game_play hr (by first | decide | omega) tk (pv 0) (pa_cons (pv 1) pa_nil))))) (fun a oe cls d pn hz hf => (pss_cons (ps_set (i := 2) sc__law_played.nd rfl (Or.inl rfl) (pe_lst (pa_cons (pe_callB (call_isEU hz hf) (by rfl) T.n_isinstance (by decide +kernel) (pa_cons (pv 3) (pa_cons (C8.pe_gc (v := .ref (He.ga K "NoStake")) (by rfl) T.c_NoStake) pa_nil))) (pa_cons (pe_callB (call_isEU hz hf) (by rfl) T.n_isinstance (by decide +kernel) (pa_cons (pv 3) (pa_cons (C8.pe_gc (v := .ref (He.ga K "Ended")) (by rfl) T.c_Ended) pa_nil))) (pa_cons (pe_callB (call_isEU hz hf) (by rfl) T.n_isinstance (by decide +kernel) (pa_cons (pv 3) (pa_cons (pe_bltn (v := .ty "ValueError") (by rfl) T.n_ValueError (by decide +kernel) rfl) pa_nil))) pa_nil))))) (pss_cons (ps_expr (pe_bmK (K := K) rfl PySem.F.plainAttrs_list PySem.F.slot_list_append PySem.F.type_list_append mt_append (pv 2) (pa_cons (pe_callB (call_isET hz hf) (by rfl) T.n_isinstance (by decide +kernel) (pa_cons (pv 3) (pa_cons (pe_tup (pa_cons (C8.pe_gc (v := .ref (He.ga K "NoBallot")) (by rfl) T.c_NoBallot) (pa_cons (C8.pe_gc (v := .ref (He.ga K "NoFraction")) (by rfl) T.c_NoFraction) (pa_cons (C8.pe_gc (v := .ref (He.ga K "NoMargin")) (by rfl) T.c_NoMargin) (pa_cons (C8.pe_gc (v := .ref (He.ga K "NoName")) (by rfl) T.c_NoName) (pa_cons (C8.pe_gc (v := .ref (He.ga K "NoNumber")) (by rfl) T.c_NoNumber) (pa_cons (C8.pe_gc (v := .ref (He.ga K "NoOutcome")) (by rfl) T.c_NoOutcome) (pa_cons (C8.pe_gc (v := .ref (He.ga K "NoRow")) (by rfl) T.c_NoRow) (pa_cons (C8.pe_gc (v := .ref (He.ga K "NoText")) (by rfl) T.c_NoText) pa_nil))))))))) pa_nil))) pa_nil))) (pss_cons (ps_expr (pe_bmK (K := K) rfl PySem.F.plainAttrs_list PySem.F.slot_list_append PySem.F.type_list_append mt_append (pv 2) (pa_cons (pe_callB (call_isEU hz hf) (by rfl) T.n_isinstance (by decide +kernel) (pa_cons (pv 3) (pa_cons (C8.pe_gc (v := .ref (He.ga K "TooMany")) (by rfl) T.c_TooMany) pa_nil))) pa_nil))) (pss_one (ps_if (pt_val (pe_ix (ix_K (K := K) rfl) (pv 2) pe_int (fun _ _ => rfl))) (pss_one (ps_expr (pe_bmK (K := K) rfl PySem.F.plainAttrs_list PySem.F.slot_list_append PySem.F.type_list_append mt_append (pv 2) (pa_cons (pe_xf T.xf_NoStake T.f_NoStake_turn hz hf (pv 3)) pa_nil)))) pss_nil))))))) (pss_one (ps_ret (pv 2))))), ?_⟩
    obtain ⟨a, l, p, g, v, φ, rfl, gat, hp, eR, nn, h⟩ := h
    obtain ⟨dxg, fsg, _, hi0⟩ := gat.ins
    walk_at "go"
    refine k_lstx (fun w0 H1 n0 s1 hw0 => ?_) (by simp)
    have gat1 := gat.same s1
    have hi1 := s1 _ _ hi0
    walk_at "go"
    refine k_methx hi1 (gat1.look hi1 (by decide +kernel)) ?_
    walk_at "go"
    rcases h with ⟨en, kk⟩ | ⟨b, c, tt, z, fit, nc, no, kk⟩ | ⟨b, c, tt, z, fit, good, kk⟩
    · refine ⟨a, l, p, g, v, φ, rfl, gat1, seqT_same s1 hp, eR, nn, .inl ⟨en, ?_⟩⟩
      refine ⟨true, T.m_Ended_SureError, fun _ b' nb => ?_, fun z => (nomatch z)⟩
      walk_at "go"
      refine k_isE T.e_Ended T.i_Ended_NoStake (fun _ h => h) ?_
      walk_at "go"
      refine k_isE T.e_Ended T.i_Ended_Ended (fun _ h => h) ?_
      walk_at "go"
      refine k_isE T.e_Ended T.i_Ended_ValueError (fun _ h => h) ?_
      walk_at "go"
      refine k_lstx (fun w1 H3 n1 s3 hw1 => ?_) (by simp [sizeLine_eq])
      walk_at "go"
      refine ⟨k_app0 hw1, ?_⟩
      walk_at "go"
      refine k_tupx (fun tp H4 n4 s4 htp => ?_) (by simp [sizeLine_eq])
      walk_at "go"
      refine k_isET T.e_Ended htp (.cons (.own _) (.cons (.own _) (.cons (.own _) (.cons (.own _) (.cons (.own _) (.cons (.own _) (.cons (.own _) (.cons (.own _) .nil)))))))) (kanyF T.i_Ended_NoBallot (kanyF T.i_Ended_NoFraction (kanyF T.i_Ended_NoMargin (kanyF T.i_Ended_NoName (kanyF T.i_Ended_NoNumber (kanyF T.i_Ended_NoOutcome (kanyF T.i_Ended_NoRow (kanyF T.i_Ended_NoText kany0)))))))) ?_
      walk_at "go"
      refine k_app1 (s4 _ _ hw1) (by simp [sizeLine_eq]) (fun H5 b5 hw5 => ?_)
      walk_at "go"
      refine ⟨k_app0 hw5, ?_⟩
      walk_at "go"
      refine k_isE T.e_Ended T.i_Ended_TooMany (fun _ h => h) ?_
      walk_at "go"
      refine k_app1 hw5 (by simp [sizeLine_eq]) (fun H6 b6 hw6 => ?_)
      walk_at "go"
      refine k_ixL (SqL.of hw6) (i := ((0 : Nat) : Int)) (v := .bl false) rfl ?_
      walk_at "go"
      have nb1 : H w1 = none := s1.free n1
      refine kk w1 H6 (fun x o q => ?_) hw6
      have x1 : x ≠ w1 := fun e => by subst e; rw [nb1] at q; cases q
      exact b6 _ _ x1 (b5 _ _ x1 ((s3.trans s4) _ _ (s1 _ _ q)))
    · refine ⟨a, l, p, g, v, φ, rfl, gat1, seqT_same s1 hp, eR, nn, .inr (.inl ⟨b, c, tt, z, fit, nc, no, fun d H2 s2 hd => ?_⟩)⟩
      refine ⟨true, T.m_NoStake_SureError, fun _ b' nb => ?_, fun z => (nomatch z)⟩
      walk_at "go"
      refine k_isED hd T.e_NoStake T.i_NoStake_NoStake (fun _ h => h) ?_
      walk_at "go"
      refine k_isED hd T.e_NoStake T.i_NoStake_Ended (fun _ h => h) ?_
      walk_at "go"
      refine k_isED hd T.e_NoStake T.i_NoStake_ValueError (fun _ h => h) ?_
      walk_at "go"
      refine k_lstx (fun w1 H3 n1 s3 hw1 => ?_) (by simp [sizeLine_eq])
      walk_at "go"
      refine ⟨k_app0 hw1, ?_⟩
      walk_at "go"
      refine k_tupx (fun tp H4 n4 s4 htp => ?_) (by simp [sizeLine_eq])
      walk_at "go"
      refine k_isETD ((s3.trans s4) _ _ hd) T.e_NoStake htp (.cons (.own _) (.cons (.own _) (.cons (.own _) (.cons (.own _) (.cons (.own _) (.cons (.own _) (.cons (.own _) (.cons (.own _) .nil)))))))) (kanyF T.i_NoStake_NoBallot (kanyF T.i_NoStake_NoFraction (kanyF T.i_NoStake_NoMargin (kanyF T.i_NoStake_NoName (kanyF T.i_NoStake_NoNumber (kanyF T.i_NoStake_NoOutcome (kanyF T.i_NoStake_NoRow (kanyF T.i_NoStake_NoText kany0)))))))) ?_
      walk_at "go"
      refine k_app1 (s4 _ _ hw1) (by simp [sizeLine_eq]) (fun H5 b5 hw5 => ?_)
      have hd5 := b5 _ _ (ne_of ((s3.trans s4) _ _ hd) (s4 _ _ hw1) (by intro z; cases z)) ((s3.trans s4) _ _ hd)
      walk_at "go"
      refine ⟨k_app0 hw5, ?_⟩
      walk_at "go"
      refine k_isED hd5 T.e_NoStake T.i_NoStake_TooMany (fun _ h => h) ?_
      walk_at "go"
      refine k_app1 hw5 (by simp [sizeLine_eq]) (fun H6 b6 hw6 => ?_)
      have hd6 := b6 _ _ (ne_of hd5 hw5 (by intro z; cases z)) hd5
      walk_at "go"
      refine k_ixL (SqL.of hw6) (i := ((0 : Nat) : Int)) (v := .bl true) rfl ?_
      walk_at "go"
      refine ⟨k_app0 hw6, ?_⟩
      walk_at "go"
      refine k_xfx hd6 ?_
      walk_at "go"
      refine k_app1 hw6 (by simp [sizeLine_eq]) (fun H7 b7 hw7 => ?_)
      walk_at "go"
      have s12 := s1.trans s2
      have nb1 : H w1 = none := s12.free n1
      refine kk w1 H7 (fun x o q => ?_) hw7
      have x1 : x ≠ w1 := fun e => by subst e; rw [nb1] at q; cases q
      exact b7 _ _ x1 (b6 _ _ x1 (b5 _ _ x1 ((s3.trans s4) _ _ (s12 _ _ q))))
    refine ⟨a, l, p, g, v, φ, rfl, gat1, seqT_same s1 hp, eR, nn, .inr (.inr ⟨b, c, tt, z, fit, good, fun H2 b2 gat2 => ?_⟩)⟩
    walk_at "go"
    obtain ⟨vs0, hl0⟩ := gat.lst
    have nwa : w0 ≠ a := fun e => by subst e; rw [hi0] at n0; cases n0
    have nwl : w0 ≠ l := fun e => by subst e; rw [hl0] at n0; cases n0
    exact kk w0 H2 ((But2.of s1).trans b2) (b2 _ _ nwa nwl hw0) gat2
end
end Lw
namespace Lw
open PySem PySem.Spec PyProof.Rows L2 Gx LamX NdefX
section
variable {P : Program} {w : World} {K : PySem.W.Frag} {mg : Str → Option Value} {base : Heap} {f : Addr} {fd : FuncData}
theorem ok__law_stands (F : FnP K "_law_stands" "_law_stands" s__law_stands f fd) (T : Txt K mg) (m_Game_reached : MCl P w K mg base 4 "Game" "reached" ["self", "limit"] (sp_Game_reached K)) (m_Game_turns : MCl P w K mg base 1 "Game" "turns" ["self"] (sp_Game_turns K)) (m_Game_past : MCl P w K mg base 1 "Game" "past" ["self"] (sp_Game_past K)) (c__law_is : Cl P w K mg base 1 "_law_is" ["_law_found", "_law_due"] (sp__law_is K)) (m_Game_worth : MCl P w K mg base 1 "Game" "worth" ["self"] (sp_Game_worth K)) (m_Game_price : MCl P w K mg base 4 "Game" "price" ["self"] (sp_Game_price K)) (c__law_price : Cl P w K mg base 4 "_law_price" ["_law_many", "_law_again", "_law_past"] (sp__law_price K)) : FnOk P w K mg base (L2.CX P w) 5 f fd ["_law_game", "_law_many", "_law_again", "_law_worth", "_law_past"] (sp__law_stands K) := by
  refine F.ok sc__law_stands (fun vs H Q E h => ?_) (fun cdv A outer s H vs Q E hr h => ?_)
  · obtain ⟨a, l, t, w, xs, g, rfl, _⟩ := h; rfl
  · refine ⟨_, (pss_cons (ps_set (i := 5) sc__law_stands.nd rfl (Or.inl rfl) (pcall c__law_price hr (by first | decide | omega) (takes_of rfl rfl rfl rfl) (pa_cons (pv 1) (pa_cons (pv 2) (pa_cons (pv 4) pa_nil))))) (C8.pss_cut (ps_if (pt_cmpR op_isNU (pv 3) pe_non (nomark _)) (pss_one (ps_set (i := 5) sc__law_stands.nd rfl (Or.inl rfl) pe_non)) pss_nil) (pss_cons (ps_if (PW.pt (pw_or (pt_not (pt_val (pcall c__law_is hr (by first | decide | omega) (takes_of rfl rfl rfl rfl) (pa_cons (pmeth0 rfl m_Game_price hr (by first | decide | omega) (takes_of rfl rfl rfl rfl) (pv 0)) (pa_cons (pv 5) pa_nil))))) (pw_or1 (pt_not (pt_val (pcall c__law_is hr (by first | decide | omega) (takes_of rfl rfl rfl rfl) (pa_cons (pmeth0 rfl m_Game_worth hr (by first | decide | omega) (takes_of rfl rfl rfl rfl) (pv 0)) (pa_cons (pv 3) pa_nil)))))))) (pss_one (ps_ret pe_bl)) pss_nil) (pss_one (ps_ret (pe_and (pe_cmpR (op_eqK (K := K) rfl hr) (pmeth0 rfl m_Game_past hr (by first | decide | omega) (takes_of rfl rfl rfl rfl) (pv 0)) (pv 4) (nomark _)) (pe_and (pe_cmpR (op_eqK (K := K) rfl hr) (pmeth0 rfl m_Game_turns hr (by first | decide | omega) (takes_of rfl rfl rfl rfl) (pv 0)) (pe_callB (callK (K := K) (r := rLenU) rfl call_lenU) (by rfl) T.n_len (by decide +kernel) (pa_cons (pv 4) pa_nil)) (nomark _)) (pe_one (pe_cmpR op_isBlU (pmeth rfl m_Game_reached hr (by first | decide | omega) (takes_of rfl rfl rfl rfl) (pv 0) (pa_cons (pe_tup (pa_cons pe_int (pa_cons pe_int pa_nil))) pa_nil)) pe_bl (nomark _)))))))))), ?_⟩
    obtain ⟨a, l, t, w, xs, g, rfl, gat, s, rch, hw, ht, fq, kk⟩ := h
    have hxl := fq.len
    walk_at "go"
    refine ⟨t, xs, g, rfl, ht, fq, s, fun pv H1 s1 hpv => ?_⟩
    refine k_gn ?_
    dsimp only
    refine k_cut (fun σ H' => ∃ pv : V, σ = [some (.ref a), some (.int (g.n : Int)), some (.bl g.ag), some w, some (.ref t), some pv] ∧ Same H H' ∧ PrO K H' pv (Gm.priceO g)) ?_ ?_
    · cases nc : g.cert with
      | true =>
        rw [show Gm.worthO g = none from if_pos nc] at hw
        obtain rfl : w = .non := hw
        walk_at "go"
        refine ⟨_, rfl, s1, ?_⟩
        rw [show Gm.priceO g = none from if_pos (by rw [nc]; rfl)]
        rfl
      | false =>
        rw [show Gm.worthO g = some g.now from if_neg (by rw [nc]; decide)] at hw
        obtain ⟨pw, rfl, hw⟩ := hw
        walk_at "go"
        exact ⟨_, rfl, s1, hpv⟩
    rintro σ H2 ⟨pv, rfl, s2, hpv⟩
    walk_at "go"
    have gat2 := gat.same s2
    obtain ⟨dx, t0, r0, s0, now0, m0, vs0, G2⟩ := id gat2
    refine k_methx G2.ins (by walk_at "lz") ?_
    walk_at "go"
    refine ⟨a, l, g, 17, rfl, gat2, Gm.sum_sz17 s.ts s.vals (by have := s.len; omega), by decide, s.n1, s.few, fun u H3 s3 hu => ?_⟩
    walk_at "go"
    refine is_pro hu (hpv.same s3) ?_
    have s03 := s2.trans s3
    have gat3 := gat.same s03
    have G3 := G2.same s3
    walk_at "go"
    refine k_methx G3.ins (by walk_at "lz") ?_
    walk_at "go"
    refine ⟨a, l, g, rfl, gat3, fun u2 hu2 => ?_⟩
    walk_at "go"
    refine is_pro hu2 (hw.same s03) ?_
    walk_at "go"
    refine k_methx G3.ins (by walk_at "lz") ?_
    walk_at "go"
    refine ⟨a, l, g, rfl, gat3, fun p1 xs1 H4 s4 h1 f1 => ?_⟩
    have s04 := s03.trans s4
    walk_at "go"
    have shv : Dt.Sh 2 (.tuple (g.vals.map Fr.fqd)) := Dt.sh_tup fun d hd => by
      obtain ⟨q, _, rfl⟩ := List.mem_map.mp hd
      exact Dt.sh_tup fun d hd => by
        rcases List.mem_cons.mp hd with rfl | h
        · exact Dt.sh_int _
        · rw [List.mem_singleton.mp h]; exact Dt.sh_int _
    refine k_eqD (.tup h1 f1.dp) (.tup (seqT_same s04 ht) (fq.same s04).dp) ?_ shv.ok shv.ok
    rw [Dt.refl shv]
    walk_at "go"
    have G4 := G3.same s4
    refine k_methx G4.ins (by walk_at "lz") ?_
    walk_at "go"
    refine ⟨a, l, g, rfl, gat.same s04, ?_⟩
    walk_at "go"
    refine k_lenT ?_ (seqT_same s04 ht)
    rw [hxl]
    walk_at "go"
    rw [decide_eq_true rfl]
    walk_at "go"
    refine k_methx G4.ins (by walk_at "lz") ?_
    walk_at "go"
    refine k_tupx (fun p5 H5 n5 s5 h5 => ?_) (by simp [sizeLine_eq])
    walk_at "go"
    have sl := s.len
    refine ⟨a, l, p5, g, 1, 132 * g.vals.length + 1, 1, rfl, gat.same (s04.trans s5), by rw [Cm.fq1]; exact SqT.of h5, s.most, Ru.sz1 (by decide), .inl (by omega), fun H6 s6 => ?_⟩
    rw [rch]
    walk_at "go"
    exact kk H6 (s04.trans (s5.trans s6))
end
end Lw
namespace Lw
open PySem PySem.Spec PyProof.Rows L2 Gx LamX NdefX
section
variable {P : Program} {w : World} {K : PySem.W.Frag} {mg : Str → Option Value} {base : Heap} {f : Addr} {fd : FuncData}
theorem ok__law_twice (F : FnP K "_law_twice" "_law_twice" s__law_twice f fd) (T : Txt K mg) (c__law_stands : Cl P w K mg base 5 "_law_stands" ["_law_game", "_law_many", "_law_again", "_law_worth", "_law_past"] (sp__law_stands K)) (c__law_played : Cl P w K mg base 7 "_law_played" ["_law_game", "_law_value_here"] (sp__law_played K)) : FnOk P w K mg base (L2.CX P w) 8 f fd ["_law_game", "_law_kind", "_law_worth", "_law_past", "_law_value_here", "_law_due"] (sp__law_twice K) := by
  refine F.ok sc__law_twice (fun vs H Q E h => ?_) (fun cdv A outer s H vs Q E hr h => ?_)
  · obtain ⟨a, l, kp, tt, t, p, dp, w, xs, g, v, φ, st, rfl, _⟩ := h; rfl
  · refine ⟨_, (pss_cons (ps_for (passes_of rfl) rfl (pi_range1 rfl T.n_range (pa_cons pe_int pa_nil)) (pg_name (i := 6) sc__law_twice.nd rfl (Or.inl rfl)) (pss_one (ps_if (PW.pt (pw_or (pt_cmpR (op_neK (K := K) rfl hr) (pcall c__law_played hr (by first | decide | omega) (takes_of rfl rfl rfl rfl) (pa_cons (pv 0) (pa_cons (pv 4) pa_nil))) (pv 5) (nomark _)) (pw_or1 (pt_not (pt_val (pcall c__law_stands hr (by first | decide | omega) (takes_of rfl rfl rfl rfl) (pa_cons (pv 0) (pa_cons (pe_ix (ix_K (K := K) rfl) (pv 1) pe_int (fun _ _ => rfl)) (pa_cons (pe_ix (ix_K (K := K) rfl) (pv 1) pe_int (fun _ _ => rfl)) (pa_cons (pv 2) (pa_cons (pv 3) pa_nil))))))))))) (pss_one (ps_ret pe_bl)) pss_nil))) (pss_one (ps_ret pe_bl))), ?_⟩
    obtain ⟨a, l, kp, tt, t, p, dp, w, xs, g, v, φ, st, rfl, gat, s, rch, hkp, hw, ht, fq, hp, eR, hdp, hc, kk⟩ := h
    walk_at "go"
    refine k_rng1 (by decide) ?_
    rw [show ((2 : Int)).toNat = 2 from rfl]
    refine k_loopR (n := 2) (fun i σ H' => ∃ t6 : Option V, σ = [some (.ref a), some (.ref kp), some w, some (.ref t), some (.ref p), some (.ref dp), t6] ∧ Same H H') ⟨_, rfl, Same.refl _⟩ ?_ ?_
    rotate_left
    · rintro σ H1 ⟨t6, rfl, s1⟩
      walk_at "go"
      exact kk H1 s1
    rintro i σ H1 hi ⟨t6, rfl, s1⟩
    have go : ∀ {Q' : VK} {E' : XK}, (∀ r H', Same H1 H' → H' r = some (.lst (dueR st g.vals.length)) → Q' (.ref r) H') → sp__law_played K [.ref a, .ref p] H1 Q' E' := fun {Q' E'} kq => by
      refine ⟨a, l, p, g, v, φ, rfl, gat.same s1, seqT_same s1 hp, eR, fun q hq => (s.vals q hq).nn, ?_⟩
      cases st with
      | true =>
        obtain ⟨b, c, t', z, f, nc, no⟩ := hc
        exact .inr (.inl ⟨b, c, t', z, f, nc, no, fun r H' s' hr => kq r H' s' hr⟩)
      | false => exact .inl ⟨hc, fun r H' s' hr => kq r H' s' hr⟩
    walk_at "go"
    refine go (fun r H2 s2 hr => ?_)
    have s02 := s1.trans s2
    walk_at "go"
    refine k_neD (due_dp hr) (due_dp (s02 _ _ hdp)) ?_ (due_sh _ _).ok (due_sh _ _).ok
    rw [Dt.refl (due_sh _ _)]
    walk_at "go"
    refine k_ixT (seqT_same s02 hkp) (i := ((0 : Nat) : Int)) (v := .int (g.n : Int)) rfl ?_
    walk_at "go"
    refine k_ixT (seqT_same s02 hkp) (i := ((1 : Nat) : Int)) (v := .bl g.ag) rfl ?_
    walk_at "go"
    refine ⟨a, l, t, w, xs, g, rfl, gat.same s02, s, rch, hw.same s02, seqT_same s02 ht, fq.same s02, fun H3 s3 => ?_⟩
    walk_at "go"
    exact ⟨_, rfl, s02.trans s3⟩
end
end Lw
namespace Lw
open PySem PySem.Spec PyProof.Rows L2 Gx LamX NdefX
section
variable {P : Program} {w : World} {K : PySem.W.Frag} {mg : Str → Option Value} {base : Heap} {f : Addr} {fd : FuncData}
theorem ok__law_right (F : FnP K "_law_right" "_law_right" s__law_right f fd) (T : Txt K mg) (c__law_twice : Cl P w K mg base 8 "_law_twice" ["_law_game", "_law_kind", "_law_worth", "_law_past", "_law_value_here", "_law_due"] (sp__law_twice K)) (c__law_stands : Cl P w K mg base 5 "_law_stands" ["_law_game", "_law_many", "_law_again", "_law_worth", "_law_past"] (sp__law_stands K)) (c__law_played : Cl P w K mg base 7 "_law_played" ["_law_game", "_law_value_here"] (sp__law_played K)) (c__law_behind : Cl P w K mg base 5 "_law_behind" ["_law_rule", "_law_many", "_law_again", "_law_top_here", "_law_past", "_law_worth", "_law_value_here"] (sp__law_behind K)) : FnOk P w K mg base (L2.CX P w) 9 f fd ["_law_game", "_law_kind", "_law_values", "_law_good_here", "_law_bad"] (sp__law_right K) := by
  refine F.ok sc__law_right (fun vs H Q E h => ?_) (fun cdv A outer s H vs Q E hr h => ?_)
  · obtain ⟨a, l, kp, tt, lv, fg, u, vv, us, n, ag, top, qs, ps, G, o, bad, rfl, _⟩ := h; rfl
  · refine ⟨_, (pss_cons (ps_asg (pv 1) (pg_tup rfl (pgs_cons (pg_name (i := 5) sc__law_right.nd rfl (Or.inl rfl)) (pgs_cons (pg_name (i := 6) sc__law_right.nd rfl (Or.inl rfl)) (pgs_cons (pg_name (i := 7) sc__law_right.nd rfl (Or.inl rfl)) pgs_nil))))) (pss_cons (ps_set (i := 8) sc__law_right.nd rfl (Or.inl rfl) (pe_tup (pa_cons pe_int (pa_cons pe_int pa_nil)))) (pss_cons (ps_set (i := 9) sc__law_right.nd rfl (Or.inl rfl) (pe_tup pa_nil)) (pss_cons (ps_for (passes_of rfl) rfl (pi_seqU (pv 2)) (pg_name (i := 10) sc__law_right.nd rfl (Or.inl rfl)) (pss_cons (ps_if (PW.pt (pw_and (pt_cmpR op_notNU (pv 8) pe_non (nomark _)) (pw_and1 (pt_cmpR (op_eqK (K := K) rfl hr) (pe_callB (callK (K := K) (r := rLenU) rfl call_lenU) (by rfl) T.n_len (by decide +kernel) (pa_cons (pv 9) pa_nil)) (pv 4) (nomark _))))) (pss_one (ps_ret (pcall c__law_twice hr (by first | decide | omega) (takes_of rfl rfl rfl rfl) (pa_cons (pv 0) (pa_cons (pv 1) (pa_cons (pv 8) (pa_cons (pv 9) (pa_cons (pv 10) (pa_cons (pe_lst (pa_cons pe_bl (pa_cons pe_bl (pa_cons pe_bl (pa_cons pe_bl (pa_cons pe_bl (pa_cons (pv 4) pa_nil))))))) pa_nil))))))))) pss_nil) (pss_cons (ps_set (i := 8) sc__law_right.nd rfl (Or.inl rfl) (pcall c__law_behind hr (by first | decide | omega) (takes_of rfl rfl rfl rfl) (pa_cons (pv 3) (pa_cons (pv 5) (pa_cons (pv 6) (pa_cons (pv 7) (pa_cons (pv 9) (pa_cons (pv 8) (pa_cons (pv 10) pa_nil))))))))) (pss_cons (ps_if (pt_cmpR (op_neK (K := K) rfl hr) (pcall c__law_played hr (by first | decide | omega) (takes_of rfl rfl rfl rfl) (pa_cons (pv 0) (pa_cons (pv 10) pa_nil))) (pe_lst pa_nil) (nomark _)) (pss_one (ps_ret pe_bl)) pss_nil) (pss_cons (ps_set (i := 9) sc__law_right.nd rfl (Or.inl rfl) (pe_op (op_addK (K := K) rfl) (pv 9) (pe_tup (pa_cons (pv 10) pa_nil)))) (pss_one (ps_if (pt_not (pt_val (pcall c__law_stands hr (by first | decide | omega) (takes_of rfl rfl rfl rfl) (pa_cons (pv 0) (pa_cons (pv 5) (pa_cons (pv 6) (pa_cons (pv 8) (pa_cons (pv 9) pa_nil)))))))) (pss_one (ps_ret pe_bl)) pss_nil))))))) (pss_one (ps_ret (pe_or (pv 6) (pe_one (pcall c__law_twice hr (by first | decide | omega) (takes_of rfl rfl rfl rfl) (pa_cons (pv 0) (pa_cons (pv 1) (pa_cons (pv 8) (pa_cons (pv 9) (pa_cons (pe_tup (pa_cons pe_int (pa_cons pe_int pa_nil))) (pa_cons (pe_lst (pa_cons pe_bl (pa_cons pe_bl (pa_cons pe_bl (pa_cons pe_bl (pa_cons pe_bl pa_nil)))))) pa_nil))))))))))))))), ?_⟩
    obtain ⟨a, l, kp, tt, lv, fg, u, vv, us, n, ag, top, qs, ps, G, o, bad, rfl, gat, hkp, htt, hlv, nll, fqs, hgd, ql, n1, n9, t0, ts, vok, ok, kk⟩ := h
    have vl := fqs.len
    have s0 : Gm.Std (Gm.init n ag top (.told (Gm.phi bad ps))) := Gm.std_init t0 ts ok n1 (by omega)
    have std : ∀ i, i ≤ n → Gm.Std (Gm.plays (Gm.init n ag top (.told (Gm.phi bad ps))) (qs.take i)) := fun i hi => by
      have tl : (qs.take i).length = i := by rw [List.length_take]; omega
      exact Gm.std_plays _ s0 (fun q hq => vok q (List.mem_of_mem_take hq)) (fun _ => by show 0 + _ ≤ n; omega) (by show 0 + _ ≤ 60; omega)
    have rch : ∀ i, Gm.reached (Gm.plays (Gm.init n ag top (.told (Gm.phi bad ps))) (qs.take i)) 1 = true := fun i => Gm.reached_one _ _ _ _ _
    generalize hg0 : Gm.init n ag top (.told (Gm.phi bad ps)) = g0 at *
    have stay : ∀ i, (Gm.plays g0 (qs.take i)).n = n ∧ (Gm.plays g0 (qs.take i)).ag = ag ∧ (Gm.plays g0 (qs.take i)).top = top ∧ (Gm.plays g0 (qs.take i)).R = .told (Gm.phi bad ps) ∧ (Gm.plays g0 (qs.take i)).vals = qs.take i := fun i => by
      obtain ⟨h1, h2, h3, h4⟩ := Gm.plays_n g0 (qs.take i)
      have h5 := Gm.plays_vals g0 (qs.take i)
      subst hg0
      exact ⟨h1, h2, h3, h4, by rw [h5]; rfl⟩
    obtain ⟨dxg, fsg, _, hi0⟩ := gat.ins
    obtain ⟨vs0, hl0⟩ := gat.lst
    have nla : lv ≠ a := fun e => by subst e; rw [hi0] at hlv; cases hlv
    walk_at "go"
    refine k_gtup hkp rfl ?_
    walk_at "go"
    refine k_tupx (fun p1 H1 m1 s1 hp1 => ?_) (by simp [sizeLine_eq])
    walk_at "go"
    refine k_tupx (fun p2 H2 m2 s2 hp2 => ?_) (by simp)
    have s02 := s1.trans s2
    have ew : Gm.worthO (Gm.plays g0 (qs.take 0)) = some 1 := by subst hg0; rfl
    walk_at "go"
    refine k_itUL (SqL.of (s02 _ _ hlv)) ?_
    refine k_loopL (fun i σ H' => ∃ (w : V) (t : Addr) (xs : List V) (t10 : Option V), σ = [some (.ref a), some (.ref kp), some (.ref lv), some (.ref fg), some (.int (bad : Int)), some (.int (n : Int)), some (.bl ag), some (.ref tt), some w, some (.ref t), t10] ∧ But2 a l H H' ∧ GAt K H' a l (Gm.plays g0 (qs.take i)) ∧ PrO K H' w (Gm.worthO (Gm.plays g0 (qs.take i))) ∧ SqT K H' t xs ∧ Fqs K H' xs (qs.take i))
      ⟨_, p2, [], _, rfl, But2.of s02, gat.same s02, by rw [ew]; exact ⟨p1, rfl, by rw [Cm.fq1]; exact SqT.of (s2 _ _ hp1)⟩, SqT.of hp2, .nil⟩ (fun i σ H' _ ⟨_, _, _, _, _, b, _⟩ => SqL.of (b _ _ nla nll hlv)) ?_ ?_
    rotate_left
    · rintro σ H3 ⟨w, t, xs, t10, rfl, b3, gat3, hw, ht, fx⟩
      have im := gat.but2 b3
      obtain ⟨e1, e2, e3, e4, e5⟩ := stay vv.length
      cases ag with
      | true =>
        walk_at "go"
        exact kk H3 b3
      | false =>
        walk_at "go"
        refine k_tupx (fun p5 H5 m5 s5 hp5 => ?_) (by simp [sizeLine_eq])
        walk_at "go"
        refine k_lstx (fun d6 H6 m6 s6 hd6 => ?_) (by simp [sizeLine_eq])
        have s36 := s5.trans s6
        have tl : (qs.take vv.length).length = n := by rw [List.length_take]; omega
        walk_at "go"
        refine ⟨a, l, kp, tt, t, p5, d6, w, xs, _, 0, _, false, rfl, gat3.same s36, std _ (by omega), rch _, by rw [e1, e2]; exact seqT_imm (im.trans (imm_same s36)) hkp, hw.same s36, seqT_same s36 ht, by rw [e5]; exact fx.same s36, by rw [Cm.fq0]; exact SqT.of (s6 _ _ hp5), e4, hd6, ?_, fun H7 s7 => ?_⟩
        · rw [if_neg (by decide)]
          unfold Gm.ended
          rw [e2, e5, tl, e1, decide_eq_true rfl]
          rfl
        exact kk H7 (b3.trans (But2.of (s36.trans s7)))
    rintro i x σ H3 hx ⟨w, t, xs, t10, rfl, b3, gat3, hw, ht, fx⟩
    have hi := (List.getElem?_eq_some_iff.mp hx).1
    have im := gat.but2 b3
    obtain ⟨p, q, rfl, hq, hp⟩ := (fqs.imm im).get hx
    have hvq := vok q (List.mem_of_getElem? hq)
    have st := std i (by omega)
    have st' := std (i + 1) (by omega)
    have rc := rch i
    have rc' := rch (i + 1)
    obtain ⟨e1, e2, e3, e4, e5⟩ := stay i
    obtain ⟨f1, f2, f3, f4, f5⟩ := stay (i + 1)
    rw [take_snoc hq, Gm.plays_snoc] at st' rc' f1 f2 f3 f4 f5
    have tl : (qs.take i).length = i := by rw [List.length_take]; omega
    have hkp3 := seqT_imm im hkp
    have htt3 := seqT_imm im htt
    have hgd3 := hgd.imm im
    have tsn : Gm.plays g0 (qs.take (i + 1)) = Gm.play (Gm.plays g0 (qs.take i)) q := by rw [take_snoc hq, Gm.plays_snoc]
    generalize hgi : Gm.plays g0 (qs.take i) = g at *
    have op : Gm.ended g = false := by
      unfold Gm.ended
      rw [e1, e5, tl, decide_eq_false (by omega)]
      simp
    have fits := Gm.fits st op (by rw [e5, tl]; omega) (v := q) (by rw [e3]; exact hvq)
    have hxl := fx.len
    refine k_gn ?_
    dsimp only
    walk_at "st"
    refine k_evT (fun b H' => H' = H3 ∧ b = (!g.cert && decide (i = bad))) (fun Q' kq => ?_) ?_
    · cases nc : g.cert with
      | true =>
        rw [show Gm.worthO g = none from if_pos nc] at hw
        obtain rfl : w = .non := hw
        walk_at "go"
        exact kq _ H3 ⟨rfl, by rw [nc]; rfl⟩
      | false =>
        rw [show Gm.worthO g = some g.now from if_neg (by rw [nc]; decide)] at hw
        obtain ⟨pw, rfl, hw⟩ := hw
        walk_at "go"
        refine k_lenT ?_ ht
        rw [hxl, tl]
        walk_at "go"
        refine kq _ H3 ⟨rfl, ?_⟩
        rw [nc]
        show _ = (true && _)
        rw [Bool.true_and, decide_eq_decide]
        omega
    rintro b H4 ⟨rfl, hb⟩
    refine k_ifb (fun eb => ?_) (fun eb => ?_)
    · rw [hb] at eb
      obtain ⟨b1, b2⟩ := Bool.and_eq_true_iff.mp eb
      have ib : i = bad := of_decide_eq_true b2
      have nc : g.cert = false := by simpa using b1
      walk_at "go"
      refine k_lstx (fun d5 H5 m5 s5 hd5 => ?_) (by simp [sizeLine_eq])
      walk_at "go"
      refine ⟨a, l, kp, tt, t, p, d5, w, xs, g, q, _, true, rfl, gat3.same s5, st, rc, by rw [e1, e2]; exact seqT_same s5 hkp3, hw.same s5, seqT_same s5 ht, by rw [e5]; exact fx.same s5, seqT_same s5 hp, e4, by rw [e5, tl, ib]; exact hd5, ?_, fun H6 s6 => kk H6 (b3.trans (But2.of (s5.trans s6)))⟩
      rw [if_pos rfl]
      exact ⟨_, _, _, _, fits, nc, by rw [e5, tl]; exact Gm.nos_phi.mpr ib⟩
    rw [hb] at eb
    have good : g.cert = true ∨ ¬ Gm.NoS (Gm.phi bad ps) g.vals.length := by
      cases nc : g.cert with
      | true => exact .inl rfl
      | false =>
        refine .inr fun z => ?_
        rw [e5, tl] at z
        rw [nc, decide_eq_true (Gm.nos_phi.mp z)] at eb
        cases eb
    walk_at "go"
    refine ⟨fg, tt, t, p, u, w, xs, us, g, q, G, o, ps, bad, by rw [e1, e2], hgd3, e4, by rw [e3]; exact htt3, ht, by rw [e5]; exact fx, hw, hp, st, op, by rw [e5, tl]; omega, by rw [e3]; exact hvq, fun w' H5 s5 hw' => ?_⟩
    have gat5 := gat3.same s5
    walk_at "go"
    refine ⟨a, l, p, g, q, _, rfl, gat5, seqT_same s5 hp, e4, fun z hz => (st.vals z hz).nn, .inr (.inr ⟨_, _, _, _, fits, good, fun r H6 b6 hr gat6 => ?_⟩)⟩
    have im6 := gat5.but2 b6
    walk_at "go"
    refine k_lstx (fun e7 H7 m7 s7 he7 => ?_) (by simp)
    walk_at "go"
    refine k_neNil (SqL.of (s7 _ _ hr)) he7 ?_
    rw [show (!([] : List V).isEmpty) = false from rfl]
    walk_at "go"
    refine k_tupx (fun t8 H8 m8 s8 ht8 => ?_) (by simp [sizeLine_eq])
    have im8 : Imm H4 H8 := (imm_same s5).trans (im6.trans (imm_same (s7.trans s8)))
    walk_at "go"
    refine k_addT1 (seqT_imm im8 ht) (SqT.of ht8) (by rw [sizeLine_eq]; omega) (fun t9 H9 s9 ht9 => ?_)
    have im9 := im8.trans (imm_same s9)
    have s69 := s7.trans (s8.trans s9)
    have fx9 : Fqs K H9 (xs ++ [.ref p]) (qs.take i ++ [q]) := Fqs.snoc (seqT_imm im9 hp) (fx.imm im9)
    have hw9 : PrO K H9 w' (Gm.worthO (Gm.play g q)) := (hw'.imm im6).same s69
    walk_at "go"
    refine ⟨a, l, t9, w', _, Gm.play g q, by rw [f1, f2], gat6.same s69, st', rc', hw9, ht9, by rw [f5]; exact fx9, fun H10 s10 => ?_⟩
    walk_at "go"
    refine ⟨w', t9, _, _, rfl, b3.trans ((But2.of s5).trans (b6.trans (But2.of (s69.trans s10)))), by rw [tsn]; exact (gat6.same s69).same s10, by rw [tsn]; exact hw9.same s10, seqT_same s10 ht9, by rw [take_snoc hq]; exact fx9.same s10⟩
end
end Lw
namespace Lw
open PySem PySem.Spec PyProof.Rows L2 Gx LamX NdefX
section
variable {P : Program} {w : World} {K : PySem.W.Frag} {mg : Str → Option Value} {base : Heap} {f : Addr} {fd : FuncData}
theorem ok_law___law_good (T : Txt K mg) : CloCl P w K mg base 1 IsF_law___law_good ["_law_past"] ["_law_parts"] (sp_law___law_good K) := by
  refine ⟨fun f F ⟨q, cl, c, e⟩ => ?_⟩
  subst e
  refine XOk.of (nok_of sc_law___law_good (fun doc pm ctv us hl => ?_) (fun ws vs H Q E h => ?_) (fun A outer s H vs ws Q E hr hf hc hw h => ?_))
  · match us, hl with | [_], _ => rfl
  · obtain ⟨u, l, us, xs, ps, qs, _, rfl, _⟩ := h; rfl
  · refine ⟨_, (pss_one (ps_ret (pe_ix (ix_K (K := K) rfl) (pv 1) (pe_op op_modN (pe_op (op_addK (K := K) rfl) (pe_callB (callK (K := K) (r := rLenU) rfl call_lenU) (by rfl) T.n_len (by decide +kernel) (pa_cons (pv 0) pa_nil)) (pe_callB (callK (K := K) (r := rSum) rfl (cr_sum rfl)) (by rfl) T.n_sum (by decide +kernel) (pa_cons (pe_lc (own := [("_law_value_here", 2)]) (g := gName 2) (by rfl) sc_law___law_good.nd (pi_seqU (pv 0)) (blkOk_by (own := [("_law_value_here", 2)]) (N := ["_law_past", "_law_parts", "_law_value_here"]) (sc := defScope s_law___law_good) (by decide +kernel)) (fun _ _ _ _ _ => pg_name (i := 2) sc_law___law_good.nd rfl (Or.inl rfl)) (fun _ _ _ _ _ => pts_nil) (fun _ _ _ _ _ => (pe_ix (ix_K (K := K) rfl) (pv 2) pe_int (fun _ _ => rfl)))) pa_nil))) (pe_callB (callK (K := K) (r := rLenU) rfl call_lenU) (by rfl) T.n_len (by decide +kernel) (pa_cons (pv 1) pa_nil))) (fun _ _ => rfl)))), ?_⟩
    obtain ⟨u, l, us, xs, ps, qs, rfl, rfl, hu, fu, hl, fq, q60, ne, l4, kk⟩ := h
    have hxl := fq.len
    have hul := fu.len
    walk_at "go"
    refine k_lenT ?_ hl
    rw [hxl]
    walk_at "go"
    refine k_lcU (.inr hl) (fun D i ys H' => Same H H' ∧ ys = ((qs.take i).map fun q => q.num).map V.int) (fun D H' nD sD hD => ⟨sD, rfl⟩) (fun D i ys H' nD h => h.1) ?_ ?_
    · rintro D i x ys H' nD hx ⟨s, rfl⟩ hD
      obtain ⟨p, q, rfl, hq, hp⟩ := (fq.same s).get hx
      have hi := (List.getElem?_eq_some_iff.mp hq).1
      refine k_lcB rfl ?_
      walk_at "go"
      refine k_ixT hp (v := .int q.num) rfl ?_
      refine ⟨_, hD, (by rw [sizeLine_eq, List.length_map, List.length_map, List.length_take]; omega), _, ⟨But.same nD s But.upd, ?_⟩, upd_same⟩
      rw [take_snoc hq, List.map_append, List.map_append]
      rfl
    rintro D ys H1 nD ⟨s1, rfl⟩ hD
    rw [hxl, List.take_length] at hD
    walk_at "go"
    refine k_sum (SqL.of hD) ?_
    walk_at "go"
    have l0 : 0 < ps.length := List.length_pos_iff.mpr ne
    refine k_lenL ?_ (seqL_same s1 hu)
    rw [hul]
    walk_at "go"
    have en : (qs.length : Int) + (qs.map fun q => q.num).sum = Gm.numN qs := rfl
    rw [en]
    have f0 := Int.emod_nonneg (Gm.numN qs) (show (ps.length : Int) ≠ 0 by omega)
    have f1 := Int.emod_lt_of_pos (Gm.numN qs) (show (0 : Int) < ps.length by omega)
    obtain ⟨j, ej⟩ := Int.eq_ofNat_of_zero_le f0
    rw [ej]
    obtain ⟨p, q, e1, hq, hp⟩ := (fu.same s1).get (i := j) (v := us[j]'(by omega)) (List.getElem?_eq_getElem _)
    refine k_ixL (seqL_same s1 hu) (v := .ref p) (atI_nat (by rw [List.getElem?_eq_getElem (by omega), e1])) ?_
    refine kk p H1 s1 ?_
    have : Gm.toldBy Gm.numN ps qs = q := by
      unfold Gm.toldBy
      rw [ej, List.getD_eq_getElem?_getD]
      show (ps[j]?).getD 0 = q
      rw [hq]
      rfl
    rw [this]
    exact hp
end
end Lw
namespace Lw
open PySem PySem.Spec PyProof.Rows L2 Gx LamX NdefX
section
variable {P : Program} {w : World} {K : PySem.W.Frag} {mg : Str → Option Value} {base : Heap} {f : Addr} {fd : FuncData}
theorem ok_law___law_told (T : Txt K mg) (c_law___law_good : CloCl P w K mg base 1 IsF_law___law_good ["_law_past"] ["_law_parts"] (sp_law___law_good K)) : CloCl P w K mg base 2 IsF_law___law_told ["_law_past"] ["_law_bad", "_law_good", "_law_odd"] (sp_law___law_told K) := by
  refine ⟨fun f F ⟨q, cl, c, e⟩ => ?_⟩
  subst e
  refine XOk.of (nok_of sc_law___law_told (fun doc pm ctv us hl => ?_) (fun ws vs H Q E h => ?_) (fun A outer s H vs ws Q E hr hf hc hw h => ?_))
  · match us, hl with | [_], _ => rfl
  · obtain ⟨bad, fg, u, l, odd, G, o, us, xs, ps, qs, _, rfl, _⟩ := h; rfl
  · refine ⟨_, (pss_cons (ps_if (pt_cmpR (op_eqK (K := K) rfl hr) (pe_callB (callK (K := K) (r := rLenU) rfl call_lenU) (by rfl) T.n_len (by decide +kernel) (pa_cons (pv 0) pa_nil)) (pv 1) (nomark _)) (pss_one (ps_ret (pv 3))) pss_nil) (pss_one (ps_ret (pnmcall c_law___law_good hr (by first | decide | omega) (pv 2) (pa_cons (pv 0) pa_nil))))), ?_⟩
    obtain ⟨bad, fg, u, l, odd, G, o, us, xs, ps, qs, rfl, rfl, hg, hl, fq, q60, kb, kg⟩ := h
    have hxl := fq.len
    walk_at "go"
    refine k_lenT ?_ hl
    rw [hxl]
    walk_at "go"
    refine k_if (fun e => ?_) (fun ne => ?_)
    · walk_at "go"
      exact kb (by omega)
    walk_at "go"
    refine k_valcallx hg.clo.fn ?_
    walk_at "go"
    exact hg.call hl fq q60 (kg (by omega))
end
end Lw
namespace Lw
open PySem PySem.Spec PyProof.Rows L2 Gx LamX NdefX
section
variable {P : Program} {w : World} {K : PySem.W.Frag} {mg : Str → Option Value} {base : Heap} {f : Addr} {fd : FuncData}
theorem ok_law (F : FnP K "law" "law" s_law (He.fAd K p_law___law_good) fd) (T : Txt K mg) (TB : LamX.TabB base mg (He.cT K p_law___law_good).1 (He.cT K p_law___law_good).2) (c__law_right : Cl P w K mg base 9 "_law_right" ["_law_game", "_law_kind", "_law_values", "_law_good_here", "_law_bad"] (sp__law_right K)) (k_Game : KCl P w K mg base 1 "Game" ["self", "many", "again", "top", "rule"] (sp_Game___init__ K)) (k_Asked : KCl P w K mg base 1 "Asked" ["self", "function"] (sp_Asked___init__ K)) (c__law_draw : Cl P w K mg base 1 "_law_draw" ["_law_state", "_law_many"] (sp__law_draw K)) (c__law_low : Cl P w K mg base 1 "_law_low" ["_law_a", "_law_b"] (sp__law_low K)) (c__law_value : Cl P w K mg base 3 "_law_value" ["_law_state", "_law_top_here"] (sp__law_value K)) (c__law_begin : Cl P w K mg base 1 "_law_begin" ["_law_cell"] (sp__law_begin K)) (c__law_cell_at : Cl P w K mg base 1 "_law_cell_at" ["_law_script", "_law_k"] (sp__law_cell_at K)) (c__law_top : Cl P w K mg base 2 "_law_top" ["_law_state"] (sp__law_top K)) : FnOk P w K mg base CX0 10 (He.fAd K p_law___law_good) fd ["_law_script"] (sp_law K) := by
  refine FunD.okC F sc_law (fun vs H Q E h => ?_) (fun cdv A outer s H vs Q E hcd hr h => ?_)
  · obtain ⟨a, ns, rfl, _⟩ := h; rfl
  · subst hcd
    refine ⟨_, PSs.nox (pss_cons (ps_set (i := 1) sc_law.nd rfl (Or.inr rfl) (pcallN c__law_begin hr (by first | decide | omega) (pa_cons (pcallN c__law_cell_at hr (by first | decide | omega) (pa_cons (pv 0) (pa_cons pe_int pa_nil))) pa_nil))) (pss_cons (ps_set (i := 2) sc_law.nd rfl (Or.inr rfl) (pcallN c__law_top hr (by first | decide | omega) (pa_cons (pv 1) pa_nil))) (pss_cons (ps_set (i := 3) sc_law.nd rfl (Or.inl rfl) (pe_op (op_addK (K := K) rfl) pe_int (pcallN c__law_draw hr (by first | decide | omega) (pa_cons (pv 1) (pa_cons pe_int pa_nil))))) (pss_cons (ps_set (i := 4) sc_law.nd rfl (Or.inl rfl) (pe_cmpR (op_eqK (K := K) rfl hr) (pcallN c__law_draw hr (by first | decide | omega) (pa_cons (pv 1) (pa_cons pe_int pa_nil))) pe_int (nomark _))) (pss_cons (ps_set (i := 1) sc_law.nd rfl (Or.inr rfl) (pcallN c__law_begin hr (by first | decide | omega) (pa_cons (pcallN c__law_cell_at hr (by first | decide | omega) (pa_cons (pv 0) (pa_cons pe_int pa_nil))) pa_nil))) (pss_cons (ps_set (i := 8) sc_law.nd rfl (Or.inr rfl) (pcallN c__law_draw hr (by first | decide | omega) (pa_cons (pv 1) (pa_cons pe_int pa_nil)))) (pss_cons (ps_set (i := 10) sc_law.nd rfl (Or.inr rfl) (pe_ix (ix_K (K := K) rfl) (pe_lst (pa_cons (pe_tup (pa_cons pe_int (pa_cons pe_int pa_nil))) (pa_cons pe_non (pa_cons (pe_tup (pa_cons pe_int (pa_cons pe_int pa_nil))) (pa_cons pe_str (pa_cons (pe_tup (pa_cons pe_int (pa_cons pe_int pa_nil))) (pa_cons pe_int pa_nil))))))) (pcallN c__law_draw hr (by first | decide | omega) (pa_cons (pv 1) (pa_cons pe_int pa_nil))) (fun _ _ => rfl))) (pss_cons (ps_set (i := 11) sc_law.nd rfl (Or.inr rfl) (pe_frz (pe_lc (own := [("_law_k", 12)]) (g := gName 12) (by rfl) sc_law.nd (pi_range1 rfl T.n_range (pa_cons (pe_op (op_addK (K := K) rfl) pe_int (pcallN c__law_draw hr (by first | decide | omega) (pa_cons (pv 1) (pa_cons pe_int pa_nil)))) pa_nil)) (blkOk_by (own := [("_law_k", 12)]) (N := ["_law_script", "_law_state", "_law_top_here", "_law_many", "_law_again", "_law_told", "_law_values", "_law_kind", "_law_bad", "_law_good", "_law_odd", "_law_parts", "_law_k", "_law_value_here"]) (sc := defScope s_law) (by decide +kernel)) (fun _ _ _ _ _ => pg_name (i := 12) sc_law.nd rfl (Or.inl rfl)) (fun _ _ _ _ _ => pts_nil) (fun _ _ _ _ _ => (pcallN c__law_low hr (by first | decide | omega) (pa_cons (pcallN c__law_draw hr (by first | decide | omega) (pa_cons (pv 1) (pa_cons pe_int pa_nil))) (pa_cons pe_int pa_nil))))))) (pss_cons (ps_mkN (K := K) (st := s_law___law_good) (nm := nm_law) (name := "_law_good") (i := 9) rfl TB rfl rfl (by rfl) (ndef_free (sc := defScope s_law) (nsc := C8.fnScope s_law___law_good) (fr := ["_law_parts"]) (by decide +kernel)) rfl rfl rfl sc_law.nd rfl (Or.inr rfl) (Or.inl rfl)) (pss_cons (ps_mkN (K := K) (st := s_law___law_told) (nm := nm_law) (name := "_law_told") (i := 5) rfl TB rfl rfl (by rfl) (ndef_free (sc := defScope s_law) (nsc := C8.fnScope s_law___law_told) (fr := ["_law_bad", "_law_good", "_law_odd"]) (by decide +kernel)) rfl rfl rfl sc_law.nd rfl (Or.inl rfl) (Or.inl rfl)) (pss_cons (ps_set (i := 1) sc_law.nd rfl (Or.inr rfl) (pcallN c__law_begin hr (by first | decide | omega) (pa_cons (pcallN c__law_cell_at hr (by first | decide | omega) (pa_cons (pv 0) (pa_cons pe_int pa_nil))) pa_nil))) (pss_cons (ps_setLc (i := 6) (own := [("_law_k", 12)]) (g := gName 12) (by rfl) sc_law.nd rfl rfl (sw_true rfl rfl rfl (by decide +kernel)) (pi_range1 rfl T.n_range (pa_cons (pv 3) pa_nil)) (blkOk_by (own := [("_law_k", 12)]) (N := ["_law_script", "_law_state", "_law_top_here", "_law_many", "_law_again", "_law_told", "_law_values", "_law_kind", "_law_bad", "_law_good", "_law_odd", "_law_parts", "_law_k", "_law_value_here"]) (sc := defScope s_law) (by decide +kernel)) (fun _ _ _ _ _ => pg_name (i := 12) sc_law.nd rfl (Or.inl rfl)) (fun _ _ _ _ _ => pts_nil) (fun _ _ _ _ _ => (pcallN c__law_value hr (by first | decide | omega) (pa_cons (pv 1) (pa_cons (pv 2) pa_nil))))) (C8.pss_cut (ps_if (PW.pt (pw_and (pt_not (pt_val (pv 4))) (pw_and1 (pt_cmpR (op_eqK (K := K) rfl hr) (pcallN c__law_draw hr (by first | decide | omega) (pa_cons (pv 1) (pa_cons pe_int pa_nil))) pe_int (nomark _))))) (pss_cons (ps_set (i := 2) sc_law.nd rfl (Or.inr rfl) (pe_tup (pa_cons (pv 3) (pa_cons pe_int pa_nil)))) (pss_cons (ps_set (i := 6) sc_law.nd rfl (Or.inl rfl) (pe_op (op_addK (K := K) rfl) (pe_lst (pa_cons (pcallN c__law_low hr (by first | decide | omega) (pa_cons (pv 3) (pa_cons pe_int pa_nil))) pa_nil)) (pe_op (op_mulK (K := K) rfl) (pe_lst (pa_cons (pe_tup (pa_cons pe_int (pa_cons pe_int pa_nil))) pa_nil)) (pe_op op_sub (pv 3) pe_int)))) (pss_one (ps_set (i := 8) sc_law.nd rfl (Or.inr rfl) (pe_op (op_addK (K := K) rfl) pe_int (pe_op op_modN (pv 8) (pv 3))))))) pss_nil) (pss_cons (ps_set (i := 7) sc_law.nd rfl (Or.inl rfl) (pe_tup (pa_cons (pv 3) (pa_cons (pv 4) (pa_cons (pv 2) pa_nil))))) (pss_one (ps_ret (pcallLd c__law_right hr (by first | decide | omega) (pa_cons (pmake rfl k_Game hr (by first | decide | omega) (pa_cons (pv 3) (pa_cons (pv 4) (pa_cons (pv 2) (pa_cons (pmake rfl k_Asked hr (by first | decide | omega) (pa_cons (pv 5) pa_nil)) pa_nil))))) (pa_cons (pv 7) (pa_cons (pv 6) (pa_cons (pv 9) (pa_cons (pv 8) pa_nil)))))))))))))))))))))), ?_⟩
    obtain ⟨a, ns, rfl, hS, hl, tab, kk⟩ := h
    walk_at "go"
    refine ⟨a, ns, 0, rfl, hS, by decide, fun z0 => ?_⟩
    walk_at "go"
    refine ⟨z0, rfl, fun l n f H1 nl s1 hl1 => ?_⟩
    walk_at "go"
    refine ⟨l, n, f, rfl, hl1, fun t top n1 H2 b2 hl2 ht tp st => ?_⟩
    walk_at "go"
    refine ⟨l, n1, f, 9, rfl, hl2, by decide, by decide, fun r n2 H3 b3 hl3 r0 r1 => ?_⟩
    obtain ⟨m, em⟩ := Int.eq_ofNat_of_zero_le (show 0 ≤ 1 + r by omega)
    have mm1 : 1 ≤ m := by omega
    have mm9 : m ≤ 9 := by omega
    walk_at "go"
    rw [em]
    refine ⟨l, n2, f, 2, rfl, hl3, by decide, by decide, fun rb n3 H4 b4 hl4 _ _ => ?_⟩
    walk_at "go"
    generalize decide (rb = 1) = ag
    have sA : Same H H4 := But.same nl s1 (b2.trans (b3.trans b4))
    have ht4 := seqT_but b4 hl3 (seqT_but b3 hl2 ht)
    refine ⟨a, ns, 1, rfl, seqL_same sA hS, by decide, fun z1 => ?_⟩
    walk_at "go"
    refine ⟨z1, rfl, fun l2 e0 f2 G1 nl2 g1 hm1 => ?_⟩
    walk_at "go"
    refine ⟨l2, e0, f2, 10, rfl, hm1, by decide, by decide, fun rd e1 G2 c2 hm2 rd0 rd1 => ?_⟩
    obtain ⟨bad0, eb0⟩ := Int.eq_ofNat_of_zero_le rd0
    rw [eb0]
    walk_at "go"
    refine k_tupx (fun u1 G3 m3 g3 hu1 => ?_) (by simp [sizeLine_eq])
    walk_at "go"
    refine k_tupx (fun u2 G4 m4 g4 hu2 => ?_) (by simp [sizeLine_eq])
    walk_at "go"
    refine k_tupx (fun u3 G5 m5 g5 hu3 => ?_) (by simp [sizeLine_eq])
    walk_at "go"
    refine k_lstx (fun u4 G6 m6 g6 hu4 => ?_) (by simp [sizeLine_eq])
    have g26 := g3.trans (g4.trans (g5.trans g6))
    have hm6 := g26 _ _ hm2
    have n42 : u4 ≠ l2 := fun e => by subst e; rw [(g3.trans (g4.trans g5)) _ _ hm2] at m6; cases m6
    walk_at "go"
    refine ⟨l2, e1, f2, 6, rfl, hm6, by decide, by decide, fun ro e2 G7 c7 hm7 ro0 ro1 => ?_⟩
    have im7 := imm_but c7 hm6
    obtain ⟨odd, hat, hodd⟩ : ∃ odd, atI [V.ref u1, .non, .ref u2, .str (Str.ofString "1"), .ref u3, .int 1] ro = some odd ∧ Odd K G7 odd := by
      have h6 : ro = 0 ∨ ro = 1 ∨ ro = 2 ∨ ro = 3 ∨ ro = 4 ∨ ro = 5 := by omega
      rcases h6 with rfl | rfl | rfl | rfl | rfl | rfl
      · refine ⟨_, rfl, .inr (.inr (.inr (.inr ⟨u1, Rat.divInt 3 2, rfl, ?_, .inr (by decide +kernel), by decide +kernel, by decide +kernel⟩)))⟩
        rw [show Fr.fq (Rat.divInt 3 2) = [.int 3, .int 2] by decide +kernel]
        exact seqT_imm im7 (SqT.of (g6 _ _ (g5 _ _ (g4 _ _ hu1))))
      · exact ⟨_, rfl, .inr (.inr (.inl rfl))⟩
      · exact ⟨_, rfl, .inr (.inr (.inr (.inl ⟨u2, 1, 0, rfl, seqT_imm im7 (SqT.of (g6 _ _ (g5 _ _ hu2))), by decide +kernel⟩)))⟩
      · exact ⟨_, rfl, .inr (.inl ⟨_, rfl⟩)⟩
      · exact ⟨_, rfl, .inr (.inr (.inr (.inl ⟨u3, 2, 2, rfl, seqT_imm im7 (SqT.of (g6 _ _ hu3)), by decide +kernel⟩)))⟩
      · exact ⟨_, rfl, .inl ⟨_, rfl⟩⟩
    walk_at "go"
    refine k_ixL (SqL.of (c7 _ _ n42 hu4)) hat ?_
    walk_at "go"
    refine ⟨l2, e2, f2, 4, rfl, hm7, by decide, by decide, fun rp e3 G8 c8 hm8 rp0 rp1 => ?_⟩
    obtain ⟨np, enp⟩ := Int.eq_ofNat_of_zero_le (show 0 ≤ 1 + rp by omega)
    walk_at "go"
    rw [enp]
    refine k_rng1 (by omega) ?_
    rw [show ((np : Int)).toNat = np by omega]
    refine k_lcR (n := np) (fun D i ys H' => But l2 G8 H' ∧ (∃ e, H' l2 = some (.lst [.int e, .int f2])) ∧ ∃ qs : List Rat, Fqs K H' ys qs ∧ qs.length = i ∧ ∀ q ∈ qs, 0 ≤ q ∧ q ≤ 1 ∧ Fr.Sz 7 q) (fun D H' nD sD hD => ⟨But.of sD, ⟨_, sD _ _ hm8⟩, [], .nil, rfl, fun _ h => (nomatch h)⟩) ?_ ?_
    · rintro D i ys H' nD hi ⟨bD, ⟨e, hm'⟩, qs, fq, hq, hz⟩ hD
      have nlD : l2 ≠ D := fun e => by subst e; rw [nD] at hm8; cases hm8
      have hyl := fq.len
      refine k_lcB rfl ?_
      walk_at "go"
      refine ⟨l2, e, f2, 5, rfl, hm', by decide, by decide, fun rq e' H5 b5 hm5 rq0 rq1 => ?_⟩
      walk_at "go"
      refine ⟨rq, 4, rfl, by decide, okd_den (n := 3) (by decide) (by decide) (by decide), fun p H6 s6 np6 hp => ?_⟩
      have hD5 := s6 _ _ (b5 _ _ (Ne.symm nlD) hD)
      have im5 := (imm_but b5 hm').trans (imm_same s6)
      have imu : Imm H6 (upd H6 D (.lst (ys ++ [.ref p]))) := imm_but But.upd hD5
      have un := Ru.unit (a := rq) (b := 4) rq0 (by omega) (by decide)
      refine ⟨_, hD5, by rw [sizeLine_eq]; omega, _, ⟨fun x o nx h => ?_, ⟨e', by rw [upd_ne nlD]; exact s6 _ _ hm5⟩, qs ++ [_], Fqs.snoc (seqT_imm imu hp) ((fq.imm im5).imm imu), by simp [hq], fun q h => ?_⟩, upd_same⟩
      · have h2 := s6 _ _ (b5 _ _ nx (bD _ _ nx h))
        rw [upd_ne (fun e => by subst e; rw [nD] at h; cases h)]
        exact h2
      · rcases List.mem_append.mp h with h | h
        · exact hz q h
        · rw [List.mem_singleton.mp h]
          exact ⟨un.1, un.2, Fr.sz_divInt (by decide) (by show _ < 128; omega) (by decide)⟩
    rintro u us0 G9 nu ⟨b9, ⟨e9, hm9⟩, ps, fps, hps, pz⟩ hu
    have nlu : l2 ≠ u := fun e => by subst e; rw [nu] at hm8; cases hm8
    walk_at "go"
    refine k_frzx hu (fun o GA bA hfz => ?_)
    have imA := imm_but bA hu
    have bG : But l2 G1 GA := fun x o' nx h => by
      have h8 := c8 _ _ nx (c7 _ _ nx (g26 _ _ (c2 _ _ nx h)))
      have h9 := b9 _ _ nx h8
      exact bA _ _ (fun e => by subst e; rw [nu] at h8; cases h8) h9
    have sGA : Same H4 GA := But.same nl2 g1 bG
    have sHA : Same H GA := sA.trans sGA
    have fpsA := fps.imm imA
    have oddA : Odd K GA odd := hodd.imm ((imm_but c8 hm7).trans ((imm_but b9 hm8).trans imA))
    have ht5 := seqT_same sGA ht4
    have pne : ps ≠ [] := fun e => by subst e; simp at hps; omega
    walk_at "go"
    refine ⟨TabF.nil (sHA _ _ tab), fun fg cg GB xB nnB tB fgn hfg hcg => ?_⟩
    walk_at "go"
    refine ⟨tB, fun fn ct GC xC nnC tC fnn hfn hct => ?_⟩
    have xAC := xB.trans xC
    have imC := imm_ext xAC
    have hfgC := up_ext xC hfg (by intro ps z; cases z)
    have hcgC := up_ext xC hcg (by intro ps z; cases z)
    walk_at "go"
    refine ⟨a, ns, 2, rfl, seqL_ext xAC (seqL_same sHA hS), by decide, fun z2 => ?_⟩
    walk_at "go"
    refine ⟨z2, rfl, fun l3 v0 f3 K1 nl3 k1 hk1 => ?_⟩
    walk_at "go"
    refine k_rng1 (by omega) ?_
    rw [show ((m : Int)).toNat = m by omega]
    have ht6 := seqT_same k1 (seqT_imm imC ht5)
    refine k_lcR (n := m) (fun D i ys H' => But l3 K1 H' ∧ (∃ e, H' l3 = some (.lst [.int e, .int f3])) ∧ ∃ qs : List Rat, Fqs K H' ys qs ∧ qs.length = i ∧ ∀ q ∈ qs, Gm.Vok top q) (fun D H' nD sD hD => ⟨But.of sD, ⟨_, sD _ _ hk1⟩, [], .nil, rfl, fun _ h => (nomatch h)⟩) ?_ ?_
    · rintro D i ys H' nD hi ⟨bD, ⟨e, hm'⟩, qs, fq, hq, hz⟩ hD
      have nlD : l3 ≠ D := fun e => by subst e; rw [nD] at hk1; cases hk1
      have hyl := fq.len
      refine k_lcB rfl ?_
      walk_at "go"
      refine ⟨l3, t, e, f3, top, rfl, hm', seqT_but bD hk1 ht6, tp, st, fun r y e' H6 b6 hm6 _ hr _ _ _ vk => ?_⟩
      have hD6 := b6 _ _ (Ne.symm nlD) hD
      refine ⟨_, hD6, by rw [sizeLine_eq]; omega, _, ⟨fun x o nx h => ?_, ⟨e', by rw [upd_ne nlD]; exact hm6⟩, qs ++ [y], Fqs.snoc (seqT_but But.upd hD6 hr) (Fqs.but But.upd hD6 (Fqs.but b6 hm' fq)), by simp [hq], fun q h => ?_⟩, upd_same⟩
      · have h2 := b6 _ _ nx (bD _ _ nx h)
        rw [upd_ne (fun e => by subst e; rw [nD] at h; cases h)]
        exact h2
      · rcases List.mem_append.mp h with h | h
        · exact hz q h
        · rw [List.mem_singleton.mp h]; exact vk
    rintro lv0 vv0 K2 nlv ⟨bK, ⟨e2', hk2⟩, qs0, fq0, hq0, vok0⟩ hlv0
    have ht7 := seqT_but bK hk1 ht6
    refine k_gn ?_
    dsimp only
    refine k_cut (fun σ H' => ∃ (t' lv : Addr) (top' : Rat) (vv : List V) (qs : List Rat) (bad : Nat), σ = [some (.ref a), some (.ref l3), some (.ref t'), some (.int (m : Int)), some (.bl ag), some (.ref fn), some (.ref lv), none, some (.int (bad : Int)), some (.ref fg), some odd, some (.ref u), none, none] ∧ But l3 K2 H' ∧ SqT K H' t' (Fr.fq top') ∧ 0 < top' ∧ Fr.Sz 5 top' ∧ H' lv = some (.lst vv) ∧ Fqs K H' vv qs ∧ qs.length = m ∧ ∀ q ∈ qs, Gm.Vok top' q) ?_ ?_
    · cases ag with
      | true =>
        walk_at "go"
        exact ⟨t, lv0, top, vv0, qs0, bad0, rfl, But.of (Same.refl _), ht7, tp, st, hlv0, fq0, hq0, vok0⟩
      | false =>
        walk_at "go"
        refine ⟨l3, e2', f3, 4, rfl, hk2, by decide, by decide, fun rx e4 K3 b3' hk3 rx0 rx1 => ?_⟩
        have im3 := imm_but b3' hk2
        have nlv3 : lv0 ≠ l3 := fun e => by subst e; rw [hk1] at nlv; cases nlv
        walk_at "go"
        refine k_if (fun _ => ?_) (fun _ => ?_)
        · walk_at "go"
          refine k_tupx (fun t' K4 nt s4 ht' => ?_) (by simp [sizeLine_eq])
          walk_at "go"
          refine ⟨(m : Int), 2, rfl, by decide, okd_den (n := 2) (by decide) (by decide) (by decide), fun p5 K5 s5 n5 hp5 => ?_⟩
          walk_at "go"
          refine k_lstx (fun v6 K6 n6 s6 hv6 => ?_) (by simp [sizeLine_eq])
          walk_at "go"
          refine k_tupx (fun z7 K7 n7 s7 hz7 => ?_) (by simp [sizeLine_eq])
          walk_at "go"
          refine k_lstx (fun v8 K8 n8 s8 hv8 => ?_) (by simp [sizeLine_eq])
          walk_at "go"
          refine k_mulR hv8 (by rw [sizeLine_eq]; exact ⟨by omega, by omega, by show 1 * _ ≤ _; omega⟩) (fun v9 K9 n9 s9 hv9 => ?_)
          rw [rep1L, show ((m : Int) - 1).toNat = m - 1 by omega] at hv9
          walk_at "go"
          refine k_addL (s9 _ _ (s8 _ _ (s7 _ _ hv6))) hv9 (fun v10 K10 n10 s10 hv10 => ?_) (by rw [List.length_replicate, sizeLine_eq]; simp; omega)
          walk_at "go"
          have q0 := Int.emod_nonneg (bad0 : Int) (show (m : Int) ≠ 0 by omega)
          obtain ⟨b', eb'⟩ := Int.eq_ofNat_of_zero_le (show 0 ≤ 1 + (bad0 : Int) % (m : Int) by omega)
          have eh : Rat.divInt (m : Int) 2 = (m : Rat) / 2 := by rw [Rat.divInt_eq_div]; rfl
          rw [eh] at hp5
          have s510 := s6.trans (s7.trans (s8.trans (s9.trans s10)))
          have s410 := s5.trans s510
          have mp := Gm.nat_pos (n := m) (by omega)
          refine ⟨t', v10, (m : Rat), _, ((m : Rat) / 2) :: List.replicate (m - 1) 0, b', by rw [eb']; rfl, b3'.trans (But.of (s4.trans s410)), seqT_same s410 (SqT.of ht'), mp, ⟨by show ((m : Int)).natAbs < 32; omega, by show 1 < 2 ^ 5; decide⟩, hv10, .cons ⟨p5, rfl, seqT_same s510 hp5⟩ (fqs_repL (by rw [Cm.fq0]; exact SqT.of ((s8.trans (s9.trans s10)) _ _ hz7)) _), by rw [List.length_cons, List.length_replicate]; omega, fun q hq => ?_⟩
          rcases List.mem_cons.mp hq with rfl | h
          · exact vok_half mm1 mm9
          · rw [List.eq_of_mem_replicate h]; exact vok_zero
        · exact ⟨t, lv0, top, vv0, qs0, bad0, rfl, b3', seqT_imm im3 ht7, tp, st, b3' _ _ nlv3 hlv0, fq0.imm im3, hq0, vok0⟩
    rintro σ K4 ⟨t', lv, top', vv, qs, bad, rfl, b4', ht', tp', st', hlv, fq, hq, vok⟩
    have sC4 : Same GC K4 := But.same nl3 k1 (bK.trans b4')
    have hfn4 := sC4 _ _ hfn
    have hct4 := sC4 _ _ hct
    have hfg4 := sC4 _ _ hfgC
    have hcg4 := sC4 _ _ hcgC
    have imA4 : Imm GA K4 := imC.trans (imm_same sC4)
    have hfz4 := frz_imm imA4 hfz
    have fps4 := fpsA.imm imA4
    have odd4 := oddA.imm imA4
    walk_at "go"
    refine k_tupx (fun kp K5 nkp s5 hkp => ?_) (by simp [sizeLine_eq])
    walk_at "go"
    refine k_callLd ?_
    walk_at "go"
    refine k_makex (fun ra dxa K6 nra nda s6 hra6 oo6 => ⟨ra, dxa, .ref fn, rfl, hra6, fun K7 b7 hra7 => ⟨rfl, ?_⟩⟩)
    have s57 : Same K5 K7 := But.same nra s6 b7
    walk_at "go"
    refine k_makex (fun g dg K8 ng ndg s8 hg8 oo8 => ⟨g, dg, t', ra, m, ag, top', .told (Gm.phi bad ps), rfl, hg8, seqT_same (s5.trans (s57.trans s8)) ht', fun z => (by subst z; rw [hra7] at ng; cases ng), fun lg K9 b9 nlg mkG => ⟨rfl, ?_⟩⟩)
    have s79 : Same K7 K9 := But.same ng s8 b9
    have s59 := s57.trans s79
    have s49 := s5.trans s59
    walk_at "go"
    refine fun cs KA LA => ?_
    have sA9 := LA.gone.same
    have s4A := s49.trans sA9
    have Ct : Clo KA fn _ ["_law_bad", "_law_good", "_law_odd"] [.int (bad : Int), .ref fg, odd] := LA.gone.made (nsc := C8.fnScope s_law___law_told) (js := [8, 9, 10]) (by decide +kernel) rfl (s49 _ _ hfn4) (s49 _ _ hct4) rfl rfl
    have Cg : Clo KA fg _ ["_law_parts"] [.ref u] := LA.gone.made (nsc := C8.fnScope s_law___law_good) (js := [11]) (by decide +kernel) rfl (s49 _ _ hfg4) (s49 _ _ hcg4) rfl rfl
    have hgd : GdAt K KA fg _ u o us0 ps := ⟨⟨_, _, _, rfl⟩, Cg, (s4A _ _ hfz4), fps4.same s4A, pne, by omega⟩
    have gat : GAt K KA g lg (Gm.init m ag top' (.told (Gm.phi bad ps))) := mkG KA sA9 ⟨dxa, fn, sA9 _ _ (s79 _ _ hra7), ⟨_, _, bad, fg, u, odd, o, us0, ps, ⟨_, _, _, rfl⟩, Ct, hgd, (fun z => by
        obtain ⟨y, _, ey⟩ := clo_cells (sn := C8.fnScope s_law___law_told) (by decide +kernel) rfl _ z
        exact LA.nin (s49 _ _ hfg4) ((LA.cel _).mpr ⟨y, ey⟩)), (fun z => by
        obtain ⟨y, _, ey⟩ := clo_cells (sn := C8.fnScope s_law___law_told) (by decide +kernel) rfl _ z
        exact LA.nin (s49 _ _ hcg4) ((LA.cel _).mpr ⟨y, ey⟩)), LA.gone.apart (n1 := C8.fnScope s_law___law_good) (n2 := C8.fnScope s_law___law_told) (by decide +kernel) (by decide +kernel) rfl rfl (by decide +kernel), odd4.imm (imm_same s4A), rfl⟩⟩
    obtain ⟨dxg, fsg, _, hig⟩ := gat.ins
    obtain ⟨vsl, hll⟩ := gat.lst
    have hlv8 := (s5.trans (s57.trans s8)) _ _ hlv
    have nll : lv ≠ lg := fun e => by subst e; rw [hlv8] at nlg; cases nlg
    refine ⟨g, lg, kp, t', lv, fg, u, vv, us0, m, ag, top', qs, ps, _, o, bad, rfl, gat, SqT.of ((s59.trans sA9) _ _ hkp), seqT_same s4A ht', s4A _ _ hlv, nll, fq.same s4A, hgd, hq, mm1, mm9, tp', st', vok, Gm.phi_ok (by decide) pne pz, fun H' b' => ⟨fun c hc => ?_, kk _⟩⟩
    obtain ⟨y, e⟩ := (LA.cel c).mp hc
    obtain ⟨o', v', h', _⟩ := LA.gone.pins y c e
    rw [b' _ _ (ne_of h' hig (by intro z; cases z)) (ne_of h' hll (by intro z; cases z)) h', h']
end
end Lw
namespace Lw
open PySem PySem.Spec PyProof.Rows L2 Gx
theorem facts {P : Program} {w : World} {K : PySem.W.Frag} {h : Heap} {mg : Str → Option Value} {f : Addr} (X : K.In h) (G : h.Ns mainGlobals mg) (hfa : mg ("law" : Str) = some (.ref f)) (c : He.SaysD fa fn K) (tb : TabsOk tf K h) (cx : (exl.all fun f => f K) = true) :
    ∃ fd : FuncData, (∀ (s : Shared) (v : Value), BindsTo s fd ⟨[v], []⟩ [("_law_script", v)]) ∧ ∀ base : Heap, K.In base → base.Ns mainGlobals mg → (∀ p ∈ tf, LamX.TabB base mg (He.cT K p).1 (He.cT K p).2) → FnOk P w K mg base CX0 10 f fd ["_law_script"] (sp_law K) := by
  obtain ⟨fd0, F0⟩ := c.def_ 0 (d := d_NoStake___init__) rfl
  obtain ⟨fd1, F1⟩ := c.def_ 1 (d := d_is_whole) rfl
  obtain ⟨fd2, F2⟩ := c.def_ 2 (d := d_in_common) rfl
  obtain ⟨fd3, F3⟩ := c.def_ 3 (d := d_lowest) rfl
  obtain ⟨fd4, F4⟩ := c.def_ 4 (d := d_plus) rfl
  obtain ⟨fd5, F5⟩ := c.def_ 5 (d := d_minus) rfl
  obtain ⟨fd6, F6⟩ := c.def_ 6 (d := d_times) rfl
  obtain ⟨fd7, F7⟩ := c.def_ 7 (d := d_over) rfl
  obtain ⟨fd8, F8⟩ := c.def_ 8 (d := d_below) rfl
  obtain ⟨fd9, F9⟩ := c.def_ 9 (d := d_is_fraction) rfl
  obtain ⟨fd10, F10⟩ := c.def_ 10 (d := d_Game___init__) rfl
  obtain ⟨fd11, F11⟩ := c.def_ 11 (d := d_Game_ended) rfl
  obtain ⟨fd12, F12⟩ := c.def_ 12 (d := d_Game_price) rfl
  obtain ⟨fd13, F13⟩ := c.def_ 13 (d := d_Game_worth_behind) rfl
  obtain ⟨fd14, F14⟩ := c.def_ 14 (d := d_Game_play) rfl
  obtain ⟨fd15, F15⟩ := c.def_ 15 (d := d_Game_worth) rfl
  obtain ⟨fd16, F16⟩ := c.def_ 16 (d := d_Game_turns) rfl
  obtain ⟨fd17, F17⟩ := c.def_ 17 (d := d_Game_past) rfl
  obtain ⟨fd18, F18⟩ := c.def_ 18 (d := d_Game_reached) rfl
  obtain ⟨fd19, F19⟩ := c.def_ 19 (d := d_within) rfl
  obtain ⟨fd20, F20⟩ := c.def_ 20 (d := d_Asked___init__) rfl
  obtain ⟨fd21, F21⟩ := c.def_ 21 (d := d_Asked_stake) rfl
  obtain ⟨fd22, F22⟩ := c.def_ 22 (d := d__law_cell_at) rfl
  obtain ⟨fd23, F23⟩ := c.def_ 23 (d := d__law_begin) rfl
  obtain ⟨fd24, F24⟩ := c.def_ 24 (d := d__law_draw) rfl
  obtain ⟨fd25, F25⟩ := c.def_ 25 (d := d__law_low) rfl
  obtain ⟨fd26, F26⟩ := c.def_ 26 (d := d__law_add) rfl
  obtain ⟨fd27, F27⟩ := c.def_ 27 (d := d__law_times) rfl
  obtain ⟨fd28, F28⟩ := c.def_ 28 (d := d__law_sum) rfl
  obtain ⟨fd29, F29⟩ := c.def_ 29 (d := d__law_top) rfl
  obtain ⟨fd30, F30⟩ := c.def_ 30 (d := d__law_value) rfl
  obtain ⟨fd31, F31⟩ := c.def_ 31 (d := d__law_is) rfl
  obtain ⟨fd32, F32⟩ := c.def_ 32 (d := d__law_price) rfl
  obtain ⟨fd33, F33⟩ := c.def_ 33 (d := d__law_behind) rfl
  obtain ⟨fd34, F34⟩ := c.def_ 34 (d := d__law_played) rfl
  obtain ⟨fd35, F35⟩ := c.def_ 35 (d := d__law_stands) rfl
  obtain ⟨fd36, F36⟩ := c.def_ 36 (d := d__law_twice) rfl
  obtain ⟨fd37, F37⟩ := c.def_ 37 (d := d__law_right) rfl
  obtain ⟨fd38, F38⟩ := c.def_ 38 (d := d_law) rfl
  have T : Txt K mg := { n_ValueError := He.free_ok X G (c.fact 0 rfl), n_abs := He.free_ok X G (c.fact 1 rfl), n_bool := He.free_ok X G (c.fact 2 rfl), n_int := He.free_ok X G (c.fact 3 rfl), n_isinstance := He.free_ok X G (c.fact 4 rfl), n_len := He.free_ok X G (c.fact 5 rfl), n_range := He.free_ok X G (c.fact 6 rfl), n_sum := He.free_ok X G (c.fact 7 rfl), n_tuple := He.free_ok X G (c.fact 8 rfl), c_Ended := ⟨_, He.glo_ok X G (c.fact 9 rfl), rfl⟩, c_NOUGHT_games := ⟨_, He.glo_ok X G (c.fact 10 rfl), rfl⟩, c_NOUGHT_rules := ⟨_, He.glo_ok X G (c.fact 11 rfl), rfl⟩, c_NoBallot := ⟨_, He.glo_ok X G (c.fact 12 rfl), rfl⟩, c_NoFraction := ⟨_, He.glo_ok X G (c.fact 13 rfl), rfl⟩, c_NoMargin := ⟨_, He.glo_ok X G (c.fact 14 rfl), rfl⟩, c_NoName := ⟨_, He.glo_ok X G (c.fact 15 rfl), rfl⟩, c_NoNumber := ⟨_, He.glo_ok X G (c.fact 16 rfl), rfl⟩, c_NoOutcome := ⟨_, He.glo_ok X G (c.fact 17 rfl), rfl⟩, c_NoRow := ⟨_, He.glo_ok X G (c.fact 18 rfl), rfl⟩, c_NoStake := ⟨_, He.glo_ok X G (c.fact 19 rfl), rfl⟩, c_NoText := ⟨_, He.glo_ok X G (c.fact 20 rfl), rfl⟩, c_ONE_games := ⟨_, He.glo_ok X G (c.fact 21 rfl), rfl⟩, c_ONE_rules := ⟨_, He.glo_ok X G (c.fact 22 rfl), rfl⟩, c_TooMany := ⟨_, He.glo_ok X G (c.fact 23 rfl), rfl⟩, cl_Game := He.cls_ok (c.fact 24 rfl), f_Game_many := He.noat_ok (c.fact 25 rfl), f_Game_again := He.noat_ok (c.fact 26 rfl), f_Game_highest := He.noat_ok (c.fact 27 rfl), f_Game_rule := He.noat_ok (c.fact 28 rfl), f_Game_drawn_values := He.noat_ok (c.fact 29 rfl), f_Game_sum_so_far := He.noat_ok (c.fact 30 rfl), f_Game_now := He.noat_ok (c.fact 31 rfl), f_Game_most := He.noat_ok (c.fact 32 rfl), f_Game_certain := He.noat_ok (c.fact 33 rfl), cl_Asked := He.cls_ok (c.fact 34 rfl), f_Asked_function := He.noat_ok (c.fact 35 rfl), me_Game_ended := He.meth_ok (c.fact 36 rfl), me_Asked_stake := He.meth_ok (c.fact 37 rfl), me_Game_price := He.meth_ok (c.fact 38 rfl), me_Game_worth_behind := He.meth_ok (c.fact 39 rfl), me_Game_play := He.meth_ok (c.fact 40 rfl), me_Game_reached := He.meth_ok (c.fact 41 rfl), me_Game_turns := He.meth_ok (c.fact 42 rfl), me_Game_past := He.meth_ok (c.fact 43 rfl), me_Game_worth := He.meth_ok (c.fact 44 rfl), mk_Game := He.mkr_ok (c.fact 45 rfl), gk_Game := He.glo_ok X G (c.fact 46 rfl), mk_Asked := He.mkr_ok (c.fact 47 rfl), gk_Asked := He.glo_ok X G (c.fact 48 rfl), g_Ended := He.glo_ok X G (c.fact 49 rfl), g_NoFraction := He.glo_ok X G (c.fact 50 rfl), g_NoStake := He.glo_ok X G (c.fact 51 rfl), g_SureError := He.glo_ok X G (c.fact 52 rfl), m_Ended_SureError := He.exm_ok (c.fact 53 rfl), m_NoStake_SureError := He.exm_ok (c.fact 54 rfl), f_NoStake_turn := He.noat_ok (c.fact 55 rfl), x_Ended := He.exc_ok (c.fact 56 rfl), x_NoFraction := He.exc_ok (c.fact 57 rfl), o_NoStake := oexB_ok (xat cx 0 rfl), oi_NoStake := oinB_ok (xat cx 1 rfl), t_NOUGHT_games := fun H => He.tupB_ok (xat cx 2 rfl) H, t_NOUGHT_rules := fun H => He.tupB_ok (xat cx 3 rfl) H, t_ONE_games := fun H => He.tupB_ok (xat cx 4 rfl) H, t_ONE_rules := fun H => He.tupB_ok (xat cx 5 rfl) H, s_SureError := supB_ok (xat cx 6 rfl), xf_NoStake := xfB_ok (xat cx 7 rfl), e_Ended := excB_ok (xat cx 8 rfl), e_NoStake := excB_ok (xat cx 9 rfl), i_Ended_Ended := of_decide_eq_true (xat cx 10 rfl), i_Ended_NoBallot := of_decide_eq_true (xat cx 11 rfl), i_Ended_NoFraction := of_decide_eq_true (xat cx 12 rfl), i_Ended_NoMargin := of_decide_eq_true (xat cx 13 rfl), i_Ended_NoName := of_decide_eq_true (xat cx 14 rfl), i_Ended_NoNumber := of_decide_eq_true (xat cx 15 rfl), i_Ended_NoOutcome := of_decide_eq_true (xat cx 16 rfl), i_Ended_NoRow := of_decide_eq_true (xat cx 17 rfl), i_Ended_NoStake := of_decide_eq_true (xat cx 18 rfl), i_Ended_NoText := of_decide_eq_true (xat cx 19 rfl), i_Ended_TooMany := of_decide_eq_true (xat cx 20 rfl), i_Ended_ValueError := of_decide_eq_true (xat cx 21 rfl), i_NoStake_Ended := of_decide_eq_true (xat cx 22 rfl), i_NoStake_NoBallot := of_decide_eq_true (xat cx 23 rfl), i_NoStake_NoFraction := of_decide_eq_true (xat cx 24 rfl), i_NoStake_NoMargin := of_decide_eq_true (xat cx 25 rfl), i_NoStake_NoName := of_decide_eq_true (xat cx 26 rfl), i_NoStake_NoNumber := of_decide_eq_true (xat cx 27 rfl), i_NoStake_NoOutcome := of_decide_eq_true (xat cx 28 rfl), i_NoStake_NoRow := of_decide_eq_true (xat cx 29 rfl), i_NoStake_NoStake := of_decide_eq_true (xat cx 30 rfl), i_NoStake_NoText := of_decide_eq_true (xat cx 31 rfl), i_NoStake_TooMany := of_decide_eq_true (xat cx 32 rfl), i_NoStake_ValueError := of_decide_eq_true (xat cx 33 rfl) }
  have g_is_whole := He.glo_ok X G (c.fact 58 (f := .glo "is_whole") rfl)
  have g_in_common := He.glo_ok X G (c.fact 59 (f := .glo "in_common") rfl)
  have g_lowest := He.glo_ok X G (c.fact 60 (f := .glo "lowest") rfl)
  have g_plus := He.glo_ok X G (c.fact 61 (f := .glo "plus") rfl)
  have g_minus := He.glo_ok X G (c.fact 62 (f := .glo "minus") rfl)
  have g_times := He.glo_ok X G (c.fact 63 (f := .glo "times") rfl)
  have g_over := He.glo_ok X G (c.fact 64 (f := .glo "over") rfl)
  have g_below := He.glo_ok X G (c.fact 65 (f := .glo "below") rfl)
  have g_is_fraction := He.glo_ok X G (c.fact 66 (f := .glo "is_fraction") rfl)
  have g_within := He.glo_ok X G (c.fact 67 (f := .glo "within") rfl)
  have g__law_cell_at := He.glo_ok X G (c.fact 68 (f := .glo "_law_cell_at") rfl)
  have g__law_begin := He.glo_ok X G (c.fact 69 (f := .glo "_law_begin") rfl)
  have g__law_draw := He.glo_ok X G (c.fact 70 (f := .glo "_law_draw") rfl)
  have g__law_low := He.glo_ok X G (c.fact 71 (f := .glo "_law_low") rfl)
  have g__law_add := He.glo_ok X G (c.fact 72 (f := .glo "_law_add") rfl)
  have g__law_times := He.glo_ok X G (c.fact 73 (f := .glo "_law_times") rfl)
  have g__law_sum := He.glo_ok X G (c.fact 74 (f := .glo "_law_sum") rfl)
  have g__law_top := He.glo_ok X G (c.fact 75 (f := .glo "_law_top") rfl)
  have g__law_value := He.glo_ok X G (c.fact 76 (f := .glo "_law_value") rfl)
  have g__law_is := He.glo_ok X G (c.fact 77 (f := .glo "_law_is") rfl)
  have g__law_price := He.glo_ok X G (c.fact 78 (f := .glo "_law_price") rfl)
  have g__law_behind := He.glo_ok X G (c.fact 79 (f := .glo "_law_behind") rfl)
  have g__law_played := He.glo_ok X G (c.fact 80 (f := .glo "_law_played") rfl)
  have g__law_stands := He.glo_ok X G (c.fact 81 (f := .glo "_law_stands") rfl)
  have g__law_twice := He.glo_ok X G (c.fact 82 (f := .glo "_law_twice") rfl)
  have g__law_right := He.glo_ok X G (c.fact 83 (f := .glo "_law_right") rfl)
  have g_law := He.glo_ok X G (c.fact 84 (f := .glo "law") rfl)
  have e := hfa.symm.trans g_law
  cases e
  have b := FunD.bindsA (ps := ["_law_script"]) F38 fun _ _ _ _ _ _ us hl => match us, hl with | [_], _ => rfl
  refine ⟨fd38, fun s v => b s [v] rfl, fun base _ _ hTB => ?_⟩
  have c_NoStake___init__ : XCl P w K mg base 1 "NoStake" ["self", "turn"] (sp_NoStake___init__ K) := ⟨fd0, T.o_NoStake, T.oi_NoStake.1, T.oi_NoStake.2, ok_NoStake___init__ F0 T, T.g_NoStake, F0.bindsN fun _ _ _ _ _ _ us hl => match us, hl with | [_, _], _ => rfl⟩
  have c_is_whole : Cl P w K mg base 1 "is_whole" ["thing"] (sp_is_whole K) := ⟨_, fd1, ok_is_whole F1 T , g_is_whole, F1.kp, F1.bindsN fun _ _ _ _ _ _ us hl => match us, hl with | [_], _ => rfl⟩
  have c_in_common : Cl P w K mg base 1 "in_common" ["a", "b"] (sp_in_common K) := ⟨_, fd2, ok_in_common F2 T , g_in_common, F2.kp, F2.bindsN fun _ _ _ _ _ _ us hl => match us, hl with | [_, _], _ => rfl⟩
  have c_below : Cl P w K mg base 1 "below" ["x", "y"] (sp_below K) := ⟨_, fd8, ok_below F8 T , g_below, F8.kp, F8.bindsN fun _ _ _ _ _ _ us hl => match us, hl with | [_, _], _ => rfl⟩
  have O_Game___init__ := ok_Game___init__ (P := P) (w := w) (mg := mg) (base := base) F10 T 
  have k_Game : KCl P w K mg base 1 "Game" ["self", "many", "again", "top", "rule"] (sp_Game___init__ K) := ⟨_, fd10, T.mk_Game, O_Game___init__, T.gk_Game, F10.bindsN fun _ _ _ _ _ _ us hl => match us, hl with | [_, _, _, _, _], _ => rfl⟩
  have O_Game_ended := ok_Game_ended (P := P) (w := w) (mg := mg) (base := base) F11 T 
  have m_Game_ended : MCl P w K mg base 1 "Game" "ended" ["self"] (sp_Game_ended K) := ⟨_, fd11, T.cl_Game, T.me_Game_ended, O_Game_ended, F11.bindsN fun _ _ _ _ _ _ us hl => match us, hl with | [_], _ => rfl⟩
  have O_Game_worth := ok_Game_worth (P := P) (w := w) (mg := mg) (base := base) F15 T 
  have m_Game_worth : MCl P w K mg base 1 "Game" "worth" ["self"] (sp_Game_worth K) := ⟨_, fd15, T.cl_Game, T.me_Game_worth, O_Game_worth, F15.bindsN fun _ _ _ _ _ _ us hl => match us, hl with | [_], _ => rfl⟩
  have O_Game_turns := ok_Game_turns (P := P) (w := w) (mg := mg) (base := base) F16 T 
  have m_Game_turns : MCl P w K mg base 1 "Game" "turns" ["self"] (sp_Game_turns K) := ⟨_, fd16, T.cl_Game, T.me_Game_turns, O_Game_turns, F16.bindsN fun _ _ _ _ _ _ us hl => match us, hl with | [_], _ => rfl⟩
  have O_Game_past := ok_Game_past (P := P) (w := w) (mg := mg) (base := base) F17 T 
  have m_Game_past : MCl P w K mg base 1 "Game" "past" ["self"] (sp_Game_past K) := ⟨_, fd17, T.cl_Game, T.me_Game_past, O_Game_past, F17.bindsN fun _ _ _ _ _ _ us hl => match us, hl with | [_], _ => rfl⟩
  have O_Asked___init__ := ok_Asked___init__ (P := P) (w := w) (mg := mg) (base := base) F20 T 
  have k_Asked : KCl P w K mg base 1 "Asked" ["self", "function"] (sp_Asked___init__ K) := ⟨_, fd20, T.mk_Asked, O_Asked___init__, T.gk_Asked, F20.bindsN fun _ _ _ _ _ _ us hl => match us, hl with | [_, _], _ => rfl⟩
  have c__law_cell_at : Cl P w K mg base 1 "_law_cell_at" ["_law_script", "_law_k"] (sp__law_cell_at K) := ⟨_, fd22, ok__law_cell_at F22 T , g__law_cell_at, F22.kp, F22.bindsN fun _ _ _ _ _ _ us hl => match us, hl with | [_, _], _ => rfl⟩
  have c__law_begin : Cl P w K mg base 1 "_law_begin" ["_law_cell"] (sp__law_begin K) := ⟨_, fd23, ok__law_begin F23 T , g__law_begin, F23.kp, F23.bindsN fun _ _ _ _ _ _ us hl => match us, hl with | [_], _ => rfl⟩
  have c__law_draw : Cl P w K mg base 1 "_law_draw" ["_law_state", "_law_many"] (sp__law_draw K) := ⟨_, fd24, ok__law_draw F24 T , g__law_draw, F24.kp, F24.bindsN fun _ _ _ _ _ _ us hl => match us, hl with | [_, _], _ => rfl⟩
  have c__law_low : Cl P w K mg base 1 "_law_low" ["_law_a", "_law_b"] (sp__law_low K) := ⟨_, fd25, ok__law_low F25 T , g__law_low, F25.kp, F25.bindsN fun _ _ _ _ _ _ us hl => match us, hl with | [_, _], _ => rfl⟩
  have c__law_is : Cl P w K mg base 1 "_law_is" ["_law_found", "_law_due"] (sp__law_is K) := ⟨_, fd31, ok__law_is F31 T , g__law_is, F31.kp, F31.bindsN fun _ _ _ _ _ _ us hl => match us, hl with | [_, _], _ => rfl⟩
  have c_law___law_good : CloCl P w K mg base 1 IsF_law___law_good ["_law_past"] ["_law_parts"] (sp_law___law_good K) := ok_law___law_good T 
  have c_lowest : Cl P w K mg base 2 "lowest" ["a", "b"] (sp_lowest K) := ⟨_, fd3, ok_lowest F3 T c_in_common, g_lowest, F3.kp, F3.bindsN fun _ _ _ _ _ _ us hl => match us, hl with | [_, _], _ => rfl⟩
  have c_is_fraction : Cl P w K mg base 2 "is_fraction" ["thing"] (sp_is_fraction K) := ⟨_, fd9, ok_is_fraction F9 T c_in_common c_is_whole, g_is_fraction, F9.kp, F9.bindsN fun _ _ _ _ _ _ us hl => match us, hl with | [_], _ => rfl⟩
  have c_within : Cl P w K mg base 2 "within" ["x"] (sp_within K) := ⟨_, fd19, ok_within F19 T c_below, g_within, F19.kp, F19.bindsN fun _ _ _ _ _ _ us hl => match us, hl with | [_], _ => rfl⟩
  have c__law_add : Cl P w K mg base 2 "_law_add" ["_law_one", "_law_other"] (sp__law_add K) := ⟨_, fd26, ok__law_add F26 T c__law_low, g__law_add, F26.kp, F26.bindsN fun _ _ _ _ _ _ us hl => match us, hl with | [_, _], _ => rfl⟩
  have c__law_times : Cl P w K mg base 2 "_law_times" ["_law_one", "_law_other"] (sp__law_times K) := ⟨_, fd27, ok__law_times F27 T c__law_low, g__law_times, F27.kp, F27.bindsN fun _ _ _ _ _ _ us hl => match us, hl with | [_, _], _ => rfl⟩
  have c__law_top : Cl P w K mg base 2 "_law_top" ["_law_state"] (sp__law_top K) := ⟨_, fd29, ok__law_top F29 T c__law_low c__law_draw, g__law_top, F29.kp, F29.bindsN fun _ _ _ _ _ _ us hl => match us, hl with | [_], _ => rfl⟩
  have c_law___law_told : CloCl P w K mg base 2 IsF_law___law_told ["_law_past"] ["_law_bad", "_law_good", "_law_odd"] (sp_law___law_told K) := ok_law___law_told T c_law___law_good
  have c_plus : Cl P w K mg base 3 "plus" ["x", "y"] (sp_plus K) := ⟨_, fd4, ok_plus F4 T c_lowest, g_plus, F4.kp, F4.bindsN fun _ _ _ _ _ _ us hl => match us, hl with | [_, _], _ => rfl⟩
  have c_minus : Cl P w K mg base 3 "minus" ["x", "y"] (sp_minus K) := ⟨_, fd5, ok_minus F5 T c_lowest, g_minus, F5.kp, F5.bindsN fun _ _ _ _ _ _ us hl => match us, hl with | [_, _], _ => rfl⟩
  have c_times : Cl P w K mg base 3 "times" ["x", "y"] (sp_times K) := ⟨_, fd6, ok_times F6 T c_lowest, g_times, F6.kp, F6.bindsN fun _ _ _ _ _ _ us hl => match us, hl with | [_, _], _ => rfl⟩
  have c_over : Cl P w K mg base 3 "over" ["x", "y"] (sp_over K) := ⟨_, fd7, ok_over F7 T c_lowest, g_over, F7.kp, F7.bindsN fun _ _ _ _ _ _ us hl => match us, hl with | [_, _], _ => rfl⟩
  have O_Asked_stake := ok_Asked_stake (P := P) (w := w) (mg := mg) (base := base) F21 T c_within c_is_fraction c_NoStake___init__ c_law___law_told
  have m_Asked_stake : MCl P w K mg base 3 "Asked" "stake" ["self", "past", "price", "top"] (sp_Asked_stake K) := ⟨_, fd21, T.cl_Asked, T.me_Asked_stake, O_Asked_stake, F21.bindsN fun _ _ _ _ _ _ us hl => match us, hl with | [_, _, _, _], _ => rfl⟩
  have c__law_sum : Cl P w K mg base 3 "_law_sum" ["_law_some"] (sp__law_sum K) := ⟨_, fd28, ok__law_sum F28 T c__law_add, g__law_sum, F28.kp, F28.bindsN fun _ _ _ _ _ _ us hl => match us, hl with | [_], _ => rfl⟩
  have c__law_value : Cl P w K mg base 3 "_law_value" ["_law_state", "_law_top_here"] (sp__law_value K) := ⟨_, fd30, ok__law_value F30 T c__law_times c__law_low c__law_draw, g__law_value, F30.kp, F30.bindsN fun _ _ _ _ _ _ us hl => match us, hl with | [_, _], _ => rfl⟩
  have O_Game_price := ok_Game_price (P := P) (w := w) (mg := mg) (base := base) F12 T c_over c_minus c_lowest m_Game_ended
  have m_Game_price : MCl P w K mg base 4 "Game" "price" ["self"] (sp_Game_price K) := ⟨_, fd12, T.cl_Game, T.me_Game_price, O_Game_price, F12.bindsN fun _ _ _ _ _ _ us hl => match us, hl with | [_], _ => rfl⟩
  have O_Game_reached := ok_Game_reached (P := P) (w := w) (mg := mg) (base := base) F18 T c_below c_times
  have m_Game_reached : MCl P w K mg base 4 "Game" "reached" ["self", "limit"] (sp_Game_reached K) := ⟨_, fd18, T.cl_Game, T.me_Game_reached, O_Game_reached, F18.bindsN fun _ _ _ _ _ _ us hl => match us, hl with | [_, _], _ => rfl⟩
  have c__law_price : Cl P w K mg base 4 "_law_price" ["_law_many", "_law_again", "_law_past"] (sp__law_price K) := ⟨_, fd32, ok__law_price F32 T c__law_low c__law_add c__law_times c__law_sum, g__law_price, F32.kp, F32.bindsN fun _ _ _ _ _ _ us hl => match us, hl with | [_, _, _], _ => rfl⟩
  have O_Game_worth_behind := ok_Game_worth_behind (P := P) (w := w) (mg := mg) (base := base) F13 T c_times c_plus c_minus c_over m_Asked_stake m_Game_price
  have m_Game_worth_behind : MCl P w K mg base 5 "Game" "worth_behind" ["self", "value"] (sp_Game_worth_behind K) := ⟨_, fd13, T.cl_Game, T.me_Game_worth_behind, O_Game_worth_behind, F13.bindsN fun _ _ _ _ _ _ us hl => match us, hl with | [_, _], _ => rfl⟩
  have c__law_behind : Cl P w K mg base 5 "_law_behind" ["_law_rule", "_law_many", "_law_again", "_law_top_here", "_law_past", "_law_worth", "_law_value_here"] (sp__law_behind K) := ⟨_, fd33, ok__law_behind F33 T c__law_times c__law_add c__law_low c_law___law_good c__law_sum c__law_price, g__law_behind, F33.kp, F33.bindsN fun _ _ _ _ _ _ us hl => match us, hl with | [_, _, _, _, _, _, _], _ => rfl⟩
  have c__law_stands : Cl P w K mg base 5 "_law_stands" ["_law_game", "_law_many", "_law_again", "_law_worth", "_law_past"] (sp__law_stands K) := ⟨_, fd35, ok__law_stands F35 T m_Game_reached m_Game_turns m_Game_past c__law_is m_Game_worth m_Game_price c__law_price, g__law_stands, F35.kp, F35.bindsN fun _ _ _ _ _ _ us hl => match us, hl with | [_, _, _, _, _], _ => rfl⟩
  have O_Game_play := ok_Game_play (P := P) (w := w) (mg := mg) (base := base) F14 T c_below c_lowest c_plus m_Game_worth_behind m_Game_ended
  have m_Game_play : MCl P w K mg base 6 "Game" "play" ["self", "value"] (sp_Game_play K) := ⟨_, fd14, T.cl_Game, T.me_Game_play, O_Game_play, F14.bindsN fun _ _ _ _ _ _ us hl => match us, hl with | [_, _], _ => rfl⟩
  have c__law_played : Cl P w K mg base 7 "_law_played" ["_law_game", "_law_value_here"] (sp__law_played K) := ⟨_, fd34, ok__law_played F34 T m_Game_play, g__law_played, F34.kp, F34.bindsN fun _ _ _ _ _ _ us hl => match us, hl with | [_, _], _ => rfl⟩
  have c__law_twice : Cl P w K mg base 8 "_law_twice" ["_law_game", "_law_kind", "_law_worth", "_law_past", "_law_value_here", "_law_due"] (sp__law_twice K) := ⟨_, fd36, ok__law_twice F36 T c__law_stands c__law_played, g__law_twice, F36.kp, F36.bindsN fun _ _ _ _ _ _ us hl => match us, hl with | [_, _, _, _, _, _], _ => rfl⟩
  have c__law_right : Cl P w K mg base 9 "_law_right" ["_law_game", "_law_kind", "_law_values", "_law_good_here", "_law_bad"] (sp__law_right K) := ⟨_, fd37, ok__law_right F37 T c__law_twice c__law_stands c__law_played c__law_behind, g__law_right, F37.kp, F37.bindsN fun _ _ _ _ _ _ us hl => match us, hl with | [_, _, _, _, _], _ => rfl⟩
  exact ok_law F38 T (hTB p_law___law_good (by decide)) c__law_right k_Game k_Asked c__law_draw c__law_low c__law_value c__law_begin c__law_cell_at c__law_top
end Lw
open PySem PySem.W PySem.Calls PyProof.Rows
theorem PySem.Challenge.cw_surecount_k35_plays_refused_holds : PySem.Challenge.rw_surecount_k35_plays_refused.Holds := by
  w_on; o_law
  refine HandSHeadRun.head_any (r := OpenLaw.row PySem.Challenge.rw_surecount_k35_plays_refused) (q := view (OpenLaw.row PySem.Challenge.rw_surecount_k35_plays_refused).prog [51]) (H := Lw.hk) (ob := Lw.ob) (M := 12000) (loose := Lw.loose) (d := HandSHeadRun.topDef (OpenLaw.row PySem.Challenge.rw_surecount_k35_plays_refused).prog 51) (kwd := []) Lw.ob_eq
    (by kernel_rfl) (fun s => by kernel_rfl) Lw.run (by kernel_rfl) (by kernel_rfl) (by kernel_rfl) (by rfl) (by first | assumption | decide +kernel) (by decide +kernel) ⟨rfl, rfl, rfl, rfl, rfl, by decide +kernel⟩ ?hw ?hc
  case hw => w_witness2
  case hc =>
    refine LamX.walk_ofTsE (l := PySem.Challenge.rw_surecount_k35_plays_refused) (n := 63) (k := 10) (x := "_law_script") (CX := fun _ => L2.CX0) rfl (by decide) (by kernel_rfl) ⟨rfl, by decide, by decide⟩ ?F (fun _ _ _ _ _ z => z)
    case F =>
      intro w mg fa h Y G hmg0
      obtain ⟨K, KX, c⟩ := Y
      have hmg : mg ("law" : PySem.Str) = some (.ref fa) := by
        have e : (HandSHeadRun.topDef (OpenLaw.row PySem.Challenge.rw_surecount_k35_plays_refused).prog 51).name = ("law" : PySem.Str) := by kernel_rfl
        rw [← e]
        exact hmg0
      obtain ⟨fd, hb, hF⟩ := Lw.facts (P := (PySem.Challenge.rw_surecount_k35_plays_refused).prog) (w := w) KX G hmg c.1 c.2.2 c.2.1
      have tb := c.2.2
      refine ⟨K, KX, fd, Lw.tf.map (He.cT K), Lw.sp_law K, fun p hp => ?_, fun p hp => ?_, fun p hp => ?_, hb, fun H a ns hl _ hT hS => ⟨a, ns, rfl, hS, hl, (hT _ (List.mem_map.mpr ⟨Lw.p_law___law_good, by decide, rfl⟩)), fun _ => rfl⟩, fun base h1 h2 h3 => hF base h1 h2 fun p hp => h3 _ (List.mem_map.mpr ⟨p, hp, rfl⟩)⟩
      · obtain ⟨d, hd, rfl⟩ := List.mem_map.mp hp
        exact tb.empty d hd
      · obtain ⟨d, hd, rfl⟩ := List.mem_map.mp hp
        exact tb.out d hd
      · obtain ⟨d, hd, rfl⟩ := List.mem_map.mp hp
        exact PySem.W.codeHd_of_K KX (tb.hd d hd)
