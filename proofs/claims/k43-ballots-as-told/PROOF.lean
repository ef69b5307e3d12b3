import PyProof.Rows.All
import Wide.All
import OpenK.AllK
import Wide.FinOn
import Lean
import HandS.ForMost
import HandS.ForExc
import HandS.Wide
import HandS.WideBits
import HandS.TupAny
import HandS.TupLe
import HandS.TryOnly
import HandS.TupMul
import HandS.Deep
import HandS.IsInst
import HandS.ExcIs
import KE.KExcIs
import KE.DataFind
import KE.GoesEnum
import KE.GoesMore
import KE.KxIndex
import KE.KeyNested
import HandS.ExcInit
import HandS.ExcField
import HandS.ClsMeth
import HandS.Style
import HandS.Codes
import HandS.Conv
import HandS.SetFor
import HandS.Zip
import HandS.More
import HandS.Replace
import HandS.RevRange
import HandS.Text
import HandS.Defaults
import HandS.Small
import HandS.HeadEnd
import HandS.HeadHook1
import HandS.HeadHook2
import HandS.HeadHook3
import HandS.HeadHook4
import HandS.Head0
import HandS.Head1
import HandS.Head2
import PySem.Challenge.RW_surecount_k43_ballots_as_told
set_option Elab.async false
set_option linter.all false
set_option maxRecDepth 100000
set_option maxHeartbeats 16000000
/-! ### own short words over the hand layer -/
namespace Gx
open PySem PySem.Spec PyProof.Rows L2
/-- all but l stays -/
def But (l : Addr) (H H' : Hp) : Prop := ∀ a o, a ≠ l → H a = some o → H' a = some o
theorem But.of {H H' : Hp} {l : Addr} (e : Same H H') : But l H H' := fun a o _ h => e a o h
theorem But.trans {H H1 H2 : Hp} {l : Addr} (a : But l H H1) (b : But l H1 H2) : But l H H2 := fun c o n h => b c o n (a c o n h)
theorem But.upd {H : Hp} {l : Addr} {o : HO} : But l H (upd H l o) := fun a u n h => by
  rw [upd_ne n]
  exact h
theorem same_new {H : Hp} {p : Addr} {o : HO} (h : H p = none) : Same H (upd H p o) := fun b u q => by
  rw [upd_ne (ne_of_none q h)]
  exact q
theorem But.same {H H1 H2 : Hp} {l : Addr} (n : H l = none) (a : Same H H1) (b : But l H1 H2) : Same H H2 := fun c o h => b c o (ne_of_none h n) (a c o h)
/-! ### reading facts through heaps -/
theorem up_same {H H' : Hp} (e : Same H H') {a : Addr} {o : HO} (h : H a = some o) : H' a = some o := e a o h
theorem up_but {H H' : Hp} {l : Addr} (e : But l H H') {a : Addr} {o : HO} (n : a ≠ l) (h : H a = some o) : H' a = some o := e a o n h
theorem seqL_same {K : PySem.W.Frag} {H H' : Hp} (e : Same H H') {a : Addr} {xs : List V} (h : SqL K H a xs) : SqL K H' a xs := e.seq h
theorem seqT_same {K : PySem.W.Frag} {H H' : Hp} (e : Same H H') {a : Addr} {xs : List V} (h : SqT K H a xs) : SqT K H' a xs := by
  rcases h with (h | ⟨o, h⟩) | h
  · exact .inl (.inl (e _ _ h))
  · exact .inl (.inr ⟨o, e _ _ h⟩)
  · exact .inr h
/-- tuples stay while a list changes -/
theorem seqT_but {K : PySem.W.Frag} {H H' : Hp} {l : Addr} {ys : List V} (e : But l H H') (hl : H l = some (.lst ys)) {a : Addr} {xs : List V} (h : SqT K H a xs) : SqT K H' a xs := by
  rcases h with (h | ⟨o, h⟩) | h
  · exact .inl (.inl (e _ _ (ne_of h hl (by intro z; cases z)) h))
  · exact .inl (.inr ⟨o, e _ _ (ne_of h hl (by intro z; cases z)) h⟩)
  · exact .inr h
theorem seqL_mono {K : PySem.W.Frag} {H H' : Hp} {a : Addr} {xs : List V} (h : SqL K H a xs) (e : ∀ o, H a = some o → (∀ ps, o ≠ .tbl ps) → H' a = some o) : SqL K H' a xs := by
  rcases h with (h | ⟨o, h⟩) | h
  · exact .inl (.inl (e _ h (by intro ps z; cases z)))
  · exact .inl (.inr ⟨o, e _ h (by intro ps z; cases z)⟩)
  · exact .inr h
theorem seqL_but {K : PySem.W.Frag} {H H' : Hp} {l : Addr} (e : But l H H') {a : Addr} (n : a ≠ l) {xs : List V} (h : SqL K H a xs) : SqL K H' a xs := by
  rcases h with (h | ⟨o, h⟩) | h
  · exact .inl (.inl (e _ _ n h))
  · exact .inl (.inr ⟨o, e _ _ n h⟩)
  · exact .inr h
/-! ### data through heaps -/
mutual
theorem dp_same {K : PySem.W.Frag} {H H' : Hp} (e : Same H H') : ∀ {d : PyData} {v : V}, Dp K H v d → Dp K H' v d
  | _, _, .non => .non
  | _, _, .bl b => .bl b
  | _, _, .int i => .int i
  | _, _, .str x => .str x
  | _, _, .lst h a => .lst (seqL_same e h) (dpAll_same e a)
  | _, _, .tup h a => .tup (seqT_same e h) (dpAll_same e a)
theorem dpAll_same {K : PySem.W.Frag} {H H' : Hp} (e : Same H H') : ∀ {ds : List PyData} {vs : List V}, DpAll K H vs ds → DpAll K H' vs ds
  | _, _, .nil => .nil
  | _, _, .cons a r => .cons (dp_same e a) (dpAll_same e r)
end
/-! data without lists -/
mutual
def noL : PyData → Bool
  | .list _ => false
  | .tuple ds => noLs ds
  | _ => true
def noLs : List PyData → Bool
  | [] => true
  | d :: ds => noL d && noLs ds
end
mutual
theorem dp_but {K : PySem.W.Frag} {H H' : Hp} {l : Addr} {ys : List V} (e : But l H H') (hl : H l = some (.lst ys)) : ∀ {d : PyData} {v : V}, noL d = true → Dp K H v d → Dp K H' v d
  | _, _, _, .non => .non
  | _, _, _, .bl b => .bl b
  | _, _, _, .int i => .int i
  | _, _, _, .str x => .str x
  | _, _, n, .lst h a => by simp [noL] at n
  | _, _, n, .tup h a => .tup (seqT_but e hl h) (dpAll_but e hl (by simpa [noL] using n) a)
theorem dpAll_but {K : PySem.W.Frag} {H H' : Hp} {l : Addr} {ys : List V} (e : But l H H') (hl : H l = some (.lst ys)) : ∀ {ds : List PyData} {vs : List V}, noLs ds = true → DpAll K H vs ds → DpAll K H' vs ds
  | _, _, _, .nil => .nil
  | _, _, n, .cons a r => by
    simp [noLs] at n
    exact .cons (dp_but e hl n.1 a) (dpAll_but e hl n.2 r)
end
theorem tyof_same {K : PySem.W.Frag} {H H' : Hp} (e : Same H H') {x : V} {t : Value} (h : TyOf K H x t) : TyOf K H' x t := by
  cases h with
  | non => exact .non
  | bl x => exact .bl x
  | int i => exact .int i
  | str x => exact .str x
  | flt x => exact .flt x
  | lst h => exact .lst (e _ _ h)
  | frz h => exact .frz (e _ _ h)
  | tup h => exact .tup (e _ _ h)
  | dK h => exact .dK (e _ _ h)
  | dT h => exact .dT (e _ _ h)
  | ins h cl ha hn htk hm => exact .ins (e _ _ h) cl ha hn htk hm
theorem tyx_same {K : PySem.W.Frag} {H H' : Hp} (e : Same H H') {x : V} {t : Value} (h : TyX K H x t) : TyX K H' x t := by
  cases h with
  | base h => exact .base (tyof_same e h)
  | byt b => exact .byt b
  | set h => exact .set (e _ _ h)
  | kList h c => exact .kList h c
  | kTuple h c => exact .kTuple h c
  | kDict h c => exact .kDict h c
  | fTuple h => exact .fTuple (e _ _ h)
  | fDict h => exact .fDict (e _ _ h)
/-! ### a def that may be called -/
structure Cl (P : Program) (w : World) (K : PySem.W.Frag) (mg : Str → Option Value) (base : Heap) (k : Nat) (x : Str) (ps : List Str) (sp : Sp) : Prop where
  ex : ∃ f fd, FnOk P w K mg base (L2.CX P w) k f fd ps sp ∧ mg x = some (.ref f) ∧ PySem.W.keepIn K (.ref f) = true ∧ Binds K fd ps []
section
variable {X : Cx} {W : WX} {e : Expr} {es : List Expr} {p pos : Pos} {t : TA} {x : Str} {ps : List Str} {sp : Sp} {j k : Nat}
theorem pcall (c : Cl X.prog X.w X.K X.mg X.base k x ps sp) (hr : Room j X.A) (hk : k ≤ j) (tk : Takes X W) (ha : PA X (e :: es) t) (hg : Gl X x := by rfl)
    (he : starEach (e :: es) X.env = (false, eval e X.env) :: starEach es X.env := by rfl) (hpl : (backTo pos (starEach es X.env)).any (·.1) = false := by rfl) (hdb : (x == ("__debug__" : Str)) = false := by decide) :
    PE X (.Call (.Name x p) (e :: es) [] pos) (tCallS sp (WE W) t) := by
  obtain ⟨f, fd, F, m, kp, b⟩ := c.ex
  exact pe_callS F (hr.mono hk) hg m kp b (fun σ => passAt tk σ) ha hdb he hpl
theorem pcall0 (c : Cl X.prog X.w X.K X.mg X.base k x ps sp) (hr : Room j X.A) (hk : k ≤ j) (hg : Gl X x := by rfl) (hdb : (x == ("__debug__" : Str)) = false := by decide) :
    PE X (.Call (.Name x p) [] [] pos) (tCall sp [] E0 tNil) := by
  obtain ⟨f, fd, F, m, kp, b⟩ := c.ex
  exact pe_call0 F (hr.mono hk) hg m kp b .nil passL hdb
/-- where nothing may be raised -/
theorem pcallN (c : Cl X.prog X.w X.K X.mg X.base k x ps sp) (hr : Room j X.A) (hk : k ≤ j) (ha : PA X (e :: es) t) (hg : Gl X x := by rfl)
    (he : starEach (e :: es) X.env = (false, eval e X.env) :: starEach es X.env := by rfl) (hpl : (backTo pos (starEach es X.env)).any (·.1) = false := by rfl) (hdb : (x == ("__debug__" : Str)) = false := by decide) :
    PE X (.Call (.Name x p) (e :: es) [] pos) (tCall sp [] E0 t) := by
  obtain ⟨f, fd, F, m, kp, b⟩ := c.ex
  exact pe_call F (hr.mono hk) hg m kp b .nil passL ha hdb he hpl
end
/-- a recursion: nothing is promised at 0 -/
theorem fn_void {P : Program} {w : World} {K : PySem.W.Frag} {mg : Str → Option Value} {base : Heap} {CX : CXT} {k : Nat} {f : Addr} {fd : FuncData} {ps : List Str} {sp : Sp} (h : ∀ vs H Q E, ¬ sp vs H Q E) : FnOk P w K mg base CX k f fd ps sp :=
  ⟨fun vs H Q E z => (h vs H Q E z).elim, fun _ _ _ H _ _ vs Q E _ _ _ _ z => (h vs H Q E z).elim⟩
/-! ### exceptions with fields, their own __init__ walked -/
section
def oexB (K : PySem.W.Frag) (x : Str) : Bool := (match K.lookup (He.ga K x) with
  | some ⟨.type "type", _, .cls cd, sl⟩ => (match cd.mro, sl.toList with
    | .ref C' :: bm, [_, _, _, _, some (.builtin n), _] => C' == He.ga K x && n == "ValueError.__new__" && !cd.hasDel && cd.hasDict && PySem.HandSPX.refsVE bm
    | _, _ => false)
  | _ => false) && (He.eqO (PySem.W.findIn K (.ref (He.ga K x)) "__setattr__") (some (some (.builtin "object.__setattr__"))) && (decide (PySem.W.subIn K (.ref (He.ga K x)) (.type "BaseException") = some true) && (decide (PySem.W.typeIn K (.ref (He.ga K x)) = some (.type "type")) && PySem.W.keepIn K (.ref (He.ga K x)))))
theorem oexB_ok {K : PySem.W.Frag} {x : Str} (h : oexB K x = true) : OexC K (He.ga K x) := by
  unfold oexB at h
  obtain ⟨q, h⟩ := He.ba h
  obtain ⟨h1, h⟩ := He.ba h
  obtain ⟨h2, h⟩ := He.ba h
  obtain ⟨h3, h4⟩ := He.ba h
  refine ⟨?_, He.eqO_ok h1, of_decide_eq_true h2, of_decide_eq_true h3, h4⟩
  split at q
  · rename_i dd cd sl ho
    split at q
    · rename_i C' bm k0 k1 k2 k3 n k5 hm hs
      simp only [Bool.and_eq_true, beq_iff_eq, Bool.not_eq_true'] at q
      obtain ⟨⟨⟨⟨hC, hn⟩, hdel⟩, hdc⟩, hr⟩ := q
      obtain ⟨nm, bs, mro, ns, qn, hd, sn, sub, ab, col, del⟩ := cd
      dsimp only at hm hdel hdc
      subst hm hdel hdc hC hn
      have hsl : sl = #[k0, k1, k2, k3, some (.builtin "ValueError.__new__"), k5] := by
        obtain ⟨l⟩ := sl
        simp only at hs
        rw [hs]
      subst hsl
      exact ⟨_, _, _, _, _, _, _, _, _, _, _, _, _, _, _, ho, hr⟩
    · cases q
  · cases q
/-- the own __init__ of an exception -/
def oinB (K : PySem.W.Frag) (x : Str) : Bool := He.eqO (PySem.W.findIn K (.ref (He.ga K x)) "__init__") (some (some (.ref (He.ma K (He.ga K x) "__init__")))) && decide (PySem.W.typeIn K (.ref (He.ma K (He.ga K x) "__init__")) = some (.type "function"))
theorem oinB_ok {K : PySem.W.Frag} {x : Str} (h : oinB K x = true) : PySem.W.findIn K (.ref (He.ga K x)) "__init__" = some (some (.ref (He.ma K (He.ga K x) "__init__"))) ∧ PySem.W.typeIn K (.ref (He.ma K (He.ga K x) "__init__")) = some (.type "function") := by
  obtain ⟨h1, h2⟩ := He.ba h
  exact ⟨He.eqO_ok h1, of_decide_eq_true h2⟩
/-- Base.__init__(self, ..) of an exception class that has ValueError's -/
structure SupC (K : PySem.W.Frag) (C : Addr) : Prop where
  r : ClX.CRead K C (.type "type")
  at_ : PySem.W.findCls K (.ref C) (.type "type") "__init__" = some (.val (.builtin "ValueError.__init__"))
def supB (K : PySem.W.Frag) (x : Str) : Bool := PySem.W.readsIn K (He.ga K x) (.type "type") && (He.eqO (PySem.W.specialIn K (.ref (He.ga K x)) "__getattribute__") (some (some (.builtin "type.__getattribute__"))) && (match PySem.W.findCls K (.ref (He.ga K x)) (.type "type") "__init__" with
  | some (.val (.builtin n)) => n == "ValueError.__init__"
  | _ => false))
theorem supB_ok {K : PySem.W.Frag} {x : Str} (h : supB K x = true) : SupC K (He.ga K x) := by
  obtain ⟨h1, h⟩ := He.ba h
  obtain ⟨h2, h3⟩ := He.ba h
  refine ⟨⟨h1, He.eqO_ok h2⟩, ?_⟩
  split at h3
  · rename_i n e
    rw [e, beq_iff_eq.mp h3]
  · cases h3
theorem pe_svinit {X : Cx} {n : Str} {C : Addr} {e : Expr} {es : List Expr} {ta : TA} {p1 p2 pos : Pos} {pl : Sem Bool} (S : SupC X.K C) (hg : Gl X n) (hm : X.mg n = some (.ref C)) (ha : PA X (e :: es) ta)
    (hc : eval (.Call (.Attribute (.Name n p1) "__init__" p2) (e :: es) [] pos) X.env = (do
      let ov ← eval (.Name n p1) X.env
      standAt p2.atName
      let (f, first) ← holding [ov] (getMethod ov "__init__" pl)
      callWith pos f first (backTo pos (starEach (e :: es) X.env)) (backToKw pos (keywordEach [] X.env))) := by rfl)
    (he : starEach (e :: es) X.env = (false, eval e X.env) :: starEach es X.env := by rfl) (hpl : (backTo pos (starEach es X.env)).any (·.1) = false := by rfl) (hdb : (n == ("__debug__" : Str)) = false := by decide) :
    PE X (.Call (.Attribute (.Name n p1) "__init__" p2) (e :: es) [] pos) (tVeI X.K ta) := by
  refine ⟨fun pins s σ H Q I h => ?_⟩
  refine PySem.W.methodCall_KW (ld_glob I hg hm ?_ hdb) hc
  refine PySem.W.method_cls I.kIn S.r.ga (PySem.W.cls_value I.kIn S.r.rd S.at_ rfl ?_)
  show wpAny _ _ (callWith pos (Value.builtin "ValueError.__init__") [] (backTo pos (starEach (e :: es) X.env)) []) _ _ _
  refine PyProof.Rows.callWith_method1 (thn (ha.run pos pins _ σ H _ (I.tok _) h) fun us s1 ⟨vs, H1, I1, r1, a, C', ws, ev, hl, T, ea, q⟩ => ?_) he hpl
  subst ev
  cases r1 with
  | @cons _ u0 _ ur ra rw' =>
    obtain rfl : u0 = Value.ref a := ra
    have hlen : ur.length ≤ sizeLine := by
      rw [← Paired.length rw', sizeLine_eq]
      omega
    exact oinit_ok T I1 ea hlen fun s' J => ⟨.non, H1, J, rfl, q⟩
/-- what the __init__ of an exception with one field keeps -/
def spXI (C : Addr) (f : Str) : Sp := fun vs H Q _ => ∃ (a : Addr) (v : V), vs = [.ref a, v] ∧ H a = some (exo a C none) ∧ ∀ d, H d = none → d ≠ a → Q .non (upd (upd H d (exd d [(f, v)])) a (exo a C (some d)))
structure XCl (P : Program) (w : World) (K : PySem.W.Frag) (mg : Str → Option Value) (base : Heap) (k : Nat) (x : Str) (ps : List Str) (sp : Sp) : Prop where
  ex : ∃ fd, OexC K (He.ga K x) ∧ PySem.W.findIn K (.ref (He.ga K x)) "__init__" = some (some (.ref (He.ma K (He.ga K x) "__init__"))) ∧ PySem.W.typeIn K (.ref (He.ma K (He.ga K x) "__init__")) = some (.type "function") ∧
    FnOk P w K mg base (L2.CX P w) k (He.ma K (He.ga K x) "__init__") fd ps sp ∧ mg x = some (.ref (He.ga K x)) ∧ Binds K fd ps []
theorem pmkO {X : Cx} {e : Expr} {es : List Expr} {ta : TA} {p pos : Pos} {x : Str} {ps : List Str} {sp : Sp} {j k : Nat} (c : XCl X.prog X.w X.K X.mg X.base k x ps sp) (hr : Room j X.A) (hk : k + 1 ≤ j) (ha : PA X (e :: es) ta) (hg : Gl X x := by rfl)
    (hdb : (x == ("__debug__" : Str)) = false := by decide) (he : starEach (e :: es) X.env = (false, eval e X.env) :: starEach es X.env := by rfl) (hpl : (backTo pos (starEach es X.env)).any (·.1) = false := by rfl) :
    PMk X (.Call (.Name x p) (e :: es) [] pos) (tMkO (He.ga X.K x) sp [] ta) := by
  obtain ⟨fd, T, iC, tI, F, m, b⟩ := c.ex
  exact pmk_oex T iC tI F (hr.mono hk) b .nil passL hg m ha hdb he hpl
def rMkO (C : Addr) (sp : Sp) (vs : List V) (H1 : Hp) (E : XK) : Prop := vs.length ≤ 1000 ∧ ∀ a, H1 a = none → sp (.ref a :: (vs ++ [])) (upd H1 a (exo a C none))
  (fun v H2 => v = .non ∧ ∃ (d : Addr) (fs : List (Str × V)), H2 a = some (exo a C (some d)) ∧ H2 d = some (exd d fs) ∧ H1 d = none ∧ E (.ref C) (some d) (upd (del H2 a) d (.xd fs))) (fun _ _ _ => False)
theorem k_mk0 {C : Addr} {sp : Sp} {ta : TA} {σ : L2.St} {H : Hp} {E : XK} (q : ta σ H fun vs H1 => rMkO C sp vs H1 E) : tMkO C sp [] ta σ H E := q
theorem k_mkx {C : Addr} {f : Str} {v : V} {H1 : Hp} {E : XK} (k : ∀ d H2, H1 d = none → Same H1 H2 → H2 d = some (.xd [(f, v)]) → E (.ref C) (some d) H2) : rMkO C (spXI C f) [v] H1 E :=
  ⟨by simp, fun a ha => ⟨a, v, rfl, upd_same, fun d hd hda => ⟨rfl, d, [(f, v)], upd_same, by rw [upd_ne hda, upd_same], by rw [upd_ne hda] at hd; exact hd, by
      have hd1 : H1 d = none := by rw [upd_ne hda] at hd; exact hd
      have e : upd (del (upd (upd (upd H1 a (exo a C none)) d (exd d [(f, v)])) a (exo a C (some d))) a) d (.xd [(f, v)]) = upd H1 d (.xd [(f, v)]) := by
        funext b
        by_cases h1 : b = d
        · rw [h1, upd_same, upd_same]
        · rw [upd_ne h1, upd_ne h1]
          by_cases h2 : b = a
          · rw [h2, del_same, ha]
          · rw [del_ne h2, upd_ne h2, upd_ne h1, upd_ne h2]
      rw [e]
      exact k d _ hd1 (same_new hd1) upd_same⟩⟩⟩
def rVeI (K : PySem.W.Frag) (vs : List V) (H1 : Hp) (Q : VK) : Prop := ∃ (a C : Addr) (ws : List V), vs = .ref a :: ws ∧ ws.length ≤ 1000 ∧ OexC K C ∧ H1 a = some (exo a C none) ∧ Q .non H1
theorem k_veI {K : PySem.W.Frag} {ta : TA} {σ : L2.St} {H : Hp} {Q : VK} (q : ta σ H fun vs H1 => rVeI K vs H1 Q) : tVeI K ta σ H Q := q
theorem k_veIx {K : PySem.W.Frag} {a C : Addr} {ws : List V} {H : Hp} {Q : VK} (T : OexC K C) (h : H a = some (exo a C none)) (q : Q .non H) (hl : ws.length ≤ 1000) : rVeI K (.ref a :: ws) H Q := ⟨a, C, ws, rfl, hl, T, h, q⟩
def rOst (K : PySem.W.Frag) (f : Str) (x y : V) (H2 : Hp) (Q : Hp → Prop) : Prop := ∃ a C : Addr, x = .ref a ∧ OexC K C ∧ PySem.W.findIn K (.ref C) f = some none ∧
  ((H2 a = some (exo a C none) ∧ ∀ dx, H2 dx = none → dx ≠ a → Q (upd (upd H2 dx (exd dx [(f, y)])) a (exo a C (some dx)))) ∨
    ∃ (dx : Addr) (fs : List (Str × V)), H2 a = some (exo a C (some dx)) ∧ H2 dx = some (exd dx fs) ∧ fs.length ≤ 900 ∧ Q (upd H2 dx (exd dx ((f, y) :: fs))))
theorem k_ost {K : PySem.W.Frag} {f : Str} {to te : TE} {D : Ends} {σ : L2.St} {H : Hp} (q : te σ H fun y H1 => to σ H1 fun x H2 => rOst K f x y H2 fun H3 => D.nx σ H3) : tOst K f to te D σ H := q
theorem k_ostx {K : PySem.W.Frag} {f : Str} {a C : Addr} {y : V} {H : Hp} {Q : Hp → Prop} (T : OexC K C) (hn : PySem.W.findIn K (.ref C) f = some none) (h : H a = some (exo a C none)) (q : ∀ d, H d = none → d ≠ a → Q (upd (upd H d (exd d [(f, y)])) a (exo a C (some d)))) : rOst K f (.ref a) y H Q := ⟨a, C, rfl, T, hn, .inl ⟨h, q⟩⟩
/-- a field of the error that a suite holds -/
def rXf (a : Addr) (cls : Value) (d : Option Addr) (C : Addr) (f : Str) (x : V) (H1 : Hp) (Q : VK) : Prop := x = .ref a ∧ cls = .ref C ∧ ∃ (dd : Addr) (fs : List (Str × V)) (v : V), d = some dd ∧ H1 dd = some (.xd fs) ∧ fs.lookup f = some v ∧ Q v H1
theorem k_xf {a C : Addr} {cls : Value} {d : Option Addr} {f : Str} {te : TE} {σ : L2.St} {H : Hp} {Q : VK} (q : te σ H fun x H1 => rXf a cls d C f x H1 Q) : tXf a cls d C f te σ H Q := q
theorem k_xfx {a C dd : Addr} {f : Str} {v : V} {H : Hp} {Q : VK} (h : H dd = some (.xd [(f, v)])) (q : Q v H) : rXf a (.ref C) (some dd) C f (.ref a) H Q := ⟨rfl, rfl, dd, _, v, rfl, h, by simp [List.lookup], q⟩
end
/-! ### classes -/
structure MCl (P : Program) (w : World) (K : PySem.W.Frag) (mg : Str → Option Value) (base : Heap) (k : Nat) (C m : Str) (ps : List Str) (sp : Sp) : Prop where
  ex : ∃ f fd, Cls K (He.ga K C) ∧ Meth K (He.ga K C) m f ∧ FnOk P w K mg base (L2.CX P w) k f fd ps sp ∧ Binds K fd ps []
structure KCl (P : Program) (w : World) (K : PySem.W.Frag) (mg : Str → Option Value) (base : Heap) (k : Nat) (C : Str) (ps : List Str) (sp : Sp) : Prop where
  ex : ∃ f fd, Mk K (He.ga K C) f ∧ FnOk P w K mg base (L2.CX P w) k f fd ps sp ∧ mg C = some (.ref (He.ga K C)) ∧ Binds K fd ps []
/-- a class's def, called through the class: C.m(self, ..) -/
structure SCl (P : Program) (w : World) (K : PySem.W.Frag) (mg : Str → Option Value) (base : Heap) (k : Nat) (C m : Str) (ps : List Str) (sp : Sp) : Prop where
  ex : ∃ f fd, ClX.CRead K (He.ga K C) (.type "type") ∧ PySem.W.findCls K (.ref (He.ga K C)) (.type "type") m = some (.val (.ref f)) ∧ PySem.W.keepIn K (.ref f) = true ∧ FnOk P w K mg base (L2.CX P w) k f fd ps sp ∧ mg C = some (.ref (He.ga K C)) ∧ Binds K fd ps []
def tMethS (C : Addr) (m : Str) (sp : Sp) (E : L2.St → XK) (ta : TE) (t : TA) : TE := fun σ H Q => ta σ H fun x H1 => ∃ a dx fs, x = .ref a ∧ H1 a = some (.ins C dx fs) ∧ fs.lookup m = none ∧ t σ H1 fun vs H2 => sp (x :: vs) H2 Q (E σ)
def tOr2 (t u : TE) : TE := fun σ H Q => t σ H Q ∨ u σ H Q
section
variable {X : Cx} {W : WX} {e o : Expr} {es : List Expr} {p pos apos : Pos} {ta : TE} {t : TA} {C m x : Str} {ps : List Str} {sp : Sp} {j k : Nat}
theorem pe_or2 {e : Expr} {t u : TE} (a : PE X e t) (b : PE X e u) : PE X e (tOr2 t u) := ⟨fun pins s σ H Q I h => h.elim (a.run pins s σ H Q I) (b.run pins s σ H Q I)⟩
theorem pmeth {pl : Sem Bool} {K : PySem.W.Frag} (hK : X.K = K) (c : MCl X.prog X.w K X.mg X.base k C m ps sp) (hr : Room j X.A) (hk : k ≤ j) (tk : Takes X W) (he : PE X o ta) (ha : PA X (e :: es) t)
    (hst : starEach (e :: es) X.env = (false, eval e X.env) :: starEach es X.env := by rfl) (hpl : (backTo pos (starEach es X.env)).any (·.1) = false := by rfl)
    (ht : eval (.Call (.Attribute o m apos) (e :: es) [] pos) X.env = (do
      let ov ← eval o X.env
      standAt apos.atName
      let (f, first) ← holding [ov] (getMethod ov m pl)
      callWith pos f first (backTo pos (starEach (e :: es) X.env)) (backToKw pos (keywordEach [] X.env))) := by rfl) :
    PE X (.Call (.Attribute o m apos) (e :: es) [] pos) (tMethS (He.ga K C) m sp (WE W) ta t) := by
  subst hK
  obtain ⟨f, fd, hc, hm, F, b⟩ := c.ex
  refine ⟨fun pins s σ H Q I h => ?_⟩
  refine PySem.W.methodCall_KW (pl := pl) (thn (he.run pins s σ H _ I h) fun u s1 ⟨x, H1, I1, rx, a, dx, fs, ex, ea, l, q⟩ => ?_) ht
  subst ex
  obtain rfl : u = Value.ref a := rx
  refine getmeth_ok I1 ea hc hm l ?_
  refine PySem.W.callWith_K (first := [.ref a]) (h₀ := X.base) I.ok.mod.kin hm.kp (thn (ha.run pos pins s1 σ H1 _ I1 q) fun us s2 ⟨vs, H2, I2, r, q2⟩ => ⟨I2.kIn, ?_⟩) hst hpl
  exact run_fnS (us := .ref a :: us) (vs := .ref a :: vs) (E := WE W) F (hr.mono hk) b (passAt tk σ) I2 (.cons rfl r) q2
theorem pmeth0 {pl : Sem Bool} {K : PySem.W.Frag} (hK : X.K = K) (c : MCl X.prog X.w K X.mg X.base k C m ps sp) (hr : Room j X.A) (hk : k ≤ j) (tk : Takes X W) (he : PE X o ta)
    (ht : eval (.Call (.Attribute o m apos) [] [] pos) X.env = (do
      let ov ← eval o X.env
      standAt apos.atName
      let (f, first) ← holding [ov] (getMethod ov m pl)
      callWith pos f first (backTo pos (starEach [] X.env)) (backToKw pos (keywordEach [] X.env))) := by rfl) :
    PE X (.Call (.Attribute o m apos) [] [] pos) (tMethS (He.ga K C) m sp (WE W) ta tNil) := by
  subst hK
  obtain ⟨f, fd, hc, hm, F, b⟩ := c.ex
  refine ⟨fun pins s σ H Q I h => ?_⟩
  refine PySem.W.methodCall_KW (pl := pl) (thn (he.run pins s σ H _ I h) fun u s1 ⟨x, H1, I1, rx, a, dx, fs, ex, ea, l, q⟩ => ?_) ht
  subst ex
  obtain rfl : u = Value.ref a := rx
  refine getmeth_ok I1 ea hc hm l ?_
  exact PySem.W.callWith_K0 (first := [.ref a]) I1.kIn hm.kp (run_fnS (us := [.ref a]) (vs := [.ref a]) (E := WE W) F (hr.mono hk) b (passAt tk σ) I1 (.cons rfl .nil) q)
/-- where nothing may be raised -/
theorem pmethN {pl : Sem Bool} {K : PySem.W.Frag} (hK : X.K = K) (c : MCl X.prog X.w K X.mg X.base k C m ps sp) (hr : Room j X.A) (hk : k ≤ j) (he : PE X o ta) (ha : PA X (e :: es) t)
    (hst : starEach (e :: es) X.env = (false, eval e X.env) :: starEach es X.env := by rfl) (hpl : (backTo pos (starEach es X.env)).any (·.1) = false := by rfl)
    (ht : eval (.Call (.Attribute o m apos) (e :: es) [] pos) X.env = (do
      let ov ← eval o X.env
      standAt apos.atName
      let (f, first) ← holding [ov] (getMethod ov m pl)
      callWith pos f first (backTo pos (starEach (e :: es) X.env)) (backToKw pos (keywordEach [] X.env))) := by rfl) :
    PE X (.Call (.Attribute o m apos) (e :: es) [] pos) (tMethS (He.ga K C) m sp (fun _ => E0) ta t) := by
  subst hK
  obtain ⟨f, fd, hc, hm, F, b⟩ := c.ex
  refine ⟨fun pins s σ H Q I h => (pe_meth (pl := pl) he hc hm F (hr.mono hk) b .nil passL ha hst hpl ht).run pins s σ H Q I ?_⟩
  simp only [tMeth, List.append_nil]
  exact h
theorem pmethN0 {pl : Sem Bool} {K : PySem.W.Frag} (hK : X.K = K) (c : MCl X.prog X.w K X.mg X.base k C m ps sp) (hr : Room j X.A) (hk : k ≤ j) (he : PE X o ta)
    (ht : eval (.Call (.Attribute o m apos) [] [] pos) X.env = (do
      let ov ← eval o X.env
      standAt apos.atName
      let (f, first) ← holding [ov] (getMethod ov m pl)
      callWith pos f first (backTo pos (starEach [] X.env)) (backToKw pos (keywordEach [] X.env))) := by rfl) :
    PE X (.Call (.Attribute o m apos) [] [] pos) (tMethS (He.ga K C) m sp (fun _ => E0) ta tNil) := by
  subst hK
  obtain ⟨f, fd, hc, hm, F, b⟩ := c.ex
  refine ⟨fun pins s σ H Q I h => (pe_meth0 (pl := pl) he hc hm F (hr.mono hk) b .nil passL ht).run pins s σ H Q I ?_⟩
  simp only [tMeth, List.append_nil]
  exact h
theorem pmake {K : PySem.W.Frag} (hK : X.K = K) (c : KCl X.prog X.w K X.mg X.base k C ps sp) (hr : Room j X.A) (hk : k + 1 ≤ j) (ha : PA X (e :: es) t) (hg : Gl X C := by rfl)
    (hdb : (C == ("__debug__" : Str)) = false := by decide) (he : starEach (e :: es) X.env = (false, eval e X.env) :: starEach es X.env := by rfl) (hpl : (backTo pos (starEach es X.env)).any (·.1) = false := by rfl) :
    PE X (.Call (.Name C p) (e :: es) [] pos) (tMake (He.ga K C) sp [] E0 t) := by
  subst hK
  obtain ⟨f, fd, M, F, hm, b⟩ := c.ex
  exact pe_make M F (hr.mono hk) hg hm b .nil passL ha hdb he hpl
/-- C.m(self, ..) -/
theorem psup {pl : Sem Bool} (c : SCl X.prog X.w X.K X.mg X.base k C m ps sp) (hr : Room j X.A) (hk : k ≤ j) (ha : PA X (e :: es) t) (hg : Gl X C := by rfl)
    (hc : eval (.Call (.Attribute (.Name C p) m apos) (e :: es) [] pos) X.env = (do
      let ov ← eval (.Name C p) X.env
      standAt apos.atName
      let (f, first) ← holding [ov] (getMethod ov m pl)
      callWith pos f first (backTo pos (starEach (e :: es) X.env)) (backToKw pos (keywordEach [] X.env))) := by rfl)
    (he : starEach (e :: es) X.env = (false, eval e X.env) :: starEach es X.env := by rfl) (hpl : (backTo pos (starEach es X.env)).any (·.1) = false := by rfl) (hdb : (C == ("__debug__" : Str)) = false := by decide) :
    PE X (.Call (.Attribute (.Name C p) m apos) (e :: es) [] pos) (tCall sp [] E0 t) := by
  obtain ⟨f, fd, cr, ca, kp, F, hm, b⟩ := c.ex
  refine ⟨fun pins s σ H Q I h => ?_⟩
  refine PySem.W.methodCall_KW (ld_glob I hg hm ?_ hdb) hc
  refine PySem.W.method_cls I.kIn cr.ga (PySem.W.cls_value I.kIn cr.rd ca rfl ?_)
  refine PySem.W.callWith_K (first := []) (h₀ := X.base) I.ok.mod.kin kp (thn (ha.run pos pins _ σ H _ (I.tok _) h) fun us s2 ⟨vs, H2, I2, r, q2⟩ => ⟨I2.kIn, ?_⟩) he hpl
  exact run_fn F (hr.mono hk) b .nil passL I2 r q2
/-- C(), C without an __init__ -/
structure MbC (K : PySem.W.Frag) (mg : Str → Option Value) (C : Str) : Prop where
  mks : PySem.W.makesIn K (He.ga K C) = true
  ini : PySem.W.findIn K (.ref (He.ga K C)) "__init__" = some (some (.builtin "object.__init__"))
  kp : PySem.W.keepIn K (.ref (He.ga K C)) = true
  ob : PySem.W.mroIn K (He.ga K C) (.type "object") = some true
def mbB (K : PySem.W.Frag) (C : Str) : Bool := PySem.W.makesIn K (He.ga K C) && (He.eqO (PySem.W.findIn K (.ref (He.ga K C)) "__init__") (some (some (.builtin "object.__init__"))) && (PySem.W.keepIn K (.ref (He.ga K C)) && decide (PySem.W.mroIn K (He.ga K C) (.type "object") = some true)))
theorem mbB_ok {K : PySem.W.Frag} {mg : Str → Option Value} {C : Str} (h : mbB K C = true) : MbC K mg C := by
  obtain ⟨h1, h⟩ := He.ba h
  obtain ⟨h2, h⟩ := He.ba h
  obtain ⟨h3, h4⟩ := He.ba h
  exact ⟨h1, He.eqO_ok h2, h3, of_decide_eq_true h4⟩
def tMakeB (C : Addr) : TE := fun _ H Q => ∀ x dx, H x = none → H dx = none → dx ≠ x → Q (.ref x) (upd (upd H dx (.own x)) x (.ins C dx []))
theorem pmakeB {K : PySem.W.Frag} (hK : X.K = K) (c : MbC K X.mg C) (hm : X.mg C = some (.ref (He.ga K C))) (hg : Gl X C := by rfl) (hdb : (C == ("__debug__" : Str)) = false := by decide) : PE X (.Call (.Name C p) [] [] pos) (tMakeB (He.ga K C)) := by
  subst hK
  refine ⟨fun pins s σ H Q I h => ?_⟩
  refine wpAny_Call_Name_kw (ld_glob I hg hm ?_ hdb)
  refine PySem.W.callWith_K0 I.kIn c.kp ?_
  have q := h (s.heap.objs.size + 1) s.heap.objs.size (I.hok.fresh (Nat.le_succ _)) (I.hok.fresh (Nat.le_refl _)) (Nat.ne_of_lt (Nat.lt_succ_self _))
  have I2 := Inv.made (C := He.ga X.K C) I
  refine wpAny_call (make_map0 I.kIn c.mks c.ini (fun self => PySem.W.Looks.of_pure (PySem.W.oi_bind self)) ?_)
  have hx : ((s.heap.push PySem.W.emptyDict).push (PySem.W.instObj (He.ga X.K C) s.heap.objs.size)).get? (s.heap.objs.size + 1) = some (PySem.W.instObj (He.ga X.K C) s.heap.objs.size) := by
    have := Heap.get?_push_size (s.heap.push PySem.W.emptyDict) (o := PySem.W.instObj (He.ga X.K C) s.heap.objs.size) rfl
    rwa [Heap.size_push] at this
  have t1 : PySem.W.Looks (model X.prog X.w) ((s.heap.push PySem.W.emptyDict).push (PySem.W.instObj (He.ga X.K C) s.heap.objs.size)) (typeOf (.ref (s.heap.objs.size + 1))) (.ref (He.ga X.K C)) := (PySem.W.Looks.ld hx).andThen .now
  have t2 : PySem.W.Looks (model X.prog X.w) ((s.heap.push PySem.W.emptyDict).push (PySem.W.instObj (He.ga X.K C) s.heap.objs.size)) (isInstance (.ref (s.heap.objs.size + 1)) (.type "object")) true := t1.andThen (PySem.W.looks_mroIn (M := model X.prog X.w) I2.kIn c.ob)
  refine codeAny_call_builtin PySem.W.oi_plain PySem.W.entry_oi (@PySem.W.check_slot (model X.prog X.w) _ _ _ "object.__init__" "object" "__init__" (.ref (s.heap.objs.size + 1)) [] [] _ PySem.W.oi_kind PySem.W.oi_split t2 (PySem.W.oi_args (.ref (s.heap.objs.size + 1))) ?_)
  rw [PySem.W.oi_run]
  exact wpAny_pure (And.intro rfl ⟨V.ref (s.heap.objs.size + 1), _, I2, rfl, q⟩)
end
section
variable {σ : L2.St} {H : Hp} {Q : VK} {ta tv : TE} {K : PySem.W.Frag} {a C dx : Addr} {fs : List (Str × V)} {f m : Str} {v : V} {sp : Sp} {t : TA} {D : Ends} {E : XK}
def rFld (K : PySem.W.Frag) (f : Str) (x : V) (H1 : Hp) (Q : VK) : Prop := ∃ a C dx fs v, x = .ref a ∧ H1 a = some (.ins C dx fs) ∧ Cls K C ∧ NoAttr K C f ∧ fs.lookup f = some v ∧ Q v H1
theorem k_fld (q : ta σ H fun x H1 => rFld K f x H1 Q) : tFld K ta f σ H Q := q
theorem k_fldx (h : H a = some (.ins C dx fs)) (c : Cls K C) (n : NoAttr K C f) (l : fs.lookup f = some v) (q : Q v H) : rFld K f (.ref a) H Q := ⟨a, C, dx, fs, v, rfl, h, c, n, l, q⟩
def rSFld (K : PySem.W.Frag) (f : Str) (x y : V) (H2 : Hp) (Q : Hp → Prop) : Prop := ∃ a C dx fs, x = .ref a ∧ H2 a = some (.ins C dx fs) ∧ Cls K C ∧ NoAttr K C f ∧ fs.length < 1000 ∧ Q (upd H2 a (.ins C dx (putF f y fs)))
theorem k_sfld (q : tv σ H fun y H1 => ta σ H1 fun x H2 => rSFld K f x y H2 fun H3 => D.nx σ H3) : sFld K ta tv f D σ H := q
theorem k_sfldx {y : V} {Q : Hp → Prop} (h : H a = some (.ins C dx fs)) (c : Cls K C) (n : NoAttr K C f) (q : ∀ H', But a H H' → H' a = some (.ins C dx (putF f y fs)) → Q H') (l : fs.length < 1000) : rSFld K f (.ref a) y H Q := ⟨a, C, dx, fs, rfl, h, c, n, l, q _ But.upd upd_same⟩
def rMeth (C : Addr) (m : Str) (x : V) (H1 : Hp) (P : Prop) : Prop := ∃ a dx fs, x = .ref a ∧ H1 a = some (.ins C dx fs) ∧ fs.lookup m = none ∧ P
theorem k_meth {E : L2.St → XK} (q : ta σ H fun x H1 => rMeth C m x H1 (t σ H1 fun vs H2 => sp (x :: vs) H2 Q (E σ))) : tMethS C m sp E ta t σ H Q := q
theorem k_methx {P : Prop} (h : H a = some (.ins C dx fs)) (l : fs.lookup m = none) (q : P) : rMeth C m (.ref a) H P := ⟨a, dx, fs, rfl, h, l, q⟩
theorem k_o1 {t u : TE} (q : t σ H Q) : tOr2 t u σ H Q := .inl q
theorem k_o2 {t u : TE} (q : u σ H Q) : tOr2 t u σ H Q := .inr q
def rMake (C : Addr) (sp : Sp) (vs : List V) (H1 : Hp) (Q : VK) (E : XK) : Prop := ∀ x dx, H1 x = none → H1 dx = none → dx ≠ x → sp (.ref x :: vs) (upd (upd H1 dx (.own x)) x (.ins C dx [])) (fun v H2 => v = .non ∧ Q (.ref x) H2) E
theorem k_make (q : t σ H fun vs H1 => rMake C sp vs H1 Q E) : tMake C sp [] E t σ H Q := by
  unfold tMake
  simp only [List.append_nil]
  exact q
theorem k_makex {vs : List V} (q : ∀ x dx H2, H x = none → H dx = none → Same H H2 → H2 x = some (.ins C dx []) → H2 dx = some (.own x) → sp (.ref x :: vs) H2 (fun v H3 => v = .non ∧ Q (.ref x) H3) E) : rMake C sp vs H Q E := fun x dx hx hd ne =>
  q x dx _ hx hd ((same_new hd).trans (same_new (by rw [upd_ne (Ne.symm ne)]; exact hx))) upd_same (by rw [upd_ne ne, upd_same])
def rMakeB (C : Addr) (H : Hp) (Q : VK) : Prop := ∀ x dx, H x = none → H dx = none → dx ≠ x → Q (.ref x) (upd (upd H dx (.own x)) x (.ins C dx []))
theorem k_makeB (q : rMakeB C H Q) : tMakeB C σ H Q := q
theorem k_makeBx (q : ∀ x dx H2, H x = none → Same H H2 → H2 x = some (.ins C dx []) → Q (.ref x) H2) : rMakeB C H Q := fun x dx hx hd ne =>
  q x dx _ hx ((same_new hd).trans (same_new (by rw [upd_ne (Ne.symm ne)]; exact hx))) upd_same
end
/-! fields by name -/
section
variable {f g : Str} {u v : V} {r : List (Str × V)}
theorem lk1 : List.lookup f ((f, v) :: r) = some v := by simp [List.lookup]
theorem lkn (h : (f == g) = false) (k : List.lookup f r = some v) : List.lookup f ((g, u) :: r) = some v := by
  show (match f == g with | true => some u | false => List.lookup f r) = _
  rw [h]
  exact k
theorem lk0 : List.lookup f ([] : List (Str × V)) = none := rfl
theorem lkz (h : (f == g) = false) (k : List.lookup f r = none) : List.lookup f ((g, u) :: r) = none := by
  show (match f == g with | true => some u | false => List.lookup f r) = _
  rw [h]
  exact k
theorem pfl0 : ([] : List (Str × V)).length < 1 := by decide
theorem pfl : ∀ {r : List (Str × V)} {n : Nat}, r.length < n → (putF f v r).length < n + 1
  | [], n, h => by show 1 < n + 1; simp at h; omega
  | (g, u) :: r, n, h => by
    show (if g = f then (g, v) :: r else (g, u) :: putF f v r).length < n + 1
    cases n with
    | zero => simp at h
    | succ n =>
      split
      · simp at h ⊢; omega
      · have := pfl (r := r) (n := n) (by simpa using h)
        simp only [List.length_cons]
        omega
theorem pf0 : putF f v [] = [(f, v)] := rfl
theorem pf1 : putF f v ((f, u) :: r) = (f, v) :: r := if_pos rfl
theorem pfn (h : g ≠ f) : putF f v ((g, u) :: r) = (g, u) :: putF f v r := if_neg h
end
/-- what a class says, read through -/
def supmB (K : PySem.W.Frag) (C m : Str) : Bool := PySem.W.readsIn K (He.ga K C) (.type "type") && (He.eqO (PySem.W.specialIn K (.ref (He.ga K C)) "__getattribute__") (some (some (.builtin "type.__getattribute__"))) && (PySem.W.keepIn K (.ref (He.ma K (He.ga K C) m)) && (match PySem.W.findCls K (.ref (He.ga K C)) (.type "type") m with
  | some (.val (.ref f)) => f == He.ma K (He.ga K C) m
  | _ => false)))
theorem supmB_ok {K : PySem.W.Frag} {C m : Str} (h : supmB K C m = true) : ClX.CRead K (He.ga K C) (.type "type") ∧ PySem.W.findCls K (.ref (He.ga K C)) (.type "type") m = some (.val (.ref (He.ma K (He.ga K C) m))) ∧ PySem.W.keepIn K (.ref (He.ma K (He.ga K C) m)) = true := by
  obtain ⟨h1, h⟩ := He.ba h
  obtain ⟨h2, h⟩ := He.ba h
  obtain ⟨h3, h4⟩ := He.ba h
  refine ⟨⟨h1, He.eqO_ok h2⟩, ?_, h3⟩
  split at h4
  · rename_i f e
    rw [e, beq_iff_eq.mp h4]
  · cases h4
/-! ### operators, joined -/
section
variable {X : Cx}
/-! a given list + a list -/
section
theorem addL_any (l : Addr) (xs : Array Value) (n : Nat) (dd : Option Addr) (sl : Array (Option Value)) (b : Addr) (ys : Array Value) (m : Nat) (de : Option Addr) (sk : Array (Option Value)) (hz : xs.size + ys.size ≤ sizeLine) :
    Meets (Builtin.«list.__add__» ⟨[.ref l, .ref b], []⟩) (fun _ R s => s.heap.get? l = some ⟨.type "list", dd, .seq xs n, sl⟩ ∧ s.heap.get? b = some ⟨.type "list", de, .seq ys m, sk⟩ ∧ R (.ok (.ret (Value.ref s.heap.objs.size))) { s with heap := s.heap.push ⟨Value.type "list", none, Data.seq (xs ++ ys) 0, #[]⟩, toks := s.toks }) :=
  .of_wp fun prog w A R st z => by
    obtain ⟨h0, g0, d0, t0, o0⟩ := st
    obtain ⟨z1, z2, z3⟩ := z
    have t1 := AutoSeq1.idx_int; have t2 := AutoSeq1.sub_tuple_tuple; have t3 := AutoSeq1.sub_list_list; have t4 := AutoSeq1.sub_tuple_list; have t5 := AutoSeq1.sub_list_tuple
    wp_walk using AutoSeq1.wpAny_loadPart' z1, AutoSeq1.wpAny_loadPart' z2
    exact ⟨_, rfl, z3⟩
def rCatL (K : PySem.W.Frag) : R2 := fun x y H Q => ∃ l b xs zs, x = .ref l ∧ y = .ref b ∧ SqL K H l xs ∧ SqL K H b zs ∧ xs.length + zs.length ≤ sizeLine ∧ ∀ p, H p = none → Q (.ref p) (upd H p (.lst (xs ++ zs)))
theorem op_catL {X : Cx} : OpR X (binaryOp .Add) (rCatL X.K) := by
  rintro pins s σ H x y v u Q I rx ry ⟨l, b, xs, zs, rfl, rfl, hx, hy, hz, q⟩
  cases rx
  cases ry
  obtain ⟨as, r1, ⟨o1, n1, e1, c1, d1, k1⟩, z1⟩ := I.list hx
  obtain ⟨bs, r2, ⟨o2, n2, e2, c2, d2, k2⟩, z2⟩ := I.list hy
  obtain ⟨oc1, od1, ot1, os1⟩ := o1
  obtain ⟨oc2, od2, ot2, os2⟩ := o2
  simp only at c1 c2 k1 k2
  subst c1 c2 k1 k2
  have l1 := r1.length
  have l2 := r2.length
  refine PySem.concat_meets ⟨_, e1, rfl⟩ ⟨_, e2, rfl⟩ PySem.noFill_list_add PySem.seq_list_add PySem.F.slot_list_add PySem.F.entry_list_add (PySem.F.args_list_add_2 _ _) (addL_any l as.toArray n1 od1 os1 b bs.toArray n2 od2 os2 (by simp only [List.size_toArray]; omega)) ⟨e1, e2, ?_⟩
  have ea : as.toArray ++ bs.toArray = (as ++ bs).toArray := by simp
  rw [ea]
  exact ⟨.ref _, _, I.lnew (t' := s.toks) (r1.append r2) (by rw [List.length_append]; omega), rfl, q _ I.fresh⟩
end
def rAddU (K : PySem.W.Frag) : R2 := fun x y H Q => (∃ i j, x = .int i ∧ y = .int j ∧ Q (.int (i + j)) H) ∨ (∃ i j, x = .str i ∧ y = .str j ∧ i.length + j.length ≤ sizeLine ∧ Q (.str (i ++ j)) H) ∨ rCat x y H Q ∨ rCatA K x y H Q ∨ rCatL K x y H Q
theorem op_addU : OpR X (binaryOp .Add) (rAddU X.K) := op_add.or (op_add_str.or (op_cat.or (op_catA.or op_catL)))
theorem tuple_mul1 (l : Addr) (items : Array Value) (n : Nat) (dd : Option Addr) (sl : Array (Option Value)) (u : Tok) :
    Meets (Builtin.«tuple.__mul__» ⟨[.ref l, .int 1 u], []⟩) (fun _ R s => s.heap.get? l = some { cls := .type "tuple", dict := dd, data := .seq items n, slots := sl } ∧ R (.ok (.ret (Value.ref l))) s) :=
  .of_wp fun prog w A R s h => by
    obtain ⟨hp, g, d, tk, os⟩ := s
    obtain ⟨hl, h⟩ := h
    have f1 := AutoSeq1.idx_int
    have c0 : (decide ((1 : Int) < -(2 ^ 63)) || decide ((1 : Int) ≥ 2 ^ 63)) = false := by decide
    have c1 : (items.isEmpty || (1 : Int) == 1) = true := by simp
    wp_walk using wpAny_loadPart' hl
    repeat (first
      | (refine wpAny_ite_false (decide_eq_false (by rw [c0]; exact Bool.false_ne_true)) ?_; wp_walk using wpAny_loadPart' hl)
      | (refine wpAny_ite_true (decide_eq_true c1) ?_; wp_walk using wpAny_loadPart' hl))
    exact ⟨_, rfl, h⟩
def rRep1 (K : PySem.W.Frag) : R2 := fun x y H Q => ∃ l xs, x = .ref l ∧ y = .int 1 ∧ SqT K H l xs ∧ Q (.ref l) H
theorem op_rep1 {X : Cx} : OpR X (binaryOp .Mult) (rRep1 X.K) := by
  intro pins s σ H x y v u Q I rx ry h
  obtain ⟨l, xs, rfl, rfl, hT, q⟩ := h
  cases rx
  obtain ⟨t, rfl⟩ := ry
  obtain ⟨its, r, ⟨⟨cls, dd, data, sl⟩, ho, hc, n, hd⟩, hs⟩ := I.tuple hT
  simp only at hc hd
  subst hc hd
  refine wpAny_binaryOp_repeat_ref (T := "tuple") (U := "int") (by decide) ⟨_, ho, rfl⟩ (fun s' => typeIs_int s' 1 t) noFill_tuple_mul F.fills_int_mul F.slot_int_rmul repeat_tuple F.slot_int_index.lookup
    (call_meets F.slot_int_rmul (typeIs_int s 1 t) F.entry_int_rmul (F.args_int_rmul_2 _ _) (int_rmul_tuple 1 t l its.toArray n dd sl)
      ⟨ho, rfl, ⟨_, ho, rfl⟩, call_meets F.slot_tuple_mul ⟨_, ho, rfl⟩ F.entry_tuple_mul (F.args_tuple_mul_2 _ _) (tuple_mul1 l its.toArray n dd sl t) ⟨ho, ?_⟩⟩)
  exact ⟨.ref l, H, I, rfl, q⟩
/-! a letter, repeated -/
def rMulC : R2 := fun x y H Q => ∃ (c n : Nat), x = .str (SX.S [c]) ∧ y = .int (n : Int) ∧ 1 ≤ n ∧ n ≤ 1000 ∧ Q (.str (SX.S (List.replicate n c))) H
theorem fold_rep (c : Nat) : ∀ (n : Nat) (l : List Nat), ((List.replicate n (#[c] : Array Nat)).foldl (· ++ ·) l.toArray) = (l ++ List.replicate n c).toArray := fun n => by
  induction n with
  | zero => intro l; simp
  | succ n ih =>
    intro l
    rw [List.replicate_succ, List.foldl_cons, show l.toArray ++ (#[c] : Array Nat) = (l ++ [c]).toArray by simp, ih, List.replicate_succ, List.append_assoc]
    rfl
theorem op_mulC {X : Cx} : OpR X (binaryOp .Mult) rMulC := by
  rintro pins s σ H x y v u Q I rx ry ⟨c, n, rfl, rfl, n0, n1, q⟩
  obtain ⟨t, rfl⟩ := rx
  obtain ⟨k, rfl⟩ := ry
  refine P.mul_str ?_ ?_ ?_ ?_
  · rw [decide_eq_false (by omega), decide_eq_false (by omega)]; rfl
  · intro _ _ h
    rw [SX.S_len] at h
    have h2 : (1 : Int) ≤ (2 ^ 63 - 1) / (n : Int) := (Int.le_ediv_iff_mul_le (by omega)).mpr (by omega)
    generalize ((2 : Int) ^ 63 - 1) / (n : Int) = d at h h2
    simp at h
    omega
  · intro _ _
    rw [SX.S_len]
    show PySem.Builtin.Str.tooLong (1 * n) = false
    unfold PySem.Builtin.Str.tooLong
    simp [sizeLine_eq]
    omega
  · rw [if_neg (by omega)]
    by_cases e : n = 1
    · subst e
      rw [if_pos (by rfl)]
      exact ⟨.str _, H, I, ⟨_, rfl⟩, q⟩
    · rw [if_neg (by
        rw [SX.S_len]
        simp
        omega)]
      have ee : (⟨(List.replicate ((n : Int)).toNat (SX.S [c]).cps).foldl (· ++ ·) #[]⟩ : Str) = SX.S (List.replicate n c) := by
        have := fold_rep c n []
        show (⟨_⟩ : Str) = ⟨_⟩
        exact congrArg Str.mk (by simpa using this)
      rw [ee]
      exact ⟨by simp [SX.S_len, sizeLine_eq]; try omega, .str _, H, I.tok _, ⟨_, rfl⟩, q⟩
/-- a short text, repeated -/
def rMulS : R2 := fun x y H Q => ∃ (z : Str) (i : Int), x = .str z ∧ y = .int i ∧ z.length ≤ 16 ∧ 0 ≤ i ∧ i ≤ 1048576 ∧ ∀ u : Str, (u.length : Int) = z.length * i → Q (.str u) H
theorem op_mulS : OpR X (binaryOp .Mult) rMulS := by
  rintro pins s σ H x y v u Q I rx ry ⟨z, i, rfl, rfl, hz, h0, h1, q⟩
  obtain ⟨t, rfl⟩ := rx
  obtain ⟨k, rfl⟩ := ry
  exact PySem.W.KXi.mul rfl hz (by omega) h1 fun t' m _ hl => ⟨.str _, H, I.tok _, ⟨_, rfl⟩, q _ (hl h0)⟩
def rMulU (K : PySem.W.Frag) : R2 := fun x y H Q => (∃ i j, x = .int i ∧ y = .int j ∧ CMulX i j ∧ Q (.int (i * j)) H) ∨ rRep x y H Q ∨ rRepT K x y H Q ∨ rMulS x y H Q ∨ rRep1 K x y H Q ∨ rMulC x y H Q
theorem op_mulU : OpR X (binaryOp .Mult) (rMulU X.K) := op_mulX.or (op_rep.or (op_repT.or (op_mulS.or (op_rep1.or op_mulC))))
/-- lists that are not as long -/
def rEqL (K : PySem.W.Frag) : R2 := fun x y H Q => ∃ a b xs ys, x = .ref a ∧ y = .ref b ∧ SqL K H a xs ∧ SqL K H b ys ∧ xs.length ≠ ys.length ∧ Q (.bl false) H
theorem op_eqL {X : Cx} (hu : X.A.units < cLine) : OpR X (compareOp .Eq) (rEqL X.K) := by
  rintro pins s σ H x y v u Q I rx ry ⟨a, b, xs, ys, rfl, rfl, hx, hy, ne, q⟩
  cases rx
  cases ry
  obtain ⟨us, ru, pu, _⟩ := I.list hx
  obtain ⟨vs, rv, pv, _⟩ := I.list hy
  refine PySem.SeqAt.eq_list_lengthsAt pu.isList pv.isList ?_ hu ⟨.bl false, H, I, rfl, q⟩
  have h1 := ru.length
  have h2 := rv.length
  simp
  omega
def rEqU (K : PySem.W.Frag) : R2 := fun x y H Q => rEq x y H Q ∨ rEqD K x y H Q ∨ rEqL K x y H Q
def rNeL (K : PySem.W.Frag) : R2 := fun x y H Q => ∃ a b xs ys, x = .ref a ∧ y = .ref b ∧ SqL K H a xs ∧ SqL K H b ys ∧ xs.length ≠ ys.length ∧ Q (.bl true) H
theorem op_neL {X : Cx} (hu : X.A.units < cLine) : OpR X (compareOp .NotEq) (rNeL X.K) := by
  rintro pins s σ H x y v u Q I rx ry ⟨a, b, xs, ys, rfl, rfl, hx, hy, ne, q⟩
  cases rx
  cases ry
  obtain ⟨us, ru, pu, _⟩ := I.list hx
  obtain ⟨vs, rv, pv, _⟩ := I.list hy
  refine PySem.SeqAt.RcNeAt.lists_lengths pu.isList pv.isList ?_ hu X.prog X.w _ _ ⟨.bl true, H, I, rfl, q⟩
  have h1 := ru.length
  have h2 := rv.length
  simp
  omega
def rNeU (K : PySem.W.Frag) : R2 := fun x y H Q => rNe x y H Q ∨ rNeD K x y H Q ∨ rNeL K x y H Q
theorem op_eqU {k : Nat} (hr : Room k X.A) : OpR X (compareOp .Eq) (rEqU X.K) := op_eq.or ((op_eqD hr.units).or (op_eqL (by have := hr.units; omega)))
theorem op_neU {k : Nat} (hr : Room k X.A) : OpR X (compareOp .NotEq) (rNeU X.K) := op_ne.or ((op_neD hr.units).or (op_neL (by have := hr.units; omega)))
def CDivG (i j : Int) : Prop := j ≠ 0 ∧ Builtin.divisionGoesByPylong i j = false
theorem noPy_low {i j : Int} (h : j.natAbs < 2 ^ 9000) : Builtin.divisionGoesByPylong i j = false := PyProof.noPylong_of_log2 (PySem.Flt.log2_lt_of (by decide) h)
theorem noPy_mid {i j : Int} (h : i.natAbs < 2 ^ 13500) : Builtin.divisionGoesByPylong i j = false := by
  have e := PySem.Flt.log2_lt_of (by decide) h
  unfold Builtin.divisionGoesByPylong
  simp only [Bool.and_eq_false_iff, decide_eq_false_iff_not]
  by_cases c : j = 0
  · left; simp [c]
  · by_cases c2 : i = 0
    · right; simp [c2]
    · simp [c, c2]; omega
theorem op_fdivG : OpR X (binaryOp .FloorDiv) (rI CDivG fun i j => .int (i.fdiv j)) := opI fun i j _ _ _ _ _ hc q => floordiv_int hc.1 q (.inl hc.2)
end
/-- walking a list or a tuple -/
def rItU (K : PySem.W.Frag) (x : V) (H : Hp) (R : It → Hp → Prop) : Prop := ∃ a, x = .ref a ∧ (((∃ xs, SqL K H a xs) ∧ R (Itl K a) H) ∨ ((∃ xs, SqT K H a xs) ∧ R (Itt K a) H))
def iSeqU (K : PySem.W.Frag) (tl : TE) : TI := fun σ H R => tl σ H fun x H1 => rItU K x H1 R
theorem pi_seqU {X : Cx} {tg l : Expr} {tl : TE} (hl : PE X l tl) : PI X tg l (iSeqU X.K tl) :=
  ⟨fun pins s σ H R I h => thn (hl.run pins s σ H _ I h) fun v s1 z => by
    obtain ⟨x, H1, I1, r1, a, e, z⟩ := z
    cases e
    cases r1
    have fp : ∀ b ∈ [s1.heap.objs.size], FpOk X pins H1 b := fun b hb => by
      obtain rfl : b = s1.heap.objs.size := by simpa using hb
      exact I1.fpOk (Nat.le_refl _) (I1.hok.fresh (Nat.le_refl _))
    rcases z with ⟨⟨xs, hq⟩, q⟩ | ⟨⟨xs, hq⟩, q⟩
    · obtain ⟨its, _, pl, _⟩ := I1.list hq
      exact wpAny_pyIter_list pl.isList ⟨_, [s1.heap.objs.size], _, _, H1, rfl, I1.kept (t' := s1.toks) (fun b o w => Heap.get?_push_of_some _ w), turn_list a _, ⟨_, Heap.get?_push_size _ rfl, rfl, rfl⟩, fp, q⟩
    · obtain ⟨its, _, pt, _⟩ := I1.tuple hq
      exact wpAny_pyIter_tuple (show s1.heap.IsTuple a its.toArray from pt) ⟨_, [s1.heap.objs.size], _, _, H1, rfl, I1.kept (t' := s1.toks) (fun b o w => Heap.get?_push_of_some _ w), turn_tuple a _, ⟨_, Heap.get?_push_size _ rfl, rfl, rfl⟩, fp, q⟩⟩
/-- a tuple's type, a list's type -/
theorem pi_seqUK {X : Cx} {K : PySem.W.Frag} {tg l : Expr} {tl : TE} (h : X.K = K) (hl : PE X l tl) : PI X tg l (iSeqU K tl) := h ▸ pi_seqU hl
theorem ty_tup {K : PySem.W.Frag} {H : Hp} {p : Addr} {xs : List V} (h : SqT K H p xs) : TyX K H (.ref p) (.type "tuple") := by
  rcases h with (h | ⟨o, h⟩) | ⟨o, its, n, h, c, _⟩
  · exact .base (.tup h)
  · exact .fTuple h
  · exact .kTuple h c
theorem ty_lst {K : PySem.W.Frag} {H : Hp} {p : Addr} {xs : List V} (h : SqL K H p xs) : TyX K H (.ref p) (.type "list") := by
  rcases h with (h | ⟨o, h⟩) | ⟨o, its, n, h, c, _⟩
  · exact .base (.lst h)
  · exact .base (.frz h)
  · exact .kList h c
/-- isinstance(e, c), e the error that a suite holds, its class cls, its dict d -/
def rIsEU (K : PySem.W.Frag) (a : Addr) (cls : Value) (d : Option Addr) : List V → Hp → VK → Prop := fun xs H Q => ∃ D : Addr, cls = .ref D ∧ (d = none ∨ ∃ dd fs, d = some dd ∧ H dd = some (.xd fs)) ∧ ExcC K D ∧ rIsE K D a xs H Q
theorem call_isEU {X : Cx} {a : Addr} {cls : Value} {d : Option Addr} {oe : Obj} {pn : List (Addr × Obj)} (hz : Zc cls d oe) (hf : ∃ vs, oe.data = .fields vs) : CallR (X.suite a ((a, oe) :: pn)) (.builtin "isinstance") (rIsEU X.K a cls d) := by
  intro pins s σ H xs us Q I r h
  obtain ⟨D, rfl, hd, C, h⟩ := h
  rcases hd with rfl | ⟨dd, fs, rfl, hdd⟩
  · exact call_isE C hz hf pins s σ H xs us Q I r h
  · obtain ⟨c, cv, b, rfl, hcv, e, q⟩ := h
    cases r with
    | cons rx rr =>
      cases rr with
      | cons rt rr =>
        cases rr
        cases rx
        have ec := hcv _ rt
        subst ec
        obtain ⟨hget, _⟩ := I.pin (a, oe) (List.mem_append.mpr (.inl List.mem_cons_self))
        obtain ⟨vs, hv⟩ := hf
        have hx : ObjOk X.prog X.w H s.heap dd (.xd fs) := I.hok dd _ hdd
        obtain ⟨mA, hns, hr⟩ := hx
        obtain ⟨od, ho, hl⟩ := lookIn_ns hns
        have J : PySem.W.InstAt s.heap a oe D (some od) := ⟨hget, hz.1, by unfold PySem.W.notCls; rw [hv] <;> rfl, by rw [hz.2]; exact ho⟩
        exact PySem.W.kia_one (PySem.W.kitx_exc (by obtain ⟨cd, hc, _⟩ := PySem.W.any_some C.hd; rw [hc]; rfl) C.hg C.hk C.hs C.ha C.hn C.ht C.hm) I.kIn J e (fun z => nomatch z) fun tk => ⟨.bl b, H, I.kept (t' := tk) fun _ _ z => z, rfl, q⟩
theorem k_isE {K : PySem.W.Frag} {H : Hp} {Q : VK} {a D : Addr} {c : V} {cv : Value} {b : Bool} (C : ExcC K D) (hk : PySem.W.kitOne K (.ref D) cv = some b) (hc : ∀ u, RelV c u → u = cv) (q : Q (.bl b) H) : rIsEU K a (.ref D) none [.ref a, c] H Q := ⟨D, rfl, .inl rfl, C, c, cv, b, rfl, hc, hk, q⟩
theorem k_isED {K : PySem.W.Frag} {H : Hp} {Q : VK} {a D dd : Addr} {fs : List (Str × V)} {c : V} {cv : Value} {b : Bool} (h : H dd = some (.xd fs)) (C : ExcC K D) (hk : PySem.W.kitOne K (.ref D) cv = some b) (hc : ∀ u, RelV c u → u = cv) (q : Q (.bl b) H) : rIsEU K a (.ref D) (some dd) [.ref a, c] H Q := ⟨D, rfl, .inr ⟨dd, fs, rfl, h⟩, C, c, cv, b, rfl, hc, hk, q⟩
def excB (K : PySem.W.Frag) (x : Str) : Bool := He.eqO (PySem.W.findIn K (.ref (He.ga K x)) "__getattribute__") (some (some (.builtin "BaseException.__getattribute__"))) && (He.eqO (PySem.W.findIn K (.ref (He.ga K x)) "__getattr__") (some none) &&
  (decide (PySem.W.subIn K (.ref (He.ga K x)) (.type "BaseException") = some true) && (PySem.W.hasDictIn K (He.ga K x) && (He.eqO (PySem.W.findIn K (.ref (He.ga K x)) "__class__") (some (some (.builtin "object.__class__"))) &&
  (He.eqO (PySem.W.specialIn K (.builtin "object.__class__") "__get__") (some (some (.builtin "getset_descriptor.__get__"))) && (decide (PySem.W.takesIn K (.builtin "object.__class__") = some true) && decide (PySem.W.mroIn K (He.ga K x) (.type "object") = some true)))))))
theorem excB_ok {K : PySem.W.Frag} {x : Str} (h : excB K x = true) : ExcC K (He.ga K x) := by
  unfold excB at h
  obtain ⟨h1, h⟩ := He.ba h
  obtain ⟨h2, h⟩ := He.ba h
  obtain ⟨h3, h⟩ := He.ba h
  obtain ⟨h4, h⟩ := He.ba h
  obtain ⟨h5, h⟩ := He.ba h
  obtain ⟨h6, h⟩ := He.ba h
  obtain ⟨h7, h8⟩ := He.ba h
  exact ⟨He.eqO_ok h1, He.eqO_ok h2, of_decide_eq_true h3, h4, He.eqO_ok h5, He.eqO_ok h6, of_decide_eq_true h7, of_decide_eq_true h8⟩
def kitB2 (K : PySem.W.Frag) (x : Str) (c : Value) (b : Bool) : Bool := decide (PySem.W.kitOne K (.ref (He.ga K x)) c = some b)
theorem xat {K : PySem.W.Frag} {l : List (PySem.W.Frag → Bool)} (h : (l.all fun f => f K) = true) (i : Nat) {f : PySem.W.Frag → Bool} (e : l[i]? = some f) : f K = true := List.all_eq_true.mp h f (List.mem_of_getElem? e)
/-! ### readings, step by step -/
section
variable {σ : L2.St} {H : Hp} {Q : VK} {v : V} {ta tb tc te : TE} {tt tu : TT} {K : PySem.W.Frag} {i j : Nat}
theorem k_var (h : σ[i]? = some (some v)) (q : Q v H) : tVar i σ H Q := ⟨v, h, q⟩
theorem k_c (q : Q v H) : tC v σ H Q := q
theorem k_op {r : R2} (q : ta σ H fun x H1 => tb σ H1 fun y H2 => r x y H2 Q) : tOp r ta tb σ H Q := q
theorem k_un {r : V → Hp → VK → Prop} (q : ta σ H fun x H1 => r x H1 Q) : tUn r ta σ H Q := q
theorem k_neg {a : Int} (q : Q (.int (-a)) H) : rU (fun i => .int (-i)) (.int a) H Q := ⟨a, rfl, q⟩
theorem k_I0 {g : Int → Int → V} {a b : Int} (q : Q (g a b) H) : rI0 g (.int a) (.int b) H Q := ⟨a, b, rfl, rfl, q⟩
theorem k_I {C : Int → Int → Prop} {g : Int → Int → V} {a b : Int} (q : Q (g a b) H) (c : C a b) : rI C g (.int a) (.int b) H Q := ⟨a, b, rfl, rfl, c, q⟩
theorem k_addI {a b : Int} (q : Q (.int (a + b)) H) : rAddU K (.int a) (.int b) H Q := .inl ⟨a, b, rfl, rfl, q⟩
theorem k_addS {a b : Str} (q : Q (.str (a ++ b)) H) (c : a.length + b.length ≤ sizeLine) : rAddU K (.str a) (.str b) H Q := .inr (.inl ⟨a, b, rfl, rfl, c, q⟩)
theorem k_addL {a b : Addr} {xs ys : List V} (ha : H a = some (.lst xs)) (hb : H b = some (.lst ys)) (q : ∀ p H', H p = none → Same H H' → H' p = some (.lst (xs ++ ys)) → Q (.ref p) H') (c : xs.length + ys.length ≤ sizeLine) : rAddU K (.ref a) (.ref b) H Q :=
  .inr (.inr (.inl ⟨a, b, xs, ys, rfl, rfl, ha, hb, c, fun p hp => q p _ hp (same_new hp) upd_same⟩))
theorem k_addT {a b : Addr} {xs ys : List V} (ha : SqT K H a xs) (hb : SqT K H b ys) (hx : xs ≠ []) (hy : ys ≠ []) (q : ∀ p H', H p = none → Same H H' → H' p = some (.tup (xs ++ ys)) → Q (.ref p) H') (c : xs.length + ys.length ≤ sizeLine) : rAddU K (.ref a) (.ref b) H Q :=
  .inr (.inr (.inr (.inl ⟨a, b, xs, ys, rfl, rfl, ha, hb, c, fun e => absurd e hx, fun _ e => absurd e hy, fun _ _ p hp => q p _ hp (same_new hp) upd_same⟩)))
theorem k_mulI {a b : Int} (q : Q (.int (a * b)) H) (c : CMulX a b) : rMulU K (.int a) (.int b) H Q := .inl ⟨a, b, rfl, rfl, c, q⟩
theorem k_mulS {z : Str} {i : Int} (hz : z.length ≤ 16) (h0 : 0 ≤ i) (h1 : i ≤ 1048576) (q : ∀ u : Str, (u.length : Int) = z.length * i → Q (.str u) H) : rMulU K (.str z) (.int i) H Q := .inr (.inr (.inr (.inl ⟨z, i, rfl, rfl, hz, h0, h1, q⟩)))
theorem k_mulC {c n : Nat} (h1 : 1 ≤ n) (h2 : n ≤ 1000) (q : Q (.str (SX.S (List.replicate n c))) H) : rMulU K (.str (SX.S [c])) (.int (n : Int)) H Q := .inr (.inr (.inr (.inr (.inr ⟨c, n, rfl, rfl, h1, h2, q⟩))))
/-- a tuple of one, repeated -/
theorem k_mulRT {l : Addr} {y : V} {k : Nat} (h : SqT K H l [y]) (h1 : 1 ≤ k) (h2 : k ≤ 1000) (q : ∀ p H', Same H H' → SqT K H' p (List.replicate k y) → Q (.ref p) H') : rMulU K (.ref l) (.int (k : Int)) H Q := by
  by_cases e : k = 1
  · subst e
    exact .inr (.inr (.inr (.inr (.inl ⟨l, _, rfl, rfl, h, q l H (Same.refl H) h⟩))))
  · refine .inr (.inr (.inl ⟨l, _, _, rfl, rfl, h, by simp, by omega, by omega, by simp, fun p hp => q p _ (same_new hp) ?_⟩))
    have e2 : ∀ n : Nat, (List.replicate n [y]).flatten = List.replicate n y := fun n => by
      induction n with
      | zero => rfl
      | succ n ih => rw [List.replicate_succ, List.flatten_cons, ih, List.replicate_succ]; rfl
    rw [show ((k : Int)).toNat = k from rfl, e2]
    exact SqT.of upd_same
theorem k_eqS {x y : V} (h : scal x y = true) (q : Q (.bl (decide (x = y))) H) : rEqU K x y H Q := .inl ⟨h, q⟩
theorem k_neS {x y : V} (h : scal x y = true) (q : Q (.bl (!decide (x = y))) H) : rNeU K x y H Q := .inl ⟨h, q⟩
theorem dec_int {a b : Int} : decide (V.int a = V.int b) = decide (a = b) := by
  by_cases h : a = b
  · rw [h] <;> simp
  · rw [decide_eq_false h, decide_eq_false (fun e => h (V.int.inj e))]
theorem dec_str {a b : Str} : decide (V.str a = V.str b) = decide (a = b) := by
  by_cases h : a = b
  · rw [h] <;> simp
  · rw [decide_eq_false h, decide_eq_false (fun e => h (V.str.inj e))]
theorem dec_bl {a b : Bool} : decide (V.bl a = V.bl b) = decide (a = b) := by
  cases a <;> cases b <;> decide
theorem k_eqI {a b : Int} (q : Q (.bl (decide (a = b))) H) : rEqU K (.int a) (.int b) H Q := k_eqS rfl (by rw [dec_int]; exact q)
theorem k_neI {a b : Int} (q : Q (.bl (!decide (a = b))) H) : rNeU K (.int a) (.int b) H Q := k_neS rfl (by rw [dec_int]; exact q)
theorem k_eqT {a b : Str} (q : Q (.bl (decide (a = b))) H) : rEqU K (.str a) (.str b) H Q := k_eqS rfl (by rw [dec_str]; exact q)
theorem k_neT {a b : Str} (q : Q (.bl (!decide (a = b))) H) : rNeU K (.str a) (.str b) H Q := k_neS rfl (by rw [dec_str]; exact q)
theorem k_eqB {a b : Bool} (q : Q (.bl (decide (a = b))) H) : rEqU K (.bl a) (.bl b) H Q := k_eqS rfl (by rw [dec_bl]; exact q)
theorem k_neB {a b : Bool} (q : Q (.bl (!decide (a = b))) H) : rNeU K (.bl a) (.bl b) H Q := k_neS rfl (by rw [dec_bl]; exact q)
theorem k_eqD {x y : V} {d e : PyData} (hx : Dp K H x d) (hy : Dp K H y e) (q : Q (.bl (PyData.eqv d e)) H) (s1 : SeqAt.shaped d = true) (s2 : SeqAt.shaped e = true) : rEqU K x y H Q := .inr (.inl ⟨d, e, hx, hy, s1, s2, q⟩)
theorem k_eqNil {a b : Addr} {xs : List V} (hx : SqL K H a xs) (hb : H b = some (.lst [])) (q : Q (.bl xs.isEmpty) H) : rEqU K (.ref a) (.ref b) H Q := by
  cases xs with
  | nil => exact .inr (.inl ⟨.list [], .list [], .lst hx .nil, .lst (SqL.of hb) .nil, rfl, rfl, by simpa [PyData.eqv, PyData.eqvAll] using q⟩)
  | cons x r => exact .inr (.inr ⟨a, b, _, [], rfl, rfl, hx, SqL.of hb, by simp, q⟩)
theorem k_neD {x y : V} {d e : PyData} (hx : Dp K H x d) (hy : Dp K H y e) (q : Q (.bl (!PyData.eqv d e)) H) (s1 : SeqAt.shaped d = true) (s2 : SeqAt.shaped e = true) : rNeU K x y H Q := .inr (.inl ⟨d, e, hx, hy, s1, s2, q⟩)
theorem k_neNil {a b : Addr} {xs : List V} (hx : SqL K H a xs) (hb : H b = some (.lst [])) (q : Q (.bl (!xs.isEmpty)) H) : rNeU K (.ref a) (.ref b) H Q := by
  cases xs with
  | nil => exact .inr (.inl ⟨.list [], .list [], .lst hx .nil, .lst (SqL.of hb) .nil, rfl, rfl, by simpa [PyData.eqv, PyData.eqvAll] using q⟩)
  | cons x r => exact .inr (.inr ⟨a, b, _, [], rfl, rfl, hx, SqL.of hb, by simp, q⟩)
theorem k_in0 {x : V} {p : Addr} {xs : List V} {b : Bool} (h : SqL K H p xs ∨ SqT K H p xs) (hx : flatV x = true) (ha : xs.all flatV = true) (e : inV x xs = b) (q : Q (.bl b) H) : rIn K false x (.ref p) H Q := ⟨p, xs, rfl, h, hx, ha, by rw [e]; exact q⟩
theorem k_ni0 {x : V} {p : Addr} {xs : List V} {b : Bool} (h : SqL K H p xs ∨ SqT K H p xs) (hx : flatV x = true) (ha : xs.all flatV = true) (e : inV x xs = b) (q : Q (.bl (!b)) H) : rIn K true x (.ref p) H Q := ⟨p, xs, rfl, h, hx, ha, by rw [e]; exact q⟩
/-- True stands in no list of False -/
theorem k_notIn {p : Addr} {xs : List V} (h : SqL K H p xs) (ha : xs.all flatV = true) (e : inV (.bl true) xs = false) (q : Q (.bl true) H) : rIn K true (.bl true) (.ref p) H Q := k_ni0 (.inl h) rfl ha e q
/-- tests -/
theorem k_tst {Q : Bool → Hp → Prop} (q : te σ H fun x H' => ∃ k, x = .bl k ∧ Q k H') : tTest te σ H Q := q
theorem k_B {Q : Bool → Hp → Prop} (q : te σ H fun x H' => ∃ k, x = .bl k ∧ Q k H') : tB te σ H Q := q
theorem k_bl {Q : Bool → Prop} {b : Bool} (q : Q b) : ∃ k, V.bl b = .bl k ∧ Q k := ⟨b, rfl, q⟩
theorem k_and {Q : Bool → Hp → Prop} (q : tt σ H fun c H1 => if c = true then tu σ H1 Q else Q false H1) : tAnd tt tu σ H Q := q
theorem k_or {Q : Bool → Hp → Prop} (q : tt σ H fun c H1 => if c = true then Q true H1 else tu σ H1 Q) : tOr tt tu σ H Q := q
theorem k_not {Q : Bool → Hp → Prop} (q : tt σ H fun c H1 => Q (!c) H1) : tNot tt σ H Q := q
theorem k_andV (q : ta σ H fun x H1 => ∃ c, x = .bl c ∧ if c = true then tb σ H1 Q else Q (.bl false) H1) : tAndV ta tb σ H Q := q
theorem k_orV (q : ta σ H fun x H1 => ∃ c, x = .bl c ∧ if c = true then Q (.bl true) H1 else tb σ H1 Q) : tOrV ta tb σ H Q := q
theorem k_notV (q : ta σ H fun x H1 => ∃ c, x = .bl c ∧ Q (.bl (!c)) H1) : tNotV ta σ H Q := q
theorem k_ife (q : tt σ H fun c H1 => if c = true then ta σ H1 Q else tb σ H1 Q) : tIf tt ta tb σ H Q := q
theorem k_chain {r r' : R2} (q : ta σ H fun x H1 => tb σ H1 fun y H2 => r x y H2 fun z H3 => ∃ k, z = .bl k ∧ (if k = true then tc σ H3 fun w' H4 => r' y w' H4 Q else Q (.bl false) H3)) : tChain r r' ta tb tc σ H Q := q
theorem k_tru {Q : Bool → Hp → Prop} {x : V} {b : Bool} (h : TruV K x H b) (q : Q b H) : ∃ k, TruV K x H k ∧ Q k H := ⟨b, h, q⟩
/-- a branch -/
theorem k_if {c : Prop} [Decidable c] {A B : Prop} (h1 : c → A) (h2 : ¬ c → B) : if decide c = true then A else B := by
  by_cases h : c
  · rw [if_pos (decide_eq_true h)]
    exact h1 h
  · rw [if_neg (by rw [decide_eq_false h]; decide)]
    exact h2 h
theorem k_ifn {c : Prop} [Decidable c] {A B : Prop} (h1 : ¬ c → A) (h2 : c → B) : if (!decide c) = true then A else B := by
  by_cases h : c
  · rw [if_neg (by rw [decide_eq_true h]; decide)]
    exact h2 h
  · rw [if_pos (by rw [decide_eq_false h]; decide)]
    exact h1 h
theorem k_ifb {b : Bool} {A B : Prop} (h1 : b = true → A) (h2 : b = false → B) : if b = true then A else B := by
  cases b with
  | true => exact h1 rfl
  | false => exact h2 rfl
theorem k_ifnb {b : Bool} {A B : Prop} (h1 : b = false → A) (h2 : b = true → B) : if (!b) = true then A else B := by
  cases b with
  | true => exact h2 rfl
  | false => exact h1 rfl
theorem k_ifnd {c : Prop} [Decidable c] {A B : Prop} (h1 : ¬ c → A) (h2 : c → B) : if (!decide c) = true then A else B := k_ifn h1 h2
theorem k_ifT {A B : Prop} (h : A) : if true = true then A else B := iteT h
theorem k_ifF {A B : Prop} (h : B) : if false = true then A else B := iteF h
theorem k_ifnT {A B : Prop} (h : B) : if (!true) = true then A else B := iteF h
theorem k_ifnF {A B : Prop} (h : A) : if (!false) = true then A else B := iteT h
/-- calls, arguments, displays -/
theorem k_cb {r : List V → Hp → VK → Prop} {t : TA} (q : t σ H fun vs H1 => r vs H1 Q) : tCB r t σ H Q := q
theorem k_cons {t : TA} {Q : List V → Hp → Prop} (q : ta σ H fun x H1 => t σ H1 fun xs H2 => Q (x :: xs) H2) : tCons ta t σ H Q := q
theorem k_nil {Q : List V → Hp → Prop} (q : Q [] H) : tNil σ H Q := q
theorem k_callS {sp : Sp} {W : WX} {t : TA} (q : t σ H fun vs H1 => sp vs H1 Q (WE W σ)) : tCallS sp (WE W) t σ H Q := q
theorem k_call {sp : Sp} {t : TA} {E : XK} (q : t σ H fun vs H1 => sp vs H1 Q E) : tCall sp [] E t σ H Q := by
  show t σ H fun vs H1 => sp (vs ++ []) H1 Q E
  simp only [List.append_nil]
  exact q
def rTupX (xs : List V) (H : Hp) (Q : VK) : Prop := xs.length ≤ sizeLine ∧ ∀ p, H p = none → Q (.ref p) (upd H p (.tup xs))
def rLstX (xs : List V) (H : Hp) (Q : VK) : Prop := xs.length ≤ sizeLine ∧ ∀ p, H p = none → Q (.ref p) (upd H p (.lst xs))
theorem k_tupx {xs : List V} (q : ∀ p H2, H p = none → Same H H2 → H2 p = some (.tup xs) → Q (.ref p) H2) (c : xs.length ≤ sizeLine) : rTupX xs H Q := ⟨c, fun p hp => q p _ hp (same_new hp) upd_same⟩
theorem k_lstx {xs : List V} (q : ∀ p H2, H p = none → Same H H2 → H2 p = some (.lst xs) → Q (.ref p) H2) (c : xs.length ≤ sizeLine) : rLstX xs H Q := ⟨c, fun p hp => q p _ hp (same_new hp) upd_same⟩
theorem k_tup0 {t : TA} (q : t σ H fun xs H1 => rTupX xs H1 Q) : tTup t σ H Q := q
theorem k_lst0 {t : TA} (q : t σ H fun xs H1 => rLstX xs H1 Q) : tLst t σ H Q := q
/-- subscripts -/
theorem k_ixL {p : Addr} {xs : List V} {i : Int} (h : SqL K H p xs) (ha : atI xs i = some v) (q : Q v H) : rIx K (.ref p) (.int i) H Q := .inl ⟨p, xs, i, v, rfl, rfl, h, ha, q⟩
theorem k_ixT {p : Addr} {xs : List V} {i : Int} (h : SqT K H p xs) (ha : atI xs i = some v) (q : Q v H) : rIx K (.ref p) (.int i) H Q := .inr (.inl ⟨p, xs, i, v, rfl, rfl, h, ha, q⟩)
/-! statements -/
variable {D : Ends} {t u : TS} {g : TG}
theorem k_seq (q : t { D with nx := u D } σ H) : tSeq t u D σ H := q
theorem k_asg  (q : te σ H fun x H1 => g x σ H1 D.nx) : tAsg te g D σ H := q
theorem k_gn {Q : L2.St → Hp → Prop} (q : Q (σ.set i (some v)) H) : gName i v σ H Q := q
theorem k_gtup {a : Addr} {xs : List V} {n : Nat} {t : TGs} {Q : L2.St → Hp → Prop} (h : SqT K H a xs) (hl : xs.length = n) (q : t xs σ H Q) : gTup K n t (.ref a) σ H Q := ⟨a, xs, rfl, h, hl, q⟩
theorem k_gcons {t : TG} {u : TGs} {r : List V} {Q : L2.St → Hp → Prop} (q : t v σ H fun σ' H' => u r σ' H' Q) : gCons t u (v :: r) σ H Q := ⟨v, r, rfl, q⟩
theorem k_gnil {Q : L2.St → Hp → Prop} (q : Q σ H) : gNil [] σ H Q := ⟨rfl, q⟩
theorem k_drop (q : te σ H fun _ H1 => D.nx σ H1) : tDrop te D σ H := q
theorem k_ret (q : te σ H D.rt) : tRet te D σ H := q
theorem k_ifs (q : tt σ H fun c H1 => if c = true then t D σ H1 else u D σ H1) : tIfS tt t u D σ H := q
theorem k_next (q : D.nx σ H) : tNext D σ H := q
theorem k_par {ta : TA} (q : ta σ H fun vs H1 => ∃ v w, vs = [v, w] ∧ D.nx ((σ.set i (some v)).set j (some w)) H1) : tPar i j ta D σ H := q
theorem k_two {v w : V} {P : V → V → Prop} (q : P v w) : ∃ a b, [v, w] = [a, b] ∧ P a b := ⟨v, w, rfl, q⟩
theorem k_app {l : Addr} {xs : List V} {y : V} (h : H l = some (.lst xs)) (q : ∀ H', But l H H' → H' l = some (.lst (xs ++ [y])) → Q .non H') (c : xs.length < sizeLine) : tyV K "list" (.ref l) H ∧ rAppend (.ref l) [y] H Q :=
  ⟨.inl ⟨rfl, _, SqL.of h⟩, l, xs, y, rfl, rfl, h, c, q _ But.upd upd_same⟩
end
/-! ### the same, the written part by its name -/
section
variable {X : Cx} {K : PySem.W.Frag}
theorem op_addK (h : X.K = K) : OpR X (binaryOp .Add) (rAddU K) := h ▸ op_addU
theorem op_mulK (h : X.K = K) : OpR X (binaryOp .Mult) (rMulU K) := h ▸ op_mulU
theorem op_eqK {k : Nat} (h : X.K = K) (hr : Room k X.A) : OpR X (compareOp .Eq) (rEqU K) := h ▸ op_eqU hr
theorem op_neK {k : Nat} (h : X.K = K) (hr : Room k X.A) : OpR X (compareOp .NotEq) (rNeU K) := h ▸ op_neU hr
/-- in an except suite -/
theorem op_eqKS {k : Nat} {a : Addr} {pn : List (Addr × Obj)} (h : X.K = K) (hr : Room k X.A) : OpR (X.suite a pn) (compareOp .Eq) (rEqU K) := h ▸ op_eq.or ((op_eqD (X := X.suite a pn) (show X.A.units + 64 < cLine from hr.units)).or (op_eqL (X := X.suite a pn) (show X.A.units < cLine from hr.units0)))
theorem op_neKS {k : Nat} {a : Addr} {pn : List (Addr × Obj)} (h : X.K = K) (hr : Room k X.A) : OpR (X.suite a pn) (compareOp .NotEq) (rNeU K) := h ▸ op_ne.or ((op_neD (X := X.suite a pn) (show X.A.units + 64 < cLine from hr.units)).or (op_neL (X := X.suite a pn) (show X.A.units < cLine from hr.units0)))
theorem op_inK (h : X.K = K) : OpR X (compareOp .In) (rIn K false) := h ▸ op_in_seq
theorem op_niK (h : X.K = K) : OpR X (compareOp .NotIn) (rIn K true) := h ▸ op_notIn_seq
def rSlU (K : PySem.W.Frag) : V → Option Int → Option Int → Hp → VK → Prop := fun x lo hi H Q => rSlL K x lo hi H Q ∨ rSlS x lo hi H Q ∨ rSlA K x lo hi H Q
theorem sl_U {X : Cx} : SlR X (rSlU X.K) := sl_list.or (sl_str.or sl_tupA)
theorem sl_K (h : X.K = K) : SlR X (rSlU K) := h ▸ sl_U
theorem ix_K (h : X.K = K) : IxR X (rIx K) := h ▸ ix_seq
end
section
variable {σ : L2.St} {H : Hp} {Q : VK} {te : TE} {K : PySem.W.Frag}
/-! slices, an empty dict -/
theorem k_sl {r : V → Option Int → Option Int → Hp → VK → Prop} {tl th : TO} (q : te σ H fun x H1 => tl σ H1 fun lo H2 => th σ H2 fun hi H3 => r x lo hi H3 Q) : tSl r te tl th σ H Q := q
theorem k_part {Q : Option Int → Hp → Prop} (q : te σ H fun x H1 => ∃ i, x = .int i ∧ Q (some i) H1) : tPart te σ H Q := q
theorem k_noPart {Q : Option Int → Hp → Prop} (q : Q none H) : tNoPart σ H Q := q
theorem k_int {a : Int} {Q : Int → Prop} (q : Q a) : ∃ i, V.int a = .int i ∧ Q i := ⟨a, rfl, q⟩
theorem k_slL {a : Addr} {xs : List V} {lo hi : Option Int} (h : SqL K H a xs) (q : ∀ p H2, H p = none → Same H H2 → H2 p = some (.lst (cutV xs lo hi)) → Q (.ref p) H2) : rSlU K (.ref a) lo hi H Q := .inl ⟨a, xs, rfl, h, fun p hp => q p _ hp (same_new hp) upd_same⟩
theorem k_slS {z : Str} {lo hi : Option Int} (q : Q (.str (cutS z lo hi)) H) (c : z.length ≤ sizeLine) : rSlU K (.str z) lo hi H Q := .inr (.inl ⟨z, rfl, c, q⟩)
theorem k_slT {a : Addr} {xs : List V} {lo hi : Option Int} (h : SqT K H a xs) (c : ¬ (HT.sIx xs.length 0 lo = 0 ∧ HT.sIx xs.length xs.length hi = xs.length)) (q : ∀ p H2, H p = none → Same H H2 → H2 p = some (.tup (cutV xs lo hi)) → Q (.ref p) H2) : rSlU K (.ref a) lo hi H Q :=
  .inr (.inr ⟨a, xs, rfl, h, fun z => absurd z c, fun _ p hp => q p _ hp (same_new hp) upd_same⟩)
def rDictX (H : Hp) (Q : VK) : Prop := ∀ p, H p = none → Q (.ref p) (upd H p (.dK []))
theorem k_dict0 (q : rDictX H Q) : tDNewK σ H Q := q
theorem k_dict1 (q : ∀ p H2, H p = none → Same H H2 → H2 p = some (.dK []) → Q (.ref p) H2) : rDictX H Q := fun p hp => q p _ hp (same_new hp) upd_same
end
/-! ### built-ins by name -/
section
variable {X : Cx}
def rLenU (K : PySem.W.Frag) : List V → Hp → VK → Prop := fun xs H Q => ∃ x n, xs = [x] ∧ LenV K x H n ∧ Q (.int n) H
theorem call_lenU : CallR X (.builtin "len") (rLenU X.K) := call_len
def rAbsU : List V → Hp → VK → Prop := fun xs H Q => ∃ i, xs = [.int i] ∧ Q (.int (if i < 0 then -i else i)) H
theorem call_absU : CallR X (.builtin "abs") rAbsU := call_abs
def rMaxU : List V → Hp → VK → Prop := fun xs H Q => ∃ i j, xs = [.int i, .int j] ∧ Q (.int (if j > i then j else i)) H
theorem call_maxU (hc : X.calm = true) : CallR X (.builtin "max") rMaxU := call_max2 hc
def rMinU : List V → Hp → VK → Prop := fun xs H Q => ∃ i j, xs = [.int i, .int j] ∧ Q (.int (if j < i then j else i)) H
theorem call_minU (hc : X.calm = true) : CallR X (.builtin "min") rMinU := call_min2 hc
def rIntU : List V → Hp → VK → Prop := fun xs H Q => ((∃ i, xs = [.int i] ∧ Q (.int i) H) ∨ ∃ k, xs = [.bl k] ∧ Q (.int (if k then 1 else 0)) H) ∨ ∃ a n, xs = [.str a] ∧ PySem.intText? a = some n ∧ a.length ≤ 640 ∧ Q (.int n) H
theorem call_intU : CallR X (.type "int") rIntU := fun pins s σ H xs us Q I r h => h.elim (call_int1 pins s σ H xs us Q I r) (call_int_str pins s σ H xs us Q I r)
def rBoolU : List V → Hp → VK → Prop := fun xs H Q => (∃ i, xs = [.int i] ∧ Q (.bl (i != 0)) H) ∨ ∃ k, xs = [.bl k] ∧ Q (.bl k) H
theorem call_boolU : CallR X (.type "bool") rBoolU := call_bool1
def rStrU : List V → Hp → VK → Prop := fun xs H Q => ∃ i, xs = [.int i] ∧ i.natAbs.log2 < 1920 ∧ Q (.str (toString i)) H
theorem call_strU : CallR X (.type "str") rStrU := call_str_int
def rTupU (K : PySem.W.Frag) : List V → Hp → VK → Prop := fun xs H Q => ∃ p ys, xs = [.ref p] ∧ ((SqL K H p ys ∧ ∀ l, H l = none → Q (.ref l) (upd H l (.tup ys))) ∨ (SqT K H p ys ∧ Q (.ref p) H))
theorem call_tupU : CallR X (.type "tuple") (rTupU X.K) := call_tuple_of
def rLstU (K : PySem.W.Frag) : List V → Hp → VK → Prop := fun xs H Q => ∃ p ys, xs = [.ref p] ∧ (SqL K H p ys ∨ SqT K H p ys) ∧ ∀ l, H l = none → Q (.ref l) (upd H l (.lst ys))
theorem call_lstU : CallR X (.type "list") (rLstU X.K) := call_list_of
def rIsN : R2 := fun x y H Q => y = .non ∧ Q (.bl (decide (x = .non))) H
def rNotN : R2 := fun x y H Q => y = .non ∧ Q (.bl (!decide (x = .non))) H
theorem op_isNU : OpR X (compareOp .Is) rIsN := op_isN
theorem op_notNU : OpR X (compareOp .IsNot) rNotN := op_notN
end
section
variable {σ : L2.St} {H : Hp} {Q : VK} {K : PySem.W.Frag}
theorem k_lenL {p : Addr} {xs : List V} (q : Q (.int xs.length) H) (h : SqL K H p xs) : rLenU K [.ref p] H Q := ⟨.ref p, xs.length, rfl, .inl ⟨xs, h, rfl⟩, q⟩
theorem k_lenT {p : Addr} {xs : List V} (q : Q (.int xs.length) H) (h : SqT K H p xs) : rLenU K [.ref p] H Q := ⟨.ref p, xs.length, rfl, .inr ⟨xs, h, rfl⟩, q⟩
theorem k_lenS {x : Str} (q : Q (.int x.length) H) (h : x.length ≤ sizeLine) : rLenU K [.str x] H Q := ⟨.str x, x.length, rfl, ⟨h, rfl⟩, q⟩
theorem k_abs {a : Int} (q : Q (.int (a.natAbs : Int)) H) : rAbsU [.int a] H Q := ⟨a, rfl, by
  have e : (if a < 0 then -a else a) = (a.natAbs : Int) := by split <;> omega
  rw [e]
  exact q⟩
theorem k_max {a b : Int} (q : Q (.int (max a b)) H) : rMaxU [.int a, .int b] H Q := ⟨a, b, rfl, by
  have e : (if b > a then b else a) = max a b := by split <;> omega
  rw [e]
  exact q⟩
theorem k_min {a b : Int} (q : Q (.int (min a b)) H) : rMinU [.int a, .int b] H Q := ⟨a, b, rfl, by
  have e : (if b < a then b else a) = min a b := by split <;> omega
  rw [e]
  exact q⟩
theorem k_intI {a : Int} (q : Q (.int a) H) : rIntU [.int a] H Q := .inl (.inl ⟨a, rfl, q⟩)
theorem k_intB {b : Bool} (q : Q (.int (if b then 1 else 0)) H) : rIntU [.bl b] H Q := .inl (.inr ⟨b, rfl, q⟩)
theorem k_intS {a : Str} {n : Int} (h : PySem.intText? a = some n) (c : a.length ≤ 640) (q : Q (.int n) H) : rIntU [.str a] H Q := .inr ⟨a, n, rfl, h, c, q⟩
theorem k_boolI {a : Int} (q : Q (.bl (a != 0)) H) : rBoolU [.int a] H Q := .inl ⟨a, rfl, q⟩
theorem k_boolB {b : Bool} (q : Q (.bl b) H) : rBoolU [.bl b] H Q := .inr ⟨b, rfl, q⟩
theorem k_strI {a : Int} (q : Q (.str (toString a)) H) (c : a.natAbs.log2 < 1920) : rStrU [.int a] H Q := ⟨a, rfl, c, q⟩
theorem k_lstL {p : Addr} {xs : List V} (h : SqL K H p xs) (q : ∀ l H', H l = none → Same H H' → H' l = some (.lst xs) → Q (.ref l) H') : rLstU K [.ref p] H Q := ⟨p, xs, rfl, .inl h, fun l hl => q l _ hl (same_new hl) upd_same⟩
theorem k_lstT {p : Addr} {xs : List V} (h : SqT K H p xs) (q : ∀ l H', H l = none → Same H H' → H' l = some (.lst xs) → Q (.ref l) H') : rLstU K [.ref p] H Q := ⟨p, xs, rfl, .inr h, fun l hl => q l _ hl (same_new hl) upd_same⟩
theorem k_isN {x : V} (q : Q (.bl (decide (x = .non))) H) : rIsN x .non H Q := ⟨rfl, q⟩
theorem k_notN {x : V} (q : Q (.bl (!decide (x = .non))) H) : rNotN x .non H Q := ⟨rfl, q⟩
theorem k_powc {a b c : Int} (e : a ^ b.toNat = c) (hc : CPow a b) (q : Q (.int c) H) : rI CPow (fun i j => .int (i ^ j.toNat)) (.int a) (.int b) H Q := ⟨a, b, rfl, rfl, hc, by show Q (.int (a ^ b.toNat)) H; rw [e]; exact q⟩
theorem cpow {a b : Int} (h : 0 ≤ b) (h1 : b ≤ 1000000) (h2 : a.natAbs < 2 ^ 64) : CPow a b := ⟨h, h1, h2⟩
theorem k_mod {a b : Int} (hb : 0 < b) (q : Q (.int (a % b)) H) : rI (fun _ j => j ≠ 0) (fun i j => .int (i.fmod j)) (.int a) (.int b) H Q := ⟨a, b, rfl, rfl, by omega, by show Q (.int (a.fmod b)) H; rw [Int.fmod_eq_emod_of_nonneg a (by omega)]; exact q⟩
theorem k_log {b : Int} (h : b.natAbs < 2 ^ 64) : b.natAbs.log2 < 9000 := Nat.lt_of_lt_of_le (PySem.Flt.log2_lt_of (by decide) h) (by decide)
theorem k_div {a b : Int} (hb : 0 < b) (hl : b.natAbs.log2 < 9000) (q : Q (.int (a / b)) H) : rI CDivG (fun i j => .int (i.fdiv j)) (.int a) (.int b) H Q := ⟨a, b, rfl, rfl, ⟨by omega, PyProof.noPylong_of_log2 hl⟩, by show Q (.int (a.fdiv b)) H; rw [Int.fdiv_eq_ediv_of_nonneg a (by omega)]; exact q⟩
theorem k_mulB {a b : Int} {m n : Nat} (ha : a.natAbs < 2 ^ m) (hb : b.natAbs < 2 ^ n) (h : m + n ≤ 134217728) (q : Q (.int (a * b)) H) : rMulU K (.int a) (.int b) H Q := k_mulI q (mulx_ok ha hb h)
theorem k_pop {l : Addr} {xs : List V} {y : V} (h : H l = some (.lst (xs ++ [y]))) (q : ∀ H', But l H H' → H' l = some (.lst xs) → Q y H') : tyV K "list" (.ref l) H ∧ rPop (.ref l) [] H Q :=
  ⟨.inl ⟨rfl, _, SqL.of h⟩, l, _, y, rfl, rfl, h, by simp, q _ But.upd (by rw [List.dropLast_concat]; exact upd_same)⟩
theorem k_bm0 {T : String} {r : V → List V → Hp → VK → Prop} {te : TE} (q : te σ H fun x H1 => tyV K T x H1 ∧ r x [] H1 Q) : tBM0 K T r te σ H Q := q
theorem k_bm {T : String} {r : V → List V → Hp → VK → Prop} {te : TE} {t : TA} (q : te σ H fun x H1 => tyV K T x H1 ∧ t σ H1 fun xs H2 => r x xs H2 Q) : tBM K T r te t σ H Q := q
theorem k_app0 {l : Addr} {xs : List V} (h : H l = some (.lst xs)) : tyV K "list" (.ref l) H := .inl ⟨rfl, _, SqL.of h⟩
theorem k_app1 {l : Addr} {xs : List V} {y : V} (h : H l = some (.lst xs)) (c : xs.length < sizeLine) (q : ∀ H', But l H H' → H' l = some (.lst (xs ++ [y])) → Q .non H') : rAppend (.ref l) [y] H Q := ⟨l, xs, y, rfl, rfl, h, c, q _ But.upd upd_same⟩
def rRevX (K : PySem.W.Frag) (x : V) (H : Hp) (Q : VK) : Prop := ∃ a xs, x = .ref a ∧ SqL K H a xs ∧ ∀ p, H p = none → Q (.ref p) (upd H p (.lst xs.reverse))
theorem k_rev {te : TE} (q : te σ H fun x H1 => rRevX K x H1 Q) : tRevL K te σ H Q := q
theorem k_rev1 {p : Addr} {xs : List V} (h : SqL K H p xs) (q : ∀ l H', H l = none → Same H H' → H' l = some (.lst xs.reverse) → Q (.ref l) H') : rRevX K (.ref p) H Q := ⟨p, xs, rfl, h, fun l hl => q l _ hl (same_new hl) upd_same⟩
/-- isinstance -/
theorem k_isi {x c : V} {t u : Value} {b : Bool} (hc : ClsV c u) (ht : TyX K H x t) (hk : PySem.W.kitOne K t u = some b) (q : Q (.bl b) H) : rIsi K [x, c] H Q := ⟨x, c, t, u, b, rfl, hc, ht, hk, q⟩
theorem k_cut {t u : TS} {D : Ends} (M : L2.St → Hp → Prop) (h : t { D with nx := M } σ H) (k : ∀ σ' H', M σ' H' → u D σ' H') : C8.tCut t u D σ H := ⟨M, h, k⟩
theorem k_cut0 {t u : TS} {D : Ends} (h : t { D with nx := u D } σ H) : C8.tCut t u D σ H := ⟨_, h, fun _ _ q => q⟩
/-! loops -/
variable {D : Ends} {g : TG} {tb : TS} {j : Nat} {wi : TI}
def LoopI (J : It) (g : TG) (tb : TS) (D : Ends) (σ : L2.St) (H : Hp) : Prop := ∃ W : Nat → Nat → L2.St → Hp → Prop, (∃ m, W 0 m σ H) ∧ ∀ i m σ H, W i m σ H →
  (J.stop i H ∧ D.nx σ H) ∨ (J.go i H ∧ ∃ N : L2.St → Hp → Prop, (∀ σ' H', N σ' H' → ∃ m', m' < m ∧ W (i + 1) m' σ' H') ∧ ∀ x H', J.yld i H x H' → g x σ H' fun σ2 H2 => tb { D with nx := N, ct := N, bk := D.nx } σ2 H2)
theorem k_for (q : wi σ H fun J H1 => LoopI J g tb D σ H1) : tFor wi g tb D σ H := q
def rRng1 (vs : List V) (H : Hp) (R : It → Hp → Prop) : Prop := ∃ j : Int, vs = [.int j] ∧ -(2 ^ 62) ≤ j ∧ j < 2 ^ 62 ∧ R (Itr 0 j.toNat) H
def rRng2 (vs : List V) (H : Hp) (R : It → Hp → Prop) : Prop := ∃ i j : Int, vs = [.int i, .int j] ∧ (-(2 ^ 62) ≤ i ∧ i < 2 ^ 62 ∧ -(2 ^ 62) ≤ j ∧ j < 2 ^ 62) ∧ R (Itr i (j - i).toNat) H
def rItL (K : PySem.W.Frag) (x : V) (H : Hp) (R : It → Hp → Prop) : Prop := ∃ a, x = .ref a ∧ (∃ xs, SqL K H a xs) ∧ R (Itl K a) H
def rItT (K : PySem.W.Frag) (x : V) (H : Hp) (R : It → Hp → Prop) : Prop := ∃ a, x = .ref a ∧ (∃ xs, SqT K H a xs) ∧ R (Itt K a) H
theorem k_iRng1 {ta : TA} {R : It → Hp → Prop} (q : ta σ H fun vs H1 => rRng1 vs H1 R) : iRng1 ta σ H R := q
theorem k_iRng2 {ta : TA} {R : It → Hp → Prop} (q : ta σ H fun vs H1 => rRng2 vs H1 R) : iRng2 ta σ H R := q
theorem k_iList {tl : TE} {R : It → Hp → Prop} (q : tl σ H fun x H1 => rItL K x H1 R) : iList K tl σ H R := q
theorem k_iSeqU {tl : TE} {R : It → Hp → Prop} (q : tl σ H fun x H1 => rItU K x H1 R) : iSeqU K tl σ H R := q
theorem k_itUL {a : Addr} {xs : List V} {R : It → Hp → Prop} (h : SqL K H a xs) (q : R (Itl K a) H) : rItU K (.ref a) H R := ⟨a, rfl, .inl ⟨⟨xs, h⟩, q⟩⟩
theorem k_itUT {a : Addr} {xs : List V} {R : It → Hp → Prop} (h : SqT K H a xs) (q : R (Itt K a) H) : rItU K (.ref a) H R := ⟨a, rfl, .inr ⟨⟨xs, h⟩, q⟩⟩
theorem k_iTup {tl : TE} {R : It → Hp → Prop} (q : tl σ H fun x H1 => rItT K x H1 R) : iTup K tl σ H R := q
theorem k_rng1 {n : Int} {R : It → Hp → Prop} (c : -(2 ^ 62) ≤ n ∧ n < 2 ^ 62) (q : R (Itr 0 n.toNat) H) : rRng1 [.int n] H R := ⟨n, rfl, c.1, c.2, q⟩
theorem k_rng2 {m n : Int} {R : It → Hp → Prop} (c : -(2 ^ 62) ≤ m ∧ m < 2 ^ 62 ∧ -(2 ^ 62) ≤ n ∧ n < 2 ^ 62) (q : R (Itr m (n - m).toNat) H) : rRng2 [.int m, .int n] H R := ⟨m, n, rfl, c, q⟩
theorem k_itL {a : Addr} {xs : List V} {R : It → Hp → Prop} (h : SqL K H a xs) (q : R (Itl K a) H) : rItL K (.ref a) H R := ⟨a, rfl, ⟨xs, h⟩, q⟩
theorem k_itT {a : Addr} {xs : List V} {R : It → Hp → Prop} (h : SqT K H a xs) (q : R (Itt K a) H) : rItT K (.ref a) H R := ⟨a, rfl, ⟨xs, h⟩, q⟩
/-- for x in range(..) -/
theorem k_loopR {n : Nat} (P : Nat → L2.St → Hp → Prop) (h0 : P 0 σ H) (hs : ∀ (i : Nat) σ H, i < n → P i σ H → tb { D with nx := P (i + 1), ct := P (i + 1), bk := D.nx } (σ.set j (some (.int (i : Int)))) H)
    (hd : ∀ σ H, P n σ H → D.nx σ H) : LoopI (Itr 0 n) (gName j) tb D σ H := for_range P h0 (fun i σ H hi p => by
      show tb _ (σ.set j (some (.int (0 + (i : Int))))) H
      rw [Int.zero_add]
      exact hs i σ H hi p) hd
theorem k_loopR2 {lo : Int} {n : Nat} (P : Nat → L2.St → Hp → Prop) (h0 : P 0 σ H) (hs : ∀ (i : Nat) σ H, i < n → P i σ H → tb { D with nx := P (i + 1), ct := P (i + 1), bk := D.nx } (σ.set j (some (.int (lo + (i : Int))))) H)
    (hd : ∀ σ H, P n σ H → D.nx σ H) : LoopI (Itr lo n) (gName j) tb D σ H := for_range P h0 hs hd
theorem k_loopL {a : Addr} {xs : List V} (P : Nat → L2.St → Hp → Prop) (h0 : P 0 σ H) (hl : ∀ i σ H, i ≤ xs.length → P i σ H → SqL K H a xs)
    (hs : ∀ (i : Nat) x σ H, xs[i]? = some x → P i σ H → g x σ H fun σ2 H2 => tb { D with nx := P (i + 1), ct := P (i + 1), bk := D.nx } σ2 H2) (hd : ∀ σ H, P xs.length σ H → D.nx σ H) : LoopI (Itl K a) g tb D σ H := for_list P h0 hl hs hd
theorem k_loopT {a : Addr} {xs : List V} (P : Nat → L2.St → Hp → Prop) (h0 : P 0 σ H) (hl : ∀ i σ H, i ≤ xs.length → P i σ H → SqT K H a xs)
    (hs : ∀ (i : Nat) x σ H, xs[i]? = some x → P i σ H → g x σ H fun σ2 H2 => tb { D with nx := P (i + 1), ct := P (i + 1), bk := D.nx } σ2 H2) (hd : ∀ σ H, P xs.length σ H → D.nx σ H) : LoopI (Itt K a) g tb D σ H := for_tup P h0 hl hs hd
theorem k_loopU {a : Addr} {xs : List V} (hS : SqL K H a xs ∨ SqT K H a xs) (P : Nat → L2.St → Hp → Prop) (h0 : P 0 σ H) (hl : ∀ i σ' H', P i σ' H' → Same H H')
    (hs : ∀ (i : Nat) x σ H, xs[i]? = some x → P i σ H → g x σ H fun σ2 H2 => tb { D with nx := P (i + 1), ct := P (i + 1), bk := D.nx } σ2 H2) (hd : ∀ σ H, P xs.length σ H → D.nx σ H) : rItU K (.ref a) H fun J H1 => LoopI J g tb D σ H1 := by
  rcases hS with hS | hS
  · exact k_itUL hS (k_loopL P h0 (fun i σ' H' _ p => seqL_same (hl i σ' H' p) hS) hs hd)
  · exact k_itUT hS (k_loopT P h0 (fun i σ' H' _ p => seqT_same (hl i σ' H' p) hS) hs hd)
/-- while: P with a number that falls -/
def Less (P : Nat → L2.St → Hp → Prop) (m : Nat) : L2.St → Hp → Prop := fun σ H => ∃ m', m' < m ∧ P m' σ H
theorem k_while {tc : TT} (P : Nat → L2.St → Hp → Prop) (m : Nat) (h0 : P m σ H)
    (hs : ∀ m σ H, P m σ H → tc σ H fun b H1 => if b = true then ∃ N : L2.St → Hp → Prop, (∀ σ' H', N σ' H' → ∃ m', m' < m ∧ P m' σ' H') ∧ tb { D with nx := N, ct := N, bk := D.nx } σ H1 else D.nx σ H1) : tWhile tc tb D σ H := ⟨P, ⟨m, h0⟩, hs⟩
theorem k_wN {P : Nat → L2.St → Hp → Prop} {m : Nat} (q : tb { D with nx := Less P m, ct := Less P m, bk := D.nx } σ H) : ∃ N : L2.St → Hp → Prop, (∀ σ' H', N σ' H' → ∃ m', m' < m ∧ P m' σ' H') ∧ tb { D with nx := N, ct := N, bk := D.nx } σ H := ⟨_, fun _ _ h => h, q⟩
end
/-! more steps -/
section
variable {σ : L2.St} {H : Hp} {Q : VK} {v : V} {te to ti : TE} {K : PySem.W.Frag} {D : Ends} {i : Nat}
theorem k_aug {ip : TIp} (h : σ[i]? = some (some v)) (q : te σ H fun y H1 => ip v y H1 fun z H2 => D.nx (σ.set i (some z)) H2) : tAug i te ip D σ H := ⟨v, h, q⟩
theorem k_ip {f : Int → Int → Int} {a b : Int} (q : Q (.int (f a b)) H) : ipI f (.int a) (.int b) H Q := ⟨a, b, rfl, rfl, q⟩
theorem k_gsub {t : TSet} {Q : L2.St → Hp → Prop} (q : to σ H fun o H1 => ti σ H1 fun i H2 => t o i v H2 fun H3 => Q σ H3) : gSub to ti t v σ H Q := q
theorem k_setL {p : Addr} {xs : List V} {k : Int} {j : Nat} {Q : Hp → Prop} (h : H p = some (.lst xs)) (hj : ixN xs.length k = some j) (q : ∀ H', But p H H' → H' p = some (.lst (xs.set j v)) → Q H') : rSetL (.ref p) (.int k) v H Q := ⟨p, xs, k, j, rfl, rfl, h, hj, q _ But.upd upd_same⟩
theorem ixN_nat {n j : Nat} (h : j < n) : ixN n (j : Int) = some j := by
  unfold ixN
  rw [if_pos (by omega), if_pos (by omega)]
  rfl
theorem k_m1 {r : V → List V → Hp → VK → Prop} (q : to σ H fun x H1 => (∃ a, x = .str a) ∧ te σ H1 fun y H2 => r x [y] H2 Q) : tM1 r to te σ H Q := q
theorem k_m0 {r : V → List V → Hp → VK → Prop} (q : to σ H fun x H1 => (∃ a, x = .str a) ∧ r x [] H1 Q) : tM0 r to σ H Q := q
theorem k_isS {a : Str} {B : Prop} (q : B) : (∃ b, V.str a = .str b) ∧ B := ⟨⟨a, rfl⟩, q⟩
def rJoinU (K : PySem.W.Frag) : V → List V → Hp → VK → Prop := fun x xs H Q => ∃ a p, ∃ ys : List Str, x = .str a ∧ xs = [.ref p] ∧ (SqL K H p (ys.map V.str) ∨ SqT K H p (ys.map V.str)) ∧ (ys.map (·.length)).sum + ys.length * a.length ≤ 16777216 ∧ Q (.str (Txt.join a ys)) H
theorem mt_joinK {X : Cx} (h : X.K = K) : MtR X "str.join" (rJoinU K) := h ▸ mt_join
theorem k_join {a : Str} {p : Addr} {ys : List Str} (h : SqL K H p (ys.map V.str) ∨ SqT K H p (ys.map V.str)) (c : (ys.map (·.length)).sum + ys.length * a.length ≤ 16777216) (q : Q (.str (Txt.join a ys)) H) : rJoinU K (.str a) [.ref p] H Q := ⟨a, p, ys, rfl, rfl, h, c, q⟩
theorem k_ixS {z : Str} {i : Int} {c : Nat} (hz : z.length ≤ sizeLine) (h : atI z.cps.toList i = some c) (q : Q (.str ⟨#[c]⟩) H) : rIx K (.str z) (.int i) H Q := .inr (.inr ⟨z, i, c, rfl, rfl, hz, h, q⟩)
theorem k_sum {a : Addr} {ns : List Int} (h : SqL K H a (ns.map V.int)) (q : Q (.int ns.sum) H) : rSum K [.ref a] H Q := ⟨a, ns, rfl, h, q⟩
end
/-- in, not in: of flat things, of data, of a text in a text -/
def rInU (K : PySem.W.Frag) : R2 := fun x y H Q => rIn K false x y H Q ∨ rInD K x y H Q ∨ (∃ i j, x = .str i ∧ y = .str j ∧ Q (.bl (!(Builtin.Str.occurrences j i 0 j.length 1).isEmpty)) H)
def rNiU (K : PySem.W.Frag) : R2 := fun x y H Q => rIn K true x y H Q ∨ rNotInD K x y H Q ∨ (∃ i j, x = .str i ∧ y = .str j ∧ Q (.bl (!(!(Builtin.Str.occurrences j i 0 j.length 1).isEmpty))) H)
theorem Room.un65 {k : Nat} {A : Around} (r : Room k A) : A.units + 65 < cLine := by have := r.un; omega
theorem op_inUK {X : Cx} {K : PySem.W.Frag} {k : Nat} (h : X.K = K) (hr : Room k X.A) : OpR X (compareOp .In) (rInU K) := h ▸ op_in_seq.or ((op_inD (Room.un65 hr)).or op_in_str)
theorem op_niUK {X : Cx} {K : PySem.W.Frag} {k : Nat} (h : X.K = K) (hr : Room k X.A) : OpR X (compareOp .NotIn) (rNiU K) := h ▸ op_notIn_seq.or ((op_notInD (Room.un65 hr)).or op_notIn_str)
section
variable {H : Hp} {Q : VK} {K : PySem.W.Frag}
theorem k_in {x : V} {p : Addr} {xs : List V} {b : Bool} (h : SqL K H p xs ∨ SqT K H p xs) (hx : flatV x = true) (ha : xs.all flatV = true) (e : inV x xs = b) (q : Q (.bl b) H) : rInU K x (.ref p) H Q := .inl (k_in0 h hx ha e q)
theorem k_ni {x : V} {p : Addr} {xs : List V} {b : Bool} (h : SqL K H p xs ∨ SqT K H p xs) (hx : flatV x = true) (ha : xs.all flatV = true) (e : inV x xs = b) (q : Q (.bl (!b)) H) : rNiU K x (.ref p) H Q := .inl (k_ni0 h hx ha e q)
theorem k_inD {x y : V} {d : PyData} {ds : List PyData} (hx : Dp K H x d) (hy : Dp K H y (.list ds)) (s1 : SeqAt.shaped d = true) (s2 : SeqAt.shaped (.list ds) = true) (q : Q (.bl (ds.any fun z => PyData.eqv z d)) H) : rInU K x y H Q := .inr (.inl ⟨d, ds, hx, hy, s1, s2, q⟩)
theorem k_niD {x y : V} {d : PyData} {ds : List PyData} (hx : Dp K H x d) (hy : Dp K H y (.list ds)) (s1 : SeqAt.shaped d = true) (s2 : SeqAt.shaped (.list ds) = true) (q : Q (.bl (!ds.any fun z => PyData.eqv z d)) H) : rNiU K x y H Q := .inr (.inl ⟨d, ds, hx, hy, s1, s2, q⟩)
theorem k_inS {x y : Str} (q : Q (.bl (!(Builtin.Str.occurrences y x 0 y.length 1).isEmpty)) H) : rInU K (.str x) (.str y) H Q := .inr (.inr ⟨x, y, rfl, rfl, q⟩)
theorem k_niS {x y : Str} (q : Q (.bl (!(!(Builtin.Str.occurrences y x 0 y.length 1).isEmpty))) H) : rNiU K (.str x) (.str y) H Q := .inr (.inr ⟨x, y, rfl, rfl, q⟩)
end
/-- a dict of one pair, its key a text -/
def rDisp1 (p : Addr) (x y : V) (H : Hp) (Q : VK) : Prop := H p = some (.dK []) ∧ ∃ kvs : List (Key × V), [(x, y)] = kvs.map (fun kv => (kV kv.1, kv.2)) ∧ kvs.length ≤ 15 ∧ Q (.ref p) (upd H p (.dK (mergeK [] kvs)))
theorem k_disp1 {σ : L2.St} {H : Hp} {Q : VK} {tk tv : TE} (q : ∀ p H1, H p = none → Same H H1 → H1 p = some (.dK []) → tk σ H1 fun x H2 => tv σ H2 fun y H3 => rDisp1 p x y H3 Q) : tDisp [(tk, tv)] σ H Q := fun p hp => q p _ hp (same_new hp) upd_same
theorem k_disp1x {p : Addr} {z : Str} {y : V} {H : Hp} {Q : VK} (h : H p = some (.dK [])) (q : ∀ H', But p H H' → H' p = some (.dK [(.inr z, y)]) → Q (.ref p) H') : rDisp1 p (.str z) y H Q := ⟨h, [(.inr z, y)], rfl, by simp, q _ But.upd upd_same⟩
theorem k_ev {te : TE} {g : TG} {D : Ends} {σ : L2.St} {H : Hp} (P : V → Hp → Prop) (h : ∀ Q : VK, (∀ v H', P v H' → Q v H') → te σ H Q) (q : ∀ v H', P v H' → g v σ H' D.nx) : tAsg te g D σ H := h _ q
theorem k_evT {tt : TT} {t u : TS} {D : Ends} {σ : L2.St} {H : Hp} (P : Bool → Hp → Prop) (h : ∀ Q : Bool → Hp → Prop, (∀ b H', P b H' → Q b H') → tt σ H Q) (q : ∀ b H', P b H' → if b = true then t D σ H' else u D σ H') : tIfS tt t u D σ H := h _ q
/-! ### list comprehensions -/
section
variable {σ : L2.St} {H : Hp} {Q : VK} {K : PySem.W.Frag} {g : TG} {tt : TT} {te : TE} {vs : List Nat} {wi : TI}
def LcB (D : Addr) (g : TG) (tt : TT) (te : TE) (vs : List Nat) (σ : L2.St) (x : V) (H : Hp) (N : Hp → Prop) : Prop := g x (wipe σ vs) H fun σ2 H2 => wipe σ2 vs = wipe σ vs ∧ tt σ2 H2 fun b H3 =>
  if b = true then te σ2 H3 fun y H4 => ∃ acc, H4 D = some (.lst acc) ∧ acc.length < sizeLine ∧ N (upd H4 D (.lst (acc ++ [y]))) else N H3
def LcX (J : It) (g : TG) (tt : TT) (te : TE) (vs : List Nat) (σ : L2.St) (H : Hp) (Q : VK) : Prop := ∀ D, H D = none → ∃ W : Nat → Nat → Hp → Prop, (∃ m, W 0 m (upd H D (.lst []))) ∧ ∀ i m H, W i m H →
  (J.stop i H ∧ Q (.ref D) H) ∨ (J.go i H ∧ ∃ Nx : Hp → Prop, (∀ H', Nx H' → ∃ m', m' < m ∧ W (i + 1) m' H') ∧ ∀ x H', J.yld i H x H' → LcB D g tt te vs σ x H' Nx)
theorem k_lc (q : wi σ H fun J H1 => LcX J g tt te vs σ H1 Q) : tLc wi g tt te vs σ H Q := q
/-- one turn: the element kept, or not -/
theorem k_lcY {y : V} {D : Addr} {acc : List V} {P : Hp → Prop} (h : H D = some (.lst acc)) (hz : acc.length < sizeLine) (q : ∀ H', But D H H' → H' D = some (.lst (acc ++ [y])) → P H') : ∃ acc, H D = some (.lst acc) ∧ acc.length < sizeLine ∧ P (upd H D (.lst (acc ++ [y]))) :=
  ⟨acc, h, hz, q _ But.upd upd_same⟩
theorem k_lcU {a : Addr} {xs : List V} (hS : SqL K H a xs ∨ SqT K H a xs) (P : Addr → Nat → List V → Hp → Prop) (h0 : ∀ D H', H D = none → Same H H' → H' D = some (.lst []) → P D 0 [] H') (hl : ∀ D i ys H', H D = none → P D i ys H' → Same H H')
    (hs : ∀ D (i : Nat) x ys H', H D = none → xs[i]? = some x → P D i ys H' → H' D = some (.lst ys) → LcB D g tt te vs σ x H' fun H'' => ∃ zs, P D (i + 1) zs H'' ∧ H'' D = some (.lst zs))
    (hd : ∀ D ys H', H D = none → P D xs.length ys H' → H' D = some (.lst ys) → Q (.ref D) H') : rItU K (.ref a) H fun J H1 => LcX J g tt te vs σ H1 Q := by
  rcases hS with hS | hS
  · exact k_itUL hS fun D hD => lc_list (fun i H' => ∃ ys, P D i ys H' ∧ H' D = some (.lst ys)) ⟨[], h0 D _ hD (same_new hD) upd_same, upd_same⟩ (fun i H' _ ⟨ys, p, _⟩ => seqL_same (hl D i ys H' hD p) hS)
      (fun i x H' hx ⟨ys, p, e⟩ => hs D i x ys H' hD hx p e) fun H' ⟨ys, p, e⟩ => hd D ys H' hD p e
  · exact k_itUT hS fun D hD => lc_tup (fun i H' => ∃ ys, P D i ys H' ∧ H' D = some (.lst ys)) ⟨[], h0 D _ hD (same_new hD) upd_same, upd_same⟩ (fun i H' _ ⟨ys, p, _⟩ => seqT_same (hl D i ys H' hD p) hS)
      (fun i x H' hx ⟨ys, p, e⟩ => hs D i x ys H' hD hx p e) fun H' ⟨ys, p, e⟩ => hd D ys H' hD p e
/-- a list walked while other things change -/
theorem k_lcLb {σ : L2.St} {H : Hp} {Q : VK} {K : PySem.W.Frag} {g : TG} {tt : TT} {te : TE} {vs : List Nat} {a : Addr} {xs : List V} {P : Addr → Nat → List V → Hp → Prop} (h0 : ∀ D H', H D = none → Same H H' → H' D = some (.lst []) → P D 0 [] H') (hl : ∀ D i ys H', H D = none → P D i ys H' → SqL K H' a xs)
    (hs : ∀ D (i : Nat) x ys H', H D = none → xs[i]? = some x → P D i ys H' → H' D = some (.lst ys) → LcB D g tt te vs σ x H' fun H'' => ∃ zs, P D (i + 1) zs H'' ∧ H'' D = some (.lst zs))
    (hd : ∀ D ys H', H D = none → P D xs.length ys H' → H' D = some (.lst ys) → Q (.ref D) H') : LcX (Itl K a) g tt te vs σ H Q := fun D hD =>
  lc_list (fun i H' => ∃ ys, P D i ys H' ∧ H' D = some (.lst ys)) ⟨[], h0 D _ hD (same_new hD) upd_same, upd_same⟩ (fun i H' _ ⟨ys, p, _⟩ => hl D i ys H' hD p)
    (fun i x H' hx ⟨ys, p, e⟩ => hs D i x ys H' hD hx p e) fun H' ⟨ys, p, e⟩ => hd D ys H' hD p e
theorem k_lcR {lo : Int} {n : Nat} (P : Addr → Nat → List V → Hp → Prop) (h0 : ∀ D H', H D = none → Same H H' → H' D = some (.lst []) → P D 0 [] H')
    (hs : ∀ D (i : Nat) ys H', H D = none → i < n → P D i ys H' → H' D = some (.lst ys) → LcB D g tt te vs σ (.int (lo + (i : Int))) H' fun H'' => ∃ zs, P D (i + 1) zs H'' ∧ H'' D = some (.lst zs))
    (hd : ∀ D ys H', H D = none → P D n ys H' → H' D = some (.lst ys) → Q (.ref D) H') : LcX (Itr lo n) g tt te vs σ H Q := fun D hD =>
  lc_range (fun i H' => ∃ ys, P D i ys H' ∧ H' D = some (.lst ys)) ⟨[], h0 D _ hD (same_new hD) upd_same, upd_same⟩ (fun i H' hi ⟨ys, p, e⟩ => hs D i ys H' hD hi p e) fun H' ⟨ys, p, e⟩ => hd D ys H' hD p e
/-- a turn begins: the target a name -/
theorem k_lcB {D : Addr} {j : Nat} {x : V} {N : Hp → Prop} (hw : wipe ((wipe σ vs).set j (some x)) vs = wipe σ vs) (q : tt ((wipe σ vs).set j (some x)) H fun b H3 => if b = true then te ((wipe σ vs).set j (some x)) H3 fun y H4 => ∃ acc, H4 D = some (.lst acc) ∧ acc.length < sizeLine ∧ N (upd H4 D (.lst (acc ++ [y]))) else N H3) :
    LcB D (gName j) tt te vs σ x H N := ⟨hw, q⟩
/-- a comprehension's turn, its target a tuple -/
theorem k_lcT {D : Addr} {x : V} {N : Hp → Prop} (q : g x (wipe σ vs) H fun σ2 H2 => wipe σ2 vs = wipe σ vs ∧ tt σ2 H2 fun b H3 =>
    if b = true then te σ2 H3 fun y H4 => ∃ acc, H4 D = some (.lst acc) ∧ acc.length < sizeLine ∧ N (upd H4 D (.lst (acc ++ [y]))) else N H3) : LcB D g tt te vs σ x H N := q
/-- no test -/
theorem k_yes {Q : Bool → Hp → Prop} (q : Q true H) : tYes σ H Q := q
def rRgX (a b : Int) (H : Hp) (Q : VK) : Prop := RgOk a b ∧ ∀ q, H q = none → Q (.ref q) (upd H q (.lst (rgV a b)))
theorem k_listRg {tr : L2.St → Hp → (Int → Int → Hp → Prop) → Prop} (q : tr σ H fun a b H1 => rRgX a b H1 Q) : tLstRg tr σ H Q := q
theorem k_rg1 {ta : TE} {R : Int → Int → Hp → Prop} (q : ta σ H fun x H1 => ∃ n, x = .int n ∧ R 0 n H1) : tRg1 ta σ H R := q
theorem k_rgX {a b : Int} (c : 0 ≤ a ∧ a ≤ 1000000 ∧ 0 ≤ b ∧ b ≤ 1000000) (q : ∀ l H', H l = none → Same H H' → H' l = some (.lst (rgV a b)) → Q (.ref l) H') : rRgX a b H Q := ⟨RgOk.of_le (by omega) (by omega) (by omega) (by omega), fun l hl => q l _ hl (same_new hl) upd_same⟩
end
def rIsBl : R2 := fun x y H Q => ∃ a b, x = .bl a ∧ y = .bl b ∧ Q (.bl (decide (a = b))) H
def rNotBl : R2 := fun x y H Q => ∃ a b, x = .bl a ∧ y = .bl b ∧ Q (.bl (!decide (a = b))) H
theorem op_isBlU {X : Cx} : OpR X (compareOp .Is) rIsBl := op_is_bl
theorem op_notBlU {X : Cx} : OpR X (compareOp .IsNot) rNotBl := op_isnot_bl
theorem k_isBl {a b : Bool} {H : Hp} {Q : VK} (q : Q (.bl (decide (a = b))) H) : rIsBl (.bl a) (.bl b) H Q := ⟨a, b, rfl, rfl, q⟩
theorem k_notBl {a b : Bool} {H : Hp} {Q : VK} (q : Q (.bl (!decide (a = b))) H) : rNotBl (.bl a) (.bl b) H Q := ⟨a, b, rfl, rfl, q⟩
theorem k_glst {K : PySem.W.Frag} {a : Addr} {xs : List V} {n : Nat} {t : TGs} {σ : L2.St} {H : Hp} {Q : L2.St → Hp → Prop} (h : SqL K H a xs) (hl : xs.length = n) (q : t xs σ H Q) : gLst K n t (.ref a) σ H Q := ⟨a, xs, rfl, h, hl, q⟩
theorem k_ext1 {l b : Addr} {xs zs : List V} {H : Hp} {Q : VK} (h : H l = some (.lst xs)) (g : H b = some (.lst zs)) (c : xs.length + zs.length ≤ sizeLine) (q : ∀ H', But l H H' → H' l = some (.lst (xs ++ zs)) → Q .non H') : rExtend (.ref l) [.ref b] H Q := ⟨l, b, xs, zs, rfl, rfl, h, g, c, q _ But.upd upd_same⟩
/-- a tuple and one more -/
theorem k_addT1 {K : PySem.W.Frag} {H : Hp} {Q : VK} {a b : Addr} {xs : List V} {y : V} (ha : SqT K H a xs) (hb : SqT K H b [y]) (c : xs.length + 1 ≤ sizeLine) (q : ∀ p H', Same H H' → SqT K H' p (xs ++ [y]) → Q (.ref p) H') : rAddU K (.ref a) (.ref b) H Q :=
  .inr (.inr (.inr (.inl ⟨a, b, xs, [y], rfl, rfl, ha, hb, c, fun e => by subst e; exact q b H (Same.refl H) hb, fun _ e => (by cases e), fun _ _ p hp => q p _ (same_new hp) (SqT.of upd_same)⟩)))
/-! len(set(t)), t a tuple of ints, none twice -/
def tLenSetT (K : PySem.W.Frag) (ta : TE) : TE := fun σ H Q => ta σ H fun x H1 => ∃ (l : Addr) (ns : List Int), x = .ref l ∧ SqT K H1 l (ns.map V.int) ∧ ns.Nodup ∧ ns.length ≤ 4000 ∧ Q (.int (ns.length : Nat)) H1
theorem ints_vals : ∀ {ns : List Int} {us : List Value}, Vals (ns.map V.int) us → PyProof.Rows.IntsAre us ns
  | [], _, .nil => .nil
  | n :: ns, _, .cons r t => by
    obtain ⟨k, rfl⟩ := r
    exact .cons n k (ints_vals t)
theorem pe_lenSetT {X : Cx} {K : PySem.W.Frag} {a : Expr} {ta : TE} {p p2 q pos : Pos} (hK : X.K = K) (hg : Gl X "len") (hm : X.mg "len" = none) (hg2 : Gl X "set") (hm2 : X.mg "set" = none) (ha : PE X a ta) (hc : X.calm = true := by rfl)
    (na : starEach [a] X.env = (false, eval a X.env) :: starEach [] X.env := by rfl) : PE X (.Call (.Name "len" p) [.Call (.Name "set" p2) [a] [] q] [] pos) (tLenSetT K ta) := by
  subst hK
  refine ⟨fun pins s σ H Q I h => ?_⟩
  refine Call_ (ld_blt I hg hm boot_len ?_)
  refine PyProof.Rows.callWith_builtin1 (PyProof.Rows.args_cons ?_ rfl) rfl rfl
  refine Call_ (ld_blt I hg2 hm2 boot_set ?_)
  refine PyProof.Rows.callWith_type1 (PyProof.Rows.args_cons (thn (ha.run pins s σ H _ I h) fun v s1 ⟨x, H1, I1, r1, q1⟩ => PyProof.Rows.args_nil ?_) na) na rfl
  obtain ⟨l, ns, rfl, hq, hnd, hl, q1⟩ := q1
  cases r1
  obtain ⟨its, r, pt, hz⟩ := I1.tuple hq
  refine call_set_tupI ns (I1.ok.hd hc) pt (by simpa using ints_vals r) (by unfold scanBound; omega) fun h' tk c hS _ hk => ?_
  refine PyProof.Rows.args_nil ?_
  obtain ⟨o, es, ep, t, ho, hex, hd, g, nd, hm3, hb, hf, hn, _⟩ := hS
  have I2 : Inv X pins σ H1 { s1 with heap := h', toks := tk } := I1.kept hk
  have hp : (es.toList.map keyOf).Perm ns := (List.perm_ext_iff_of_nodup nd hnd).mpr fun k => by
    have := hm3 k
    rw [← this]
    simp
  have hlen : es.size = ns.length := by
    have := hp.length_eq
    rw [List.length_map, Array.length_toList] at this
    exact this
  exact call_len_set ho hex hd hf (by rw [hlen]; omega) ⟨.int ns.length, H1, I2.tok _, ⟨_, by rw [hlen]⟩, q1⟩
def rLenSetT (K : PySem.W.Frag) (x : V) (H1 : Hp) (Q : VK) : Prop := ∃ (l : Addr) (ns : List Int), x = .ref l ∧ SqT K H1 l (ns.map V.int) ∧ ns.Nodup ∧ ns.length ≤ 4000 ∧ Q (.int (ns.length : Nat)) H1
theorem k_lenSetT {K : PySem.W.Frag} {ta : TE} {σ : L2.St} {H : Hp} {Q : VK} (q : ta σ H fun x H1 => rLenSetT K x H1 Q) : tLenSetT K ta σ H Q := q
theorem k_lenSetTx {K : PySem.W.Frag} {H : Hp} {Q : VK} {l : Addr} {ns : List Int} (h : SqT K H l (ns.map V.int)) (nd : ns.Nodup) (c : ns.length ≤ 4000) (q : Q (.int (ns.length : Nat)) H) : rLenSetT K (.ref l) H Q := ⟨l, ns, rfl, h, nd, c, q⟩
/-! count of data -/
def rCntL (K : PySem.W.Frag) : V → List V → Hp → VK → Prop := fun x xs H Q => ∃ (p : Addr) (y : V) (d : PyData) (ds : List PyData), x = .ref p ∧ xs = [y] ∧ Dp K H (.ref p) (.list ds) ∧ Dp K H y d ∧ PyData.plainAll ds = true ∧ d.plain = true ∧ PyData.depthAll ds ≤ 32 ∧
  Q (.int ((ds.countP fun z => PyData.eqv z d : Nat) : Int)) H
theorem mt_cntL {X : Cx} {k : Nat} {K : PySem.W.Frag} (h : X.K = K) (hr : Room k X.A) : MtR X "list.count" (rCntL K) := by
  subst h
  intro pins s σ H x xs v us Q I rx rxs h
  obtain ⟨p, y, d, ds, rfl, rfl, hl, hy, pl, pd, dp, q⟩ := h
  cases rx
  cases rxs with
  | cons ry rt =>
    rename_i uy ut
    cases rt
    obtain ⟨bs, r1⟩ := Dp.reads I d y uy hy ry
    cases hl with
    | lst hs ha =>
      obtain ⟨its, rv, pl2, hlen⟩ := I.list hs
      obtain ⟨as, h4⟩ := Dp.readsAll I ds _ its ha rv
      refine PySem.SeqAt.count_list_data pl2.isList (show ReadsAll s.heap its.toArray.toList ds as from h4) r1 pl pd (by have := hr.units; omega) ⟨.int ((ds.countP fun z => PyData.eqv z d : Nat) : Int), H, I.tok _, ⟨_, rfl⟩, q⟩
theorem k_cntL {H : Hp} {Q : VK} {K : PySem.W.Frag} {p : Addr} {y : V} {d : PyData} {ds : List PyData} (hl : Dp K H (.ref p) (.list ds)) (hy : Dp K H y d) (pl : PyData.plainAll ds = true) (pd : d.plain = true) (dp : PyData.depthAll ds ≤ 32)
    (q : Q (.int ((ds.countP fun z => PyData.eqv z d : Nat) : Int)) H) : rCntL K (.ref p) [y] H Q := ⟨p, y, d, ds, rfl, rfl, hl, hy, pl, pd, dp, q⟩
/-- a list, repeated -/
theorem k_mulR {H : Hp} {Q : VK} {K : PySem.W.Frag} {l : Addr} {k : Int} {xs : List V} (h : H l = some (.lst xs)) (c : -(2 ^ 63) ≤ k ∧ k < 2 ^ 63 ∧ xs.length * k.toNat ≤ sizeLine) (q : ∀ p H', H p = none → Same H H' → H' p = some (.lst (List.replicate k.toNat xs).flatten) → Q (.ref p) H') : rMulU K (.ref l) (.int k) H Q :=
  .inr (.inl ⟨l, k, xs, rfl, rfl, h, c.1, c.2.1, c.2.2, fun p hp => q p _ hp (same_new hp) upd_same⟩)
/-! ### walks that lay a new pair at each turn: enumerate, zip -/
structure PairIt (J : It) (n : Nat) (u v : Nat → V) (Ok : Hp → Prop) : Prop where
  go : ∀ i H, Ok H → i < n → J.go i H
  stop : ∀ H, Ok H → J.stop n H
  yld : ∀ i H x H', Ok H → i < n → J.yld i H x H' → ∃ T, x = .ref T ∧ H T = none ∧ H' = upd H T (.tup [u i, v i])
section
variable {σ : L2.St} {H : Hp} {Q : VK} {K : PySem.W.Frag} {g : TG} {tt : TT} {te : TE} {vs : List Nat} {J : It} {n : Nat} {u v : Nat → V} {Ok : Hp → Prop} {D : Ends} {tb : TS} {ta : TA}
theorem k_loopP (pi : PairIt J n u v Ok) (P : Nat → L2.St → Hp → Prop) (h0 : P 0 σ H) (hl : ∀ i σ' H', P i σ' H' → Ok H')
    (hs : ∀ (i : Nat) T σ' H1 H2, i < n → P i σ' H1 → H1 T = none → Same H1 H2 → H2 T = some (.tup [u i, v i]) → g (.ref T) σ' H2 fun σ2 H2 => tb { D with nx := P (i + 1), ct := P (i + 1), bk := D.nx } σ2 H2) (hd : ∀ σ' H', P n σ' H' → D.nx σ' H') : LoopI J g tb D σ H := by
  refine ⟨fun i m σ' H' => m = n - i ∧ i ≤ n ∧ P i σ' H', ⟨n, by simp, Nat.zero_le _, h0⟩, ?_⟩
  rintro i m σ' H' ⟨rfl, hi, p⟩
  have ok := hl i σ' H' p
  by_cases c : i < n
  · refine .inr ⟨pi.go i H' ok c, P (i + 1), fun σ2 H2 q => ⟨n - (i + 1), by omega, rfl, c, q⟩, fun x H2 y => ?_⟩
    obtain ⟨T, rfl, hT, rfl⟩ := pi.yld i H' x H2 ok c y
    exact hs i T σ' H' _ c p hT (same_new hT) upd_same
  · have e : i = n := by omega
    subst e
    exact .inl ⟨pi.stop H' ok, hd σ' H' p⟩
theorem k_lcP (pi : PairIt J n u v Ok) (P : Addr → Nat → List V → Hp → Prop) (h0 : ∀ D H', H D = none → Same H H' → H' D = some (.lst []) → P D 0 [] H') (hl : ∀ D i ys H', H D = none → P D i ys H' → Ok H')
    (hs : ∀ D (i : Nat) T ys H1 H2, H D = none → i < n → P D i ys H1 → H1 T = none → Same H1 H2 → H2 T = some (.tup [u i, v i]) → H2 D = some (.lst ys) → LcB D g tt te vs σ (.ref T) H2 fun H'' => ∃ zs, P D (i + 1) zs H'' ∧ H'' D = some (.lst zs))
    (hd : ∀ D ys H', H D = none → P D n ys H' → H' D = some (.lst ys) → Q (.ref D) H') : LcX J g tt te vs σ H Q := fun D hD => by
  refine ⟨fun i m H' => m = n - i ∧ i ≤ n ∧ ∃ ys, P D i ys H' ∧ H' D = some (.lst ys), ⟨n, by simp, Nat.zero_le _, [], h0 D _ hD (same_new hD) upd_same, upd_same⟩, ?_⟩
  rintro i m H' ⟨rfl, hi, ys, p, e⟩
  have ok := hl D i ys H' hD p
  by_cases c : i < n
  · refine .inr ⟨pi.go i H' ok c, fun H'' => ∃ zs, P D (i + 1) zs H'' ∧ H'' D = some (.lst zs), fun H2 ⟨zs, q, e2⟩ => ⟨n - (i + 1), by omega, rfl, c, zs, q, e2⟩, fun x H2 y => ?_⟩
    obtain ⟨T, rfl, hT, rfl⟩ := pi.yld i H' x H2 ok c y
    exact hs D i T ys H' _ hD c p hT (same_new hT) upd_same (same_new hT _ _ e)
  · have ei : i = n := by omega
    subst ei
    exact .inl ⟨pi.stop H' ok, hd D ys H' hD p e⟩
theorem get_some {xs : List V} {i : Nat} (h : i < xs.length) : xs[i]? = some (xs.getD i .non) := by
  rw [List.getElem?_eq_getElem h]
  simp [h]
theorem enum_it {a : Addr} {xs : List V} : PairIt (Ite K a) xs.length (fun i => .int (i : Nat)) (fun i => xs.getD i .non) (fun H => SqL K H a xs) where
  go := fun i H h c => ⟨xs, _, h, get_some c⟩
  stop := fun H h => ⟨xs, h, Nat.le_refl _⟩
  yld := fun i H x H' h c ⟨T, y, e, hT, eH, hy⟩ => ⟨T, e, hT, by
    have := hy xs h
    rw [get_some c] at this
    rw [eH, Option.some.inj this]⟩
theorem zip_it {a b : Addr} {xs ys : List V} (hl : xs.length = ys.length) : PairIt (Itz K a b) xs.length (fun i => xs.getD i .non) (fun i => ys.getD i .non) (fun H => SqL K H a xs ∧ SqL K H b ys) where
  go := fun i H h c => ⟨xs, ys, _, _, h.1, h.2, get_some c, get_some (by omega)⟩
  stop := fun H h => ⟨xs, ys, h.1, h.2, .inl (Nat.le_refl _)⟩
  yld := fun i H x H' h c ⟨T, y, z, e, hT, eH, hy, hz⟩ => ⟨T, e, hT, by
    have e1 := hy xs h.1
    have e2 := hz ys h.2
    rw [get_some c] at e1
    rw [get_some (by omega)] at e2
    rw [eH, Option.some.inj e1, Option.some.inj e2]⟩
def rEnum (K : PySem.W.Frag) (vs : List V) (H1 : Hp) (R : It → Hp → Prop) : Prop := ∃ a xs, vs = [.ref a] ∧ SqL K H1 a xs ∧ R (Ite K a) H1
theorem k_iEnum {R : It → Hp → Prop} (q : ta σ H fun vs H1 => rEnum K vs H1 R) : iEnum K ta σ H R := q
theorem k_enumx {a : Addr} {xs : List V} {R : It → Hp → Prop} (h : SqL K H a xs) (q : R (Ite K a) H) : rEnum K [.ref a] H R := ⟨a, xs, rfl, h, q⟩
end
/-! the written part by its name, in comprehensions too -/
section
variable {X : Cx} {K : PySem.W.Frag}
theorem callK {f : Value} {r : PySem.W.Frag → List V → Hp → VK → Prop} (h : X.K = K) (c : CallR X f (r X.K)) : CallR X f (r K) := h ▸ c
theorem pe_fldK {e : Expr} {ta : TE} {f : Str} {pos : Pos} (h : X.K = K) (he : PE X e ta) (hb : attributeBase e f X.env (eval e X.env) = eval e X.env) : PE X (.Attribute e f pos) (tFld K ta f) := h ▸ pe_fld he hb
theorem pe_bm0K {T id : String} {name : Str} {o : Expr} {to : TE} {r : V → List V → Hp → VK → Prop} {apos cpos : Pos} (h : X.K = K) (pa : PlainAttrs T) (slot : Slot T name id) (hty : typeOf (.builtin id) = pure (.type "method_descriptor")) (hm : MtR X id r) (ho : PE X o to)
    (hbase : attributeBase o name X.env (eval o X.env) = eval o X.env := by rfl) (hline : (apos.endLine == cpos.line) = true := by rfl) : PE X (.Call (.Attribute o name apos) [] [] cpos) (tBM0 K T r to) := h ▸ pe_bm0 pa slot hty hm ho hbase hline
theorem pe_bmK {T id : String} {name : Str} {o e : Expr} {es : List Expr} {to : TE} {t : TA} {r : V → List V → Hp → VK → Prop} {apos cpos : Pos} (h : X.K = K) (pa : PlainAttrs T) (slot : Slot T name id) (hty : typeOf (.builtin id) = pure (.type "method_descriptor")) (hm : MtR X id r) (ho : PE X o to) (ha : PA X (e :: es) t)
    (hbase : attributeBase o name X.env (eval o X.env) = eval o X.env := by rfl)
    (hfew : ((backTo cpos (starEach (e :: es) X.env)).all (fun x => !x.1) && (backToKw cpos (keywordEach [] X.env)).all (fun x => x.1.isSome)
      && decide ((e :: es).length + ([] : List Keyword).length + (if ([] : List Keyword).isEmpty then 0 else 1) < 30)) = true := by rfl)
    (hline : (apos.endLine == cpos.line) = true := by rfl) (hs : starEach (e :: es) X.env = (false, eval e X.env) :: starEach es X.env := by rfl) (hplain : (backTo cpos (starEach es X.env)).any (·.1) = false := by rfl) :
    PE X (.Call (.Attribute o name apos) (e :: es) [] cpos) (tBM K T r to t) := h ▸ pe_bm pa slot hty hm ho ha hbase hfew hline hs hplain
end
/-! X(e).f, X an exception with a field -/
section
variable {X : Cx} {e : Expr} {t : L2.St → Hp → XK → Prop} {C : Addr} {f : Str} {pos : Pos}
def tMkF (C : Addr) (f : Str) (t : L2.St → Hp → XK → Prop) : TE := fun σ H Q => t σ H fun cls d H1 => ∃ (dd : Addr) (fs : List (Str × V)) (v : V), cls = .ref C ∧ d = some dd ∧ H1 dd = some (.xd fs) ∧ fs.lookup f = some v ∧ Q v H1
theorem pe_mkF (T : XfC X.K C) (hno : PySem.W.findIn X.K (.ref C) f = some none) (he : PMk X e t) (hb : attributeBase e f X.env (eval e X.env) = eval e X.env := by rfl) : PE X (.Attribute e f pos) (tMkF C f t) := by
  refine ⟨fun pins s σ H Q I h => ?_⟩
  refine attr_of hb (thn (he pins s σ H _ I h) fun u s1 hh => ?_)
  obtain ⟨a, oe, vs, sI, H1, cls, d, ex, J, k, hne, ha, hz, hd, h1, na, os, ag, r, dd, fs, v, ec, ed, ea, l, q⟩ := hh
  subst ex
  subst ec
  subst ed
  have J2 := J.kept (h' := s1.heap) (t' := s1.toks) k
  have I1 : Inv X pins σ H1 s1 := ⟨J2.ok, os.trans J2.os, ag, J2.base, J2.loc, J2.cell, J2.free, J2.freeC, J2.pin, J2.hok, J2.len⟩
  have hx : ObjOk X.prog X.w H1 s1.heap dd (.xd fs) := I1.hok dd _ ea
  obtain ⟨mA, hns, hr⟩ := hx
  obtain ⟨od, ho, hl⟩ := lookIn_ns hns
  obtain ⟨u, hu, ru⟩ := RelO.some_of (v := v) (o := mA f) (by rw [← l]; exact hr f)
  have J : PySem.W.InstAt s1.heap a oe C (some od) := ⟨ha, hz.1, by unfold PySem.W.notCls; rw [hd] <;> rfl, by rw [hz.2]; exact ho⟩
  exact HandSPX.exc_get I1.kIn J T.ga T.gg T.exC (PySem.W.findObj_own T.hdC hno rfl (by rw [hl, hu])) (handed_of ru) ⟨v, H1, I1.tok _, ru, q⟩
theorem k_mkF {sp : Sp} {ta : TA} {σ : L2.St} {H : Hp} {Q : VK} (q : ta σ H fun vs H1 => rMkO C sp vs H1 fun cls d H1 => ∃ (dd : Addr) (fs : List (Str × V)) (v : V), cls = .ref C ∧ d = some dd ∧ H1 dd = some (.xd fs) ∧ fs.lookup f = some v ∧ Q v H1) : tMkF C f (tMkO C sp [] ta) σ H Q := q
theorem k_mkFx {v : V} {H1 : Hp} {Q : VK} (k : ∀ H2, Same H1 H2 → Q v H2) : rMkO C (spXI C f) [v] H1 fun cls d H1 => ∃ (dd : Addr) (fs : List (Str × V)) (v : V), cls = .ref C ∧ d = some dd ∧ H1 dd = some (.xd fs) ∧ fs.lookup f = some v ∧ Q v H1 :=
  k_mkx fun d H2 _ s hd => ⟨d, _, v, rfl, rfl, hd, by simp [List.lookup], k H2 s⟩
/-- tuples of ints, < -/
theorem op_ltTK {K : PySem.W.Frag} {k : Nat} (h : X.K = K) (hr : Room k X.A) : OpR X (compareOp .Lt) (rLtT K) := h ▸ op_ltT (by have := hr.units; omega)
theorem k_ltT {K : PySem.W.Frag} {H : Hp} {Q : VK} {a b : Addr} {ns ms : List Int} (ha : SqT K H a (ns.map V.int)) (hb : SqT K H b (ms.map V.int)) (q : Q (.bl (HT.lexLt ns ms)) H) : rLtT K (.ref a) (.ref b) H Q := ⟨a, b, ns, ms, rfl, rfl, ha, hb, q⟩
theorem k_clear {H : Hp} {Q : VK} {l : Addr} {xs : List V} (h : H l = some (.lst xs)) (q : ∀ H', But l H H' → H' l = some (.lst []) → Q .non H') : rClear (.ref l) [] H Q := ⟨l, xs, rfl, rfl, h, q _ But.upd upd_same⟩
end
/-- while, its test by what it gives -/
theorem k_whileT {tc : TT} {tb : TS} {D : Ends} {σ : L2.St} {H : Hp} (P : Nat → L2.St → Hp → Prop) (R : Nat → L2.St → Bool → Hp → Prop) (m : Nat) (h0 : P m σ H) (ht : ∀ m σ H, P m σ H → ∀ Q : Bool → Hp → Prop, (∀ b H', R m σ b H' → Q b H') → tc σ H Q)
    (hb : ∀ m σ H, R m σ true H → tb { D with nx := Less P m, ct := Less P m, bk := D.nx } σ H) (hd : ∀ m σ H, R m σ false H → D.nx σ H) : tWhile tc tb D σ H := k_while P m h0 fun m σ H p => ht m σ H p _ fun b H' r => by
  cases b with
  | true => exact k_ifT (k_wN (hb m σ H' r))
  | false => exact k_ifF (hd m σ H' r)
/-! a tuple and a list walked side by side -/
def Itm (K : PySem.W.Frag) (a b : Addr) : It where
  go i H := ∃ xs ys x y, SqT K H a xs ∧ SqL K H b ys ∧ xs[i]? = some x ∧ ys[i]? = some y
  yld i H v H' := ∃ T x y, v = .ref T ∧ H T = none ∧ H' = upd H T (.tup [x, y]) ∧ (∀ xs, SqT K H a xs → xs[i]? = some x) ∧ ∀ ys, SqL K H b ys → ys[i]? = some y
  stop i H := ∃ xs ys, SqT K H a xs ∧ SqL K H b ys ∧ xs.length = i ∧ ys.length = i
def ZmSt (z TI TO i1 i2 a b : Addr) (i : Nat) (h : Heap) : Prop := IsZip h z TI TO .none ∧ IsTupOf2 h TI (.ref i1) (.ref i2) ∧ (∃ x y, IsTupOf2 h TO x y) ∧ h.IsTupleIter i1 a i ∧ h.IsListIter i2 b i
theorem zm_obj {z TI TO i1 i2 a b : Addr} {i : Nat} {h : Heap} (st : ZmSt z TI TO i1 i2 a b i h) {c : Addr} (hc : c ∈ [z, TI, TO, i1, i2]) : ∃ o, h.get? c = some o ∧ ∀ v, o.data ≠ .cell v := by
  obtain ⟨s1, s2, ⟨_, _, s3⟩, ⟨o4, e4, _, d4⟩, ⟨o5, e5, _, d5⟩⟩ := st
  simp only [List.mem_cons, List.not_mem_nil, or_false] at hc
  rcases hc with rfl | rfl | rfl | rfl | rfl
  · exact ⟨_, s1, fun _ => nofun⟩
  · exact ⟨_, s2, fun _ => nofun⟩
  · exact ⟨_, s3, fun _ => nofun⟩
  · exact ⟨o4, e4, fun _ z => by rw [d4] at z; cases z⟩
  · exact ⟨o5, e5, fun _ z => by rw [d5] at z; cases z⟩
theorem turn_zipM {P : Program} {w : World} {K : PySem.W.Frag} {elts : List Expr} {kk : Nat} {tpos : Pos} {a b z TI TO i1 i2 : Addr} (S : ZipSep2 z TI TO i1 i2 [i1, a] [i2, b]) (ha : a ≠ i1) (hb : b ≠ i2) :
    Turn P w K (.Tuple elts kk tpos) (Itm K a b) [z, TI, TO, i1, i2] z (ZmSt z TI TO i1 i2 a b) where
  mem := by simp
  obj := fun i h st c hc => zm_obj st hc
  keep := fun i h h' st k => ⟨k z (by simp) _ st.1, k TI (by simp) _ st.2.1, (let ⟨x, y, e⟩ := st.2.2.1; ⟨x, y, k TO (by simp) _ e⟩), st.2.2.2.1.at fun o q => k i1 (by simp) o q, st.2.2.2.2.at fun o q => k i2 (by simp) o q⟩
  item := by
    intro X hP hw hK hc i pins s σ H E I hf st hg
    subst hP hw hK
    obtain ⟨xs, ys, x, y, qx, qy, ex, ey⟩ := hg
    obtain ⟨us, ru, pu, _⟩ := I.tuple qx
    obtain ⟨vs, rv, pv, _⟩ := I.list qy
    have hh : X.A.in1.handled = none := I.ok.hd hc
    have lu : i < us.length := by rw [← ru.length]; exact (List.getElem?_eq_some_iff.mp ex).1
    have lv : i < vs.length := by rw [← rv.length]; exact (List.getElem?_eq_some_iff.mp ey).1
    have W := WalksT.zipD2 (prog := X.prog) (w := X.w) (A := X.A) S (Draws.tuple hh i1 a ha us.toArray) (Draws.list hh i2 b hb vs.toArray)
    refine W.item i s _ E (by simp; omega) ⟨st.1, st.2.1, st.2.2.1, ⟨st.2.2.2.1, pu⟩, ⟨st.2.2.2.2, pv.isList⟩⟩ fun T vals h' tk hP hT ht hm hk => ?_
    obtain ⟨u, v, hu, hv, rfl⟩ := hP
    obtain ⟨u', hu', r1⟩ := ru.get ex
    obtain ⟨v', hv', r2⟩ := rv.get ey
    obtain rfl : u' = u := Option.some.inj (hu'.symm.trans (by simpa using hu))
    obtain rfl : v' = v := Option.some.inj (hv'.symm.trans (by simpa using hv))
    refine ⟨.ref T, rfl, W.go elts kk tpos i T { s with heap := h', toks := tk } _ E hm fun h2 st2 hk2 => ?_⟩
    have new : ObjOk X.prog X.w (upd H T (.tup [x, y])) h2 T (.tup [x, y]) := ⟨by show 2 ≤ sizeLine; decide, [u', v'], .cons r1 (.cons r2 .nil), ht.at fun o e => hk2 T o (W.apart i T h' hm) e⟩
    have I1 := I.turnedNew (t' := tk) (ch := [z, TI, TO, i1, i2]) (fun c o n e => hk2 c o (fun q => n (by simp at q ⊢; rcases q with h | h | h | h <;> simp [h])) (hk c o (fun q => n (by simp at q ⊢; rcases q with h | h | h | h <;> simp [h])) e)) hf hT new
    refine ⟨.ref T, _, I1, rfl, ⟨T, x, y, rfl, I.hok.fresh hT, rfl, fun l hl => by rw [I.tuple_inj hl qx]; exact ex, fun l hl => by rw [I.list_inj hl qy]; exact ey⟩, ⟨st2.1, st2.2.1, st2.2.2.1, st2.2.2.2.1.1, st2.2.2.2.2.1⟩, fun c hcm => ?_⟩
    obtain ⟨o, e, _⟩ := zm_obj st hcm
    rw [upd_ne (Nat.ne_of_lt (Nat.lt_of_lt_of_le (Heap.lt_size e) hT))]
    exact (hf c hcm).1
  done := by
    intro X hP hw hK hc i pins s σ H E I hf st hg
    subst hP hw hK
    obtain ⟨xs, ys, qx, qy, ex, ey⟩ := hg
    obtain ⟨us, ru, pu, _⟩ := I.tuple qx
    obtain ⟨vs, rv, pv, _⟩ := I.list qy
    have hh : X.A.in1.handled = none := I.ok.hd hc
    have lu : us.length = i := by rw [← ru.length]; exact ex
    have lv : vs.length = i := by rw [← rv.length]; exact ey
    have W := WalksT.zipD2 (prog := X.prog) (w := X.w) (A := X.A) S (Draws.tuple hh i1 a ha us.toArray) (Draws.list hh i2 b hb vs.toArray)
    rw [show min us.toArray.size vs.toArray.size = i by simp; omega] at W
    exact W.done s _ E ⟨st.1, st.2.1, st.2.2.1, ⟨st.2.2.2.1, pu⟩, ⟨st.2.2.2.2, pv.isList⟩⟩ fun h' tk hk => ⟨rfl, I.turnedL (t' := tk) (ch := [z, TI, TO, i1, i2]) (fun c o n e => hk c o (fun q => n (by simp at q ⊢; rcases q with h | h | h | h <;> simp [h])) e) hf⟩
  self := fun A i s Q E st h => wpAny_pyIter_zip st.1 h
def rZipM (K : PySem.W.Frag) (vs : List V) (H1 : Hp) (R : It → Hp → Prop) : Prop := ∃ a b xs ys, vs = [.ref a, .ref b] ∧ SqT K H1 a xs ∧ SqL K H1 b ys ∧ R (Itm K a b) H1
def iZipM (K : PySem.W.Frag) (ta : TA) : TI := fun σ H R => ta σ H fun vs H1 => rZipM K vs H1 R
theorem pi_zipM {X : Cx} {K : PySem.W.Frag} {e e2 : Expr} {ta : TA} {p pos tpos : Pos} {elts : List Expr} {kk : Nat} (h : X.K = K) (hg : Gl X "zip") (hm : X.mg "zip" = none) (ha : PA X [e, e2] ta)
    (hs : starEach [e, e2] X.env = (false, eval e X.env) :: starEach [e2] X.env := by rfl) (hpl : (backTo pos (starEach [e2] X.env)).any (·.1) = false := by rfl) :
    PI X (.Tuple elts kk tpos) (.Call (.Name "zip" p) [e, e2] [] pos) (iZipM K ta) := by
  subst h
  refine ⟨fun pins s σ H R I h => Call_ (ld_blt I hg hm PyProof.Rows.boot_zip (PyProof.Rows.callWith_type1 (thn (ha.run pos pins s σ H _ I h) fun us s1 z => ?_) hs hpl))⟩
  obtain ⟨vs, H1, I1, r1, a, b, xs, ys, rfl, qx, qy, q⟩ := z
  cases r1 with
  | cons ra rr =>
    obtain ⟨ub, rfl, rb⟩ := vals1 rr
    cases ra
    cases rb
    obtain ⟨us, ru, pu, _⟩ := I1.tuple qx
    obtain ⟨vs, rv, pv, _⟩ := I1.list qy
    have la : a < s1.heap.objs.size := by obtain ⟨_, e, _⟩ := id pu; exact Heap.lt_size e
    refine zip_begins2 (begins_tuple a us.toArray) (begins_list b vs.toArray) pu pv.isList fun h' hz hTI hTO g1 g2 hsz hk => wpAny_pyIter_zip hz ?_
    have S := zip_sep2 (N := s1.heap.objs.size) (fp1 := [a]) (fp2 := [b]) (fun c hc => by rw [List.mem_singleton.mp hc]; exact la) (fun c hc => by rw [List.mem_singleton.mp hc]; exact pv.lt)
    refine ⟨_, _, _, _, H1, rfl, I1.kept (t' := s1.toks) hk, turn_zipM S (Nat.ne_of_lt la) (Nat.ne_of_lt (Nat.lt_succ_of_lt pv.lt)), ⟨hz, hTI, ⟨_, _, hTO⟩, ⟨_, g1, rfl, rfl⟩, ⟨_, g2, rfl, rfl⟩⟩, fun c hc => ?_, q⟩
    have hle : s1.heap.objs.size ≤ c := by
      simp only [List.mem_cons, List.not_mem_nil, or_false] at hc
      rcases hc with rfl | rfl | rfl | rfl | rfl
      · exact Nat.le_add_right _ 4
      · exact Nat.le_add_right _ 2
      · exact Nat.le_add_right _ 3
      · exact Nat.le_refl _
      · exact Nat.le_add_right _ 1
    exact I1.fpOk hle (I1.hok.fresh hle)
theorem k_iZipM {K : PySem.W.Frag} {ta : TA} {σ : L2.St} {H : Hp} {R : It → Hp → Prop} (q : ta σ H fun vs H1 => rZipM K vs H1 R) : iZipM K ta σ H R := q
theorem k_zipMx {K : PySem.W.Frag} {H : Hp} {R : It → Hp → Prop} {a b : Addr} {xs ys : List V} (hx : SqT K H a xs) (hy : SqL K H b ys) (q : R (Itm K a b) H) : rZipM K [.ref a, .ref b] H R := ⟨a, b, xs, ys, rfl, hx, hy, q⟩
theorem zipM_it {K : PySem.W.Frag} {a b : Addr} {xs ys : List V} (hl : xs.length = ys.length) : PairIt (Itm K a b) xs.length (fun i => xs.getD i .non) (fun i => ys.getD i .non) (fun H => SqT K H a xs ∧ SqL K H b ys) where
  go := fun i H h c => ⟨xs, ys, _, _, h.1, h.2, get_some c, get_some (by omega)⟩
  stop := fun H h => ⟨xs, ys, h.1, h.2, rfl, hl.symm⟩
  yld := fun i H x H' h c ⟨T, y, z, e, hT, eH, hy, hz⟩ => ⟨T, e, hT, by
    have e1 := hy xs h.1
    have e2 := hz ys h.2
    rw [get_some c] at e1
    rw [get_some (by omega)] at e2
    rw [eH, Option.some.inj e1, Option.some.inj e2]⟩
/-! a list and a tuple walked side by side -/
def Itn (K : PySem.W.Frag) (a b : Addr) : It where
  go i H := ∃ xs ys x y, SqL K H a xs ∧ SqT K H b ys ∧ xs[i]? = some x ∧ ys[i]? = some y
  yld i H v H' := ∃ T x y, v = .ref T ∧ H T = none ∧ H' = upd H T (.tup [x, y]) ∧ (∀ xs, SqL K H a xs → xs[i]? = some x) ∧ ∀ ys, SqT K H b ys → ys[i]? = some y
  stop i H := ∃ xs ys, SqL K H a xs ∧ SqT K H b ys ∧ xs.length = i ∧ ys.length = i
def ZnSt (z TI TO i1 i2 a b : Addr) (i : Nat) (h : Heap) : Prop := IsZip h z TI TO .none ∧ IsTupOf2 h TI (.ref i1) (.ref i2) ∧ (∃ x y, IsTupOf2 h TO x y) ∧ h.IsListIter i1 a i ∧ h.IsTupleIter i2 b i
theorem zn_obj {z TI TO i1 i2 a b : Addr} {i : Nat} {h : Heap} (st : ZnSt z TI TO i1 i2 a b i h) {c : Addr} (hc : c ∈ [z, TI, TO, i1, i2]) : ∃ o, h.get? c = some o ∧ ∀ v, o.data ≠ .cell v := by
  obtain ⟨s1, s2, ⟨_, _, s3⟩, ⟨o4, e4, _, d4⟩, ⟨o5, e5, _, d5⟩⟩ := st
  simp only [List.mem_cons, List.not_mem_nil, or_false] at hc
  rcases hc with rfl | rfl | rfl | rfl | rfl
  · exact ⟨_, s1, fun _ => nofun⟩
  · exact ⟨_, s2, fun _ => nofun⟩
  · exact ⟨_, s3, fun _ => nofun⟩
  · exact ⟨o4, e4, fun _ z => by rw [d4] at z; cases z⟩
  · exact ⟨o5, e5, fun _ z => by rw [d5] at z; cases z⟩
theorem turn_zipN {P : Program} {w : World} {K : PySem.W.Frag} {elts : List Expr} {kk : Nat} {tpos : Pos} {a b z TI TO i1 i2 : Addr} (S : ZipSep2 z TI TO i1 i2 [i1, a] [i2, b]) (ha : a ≠ i1) (hb : b ≠ i2) :
    Turn P w K (.Tuple elts kk tpos) (Itn K a b) [z, TI, TO, i1, i2] z (ZnSt z TI TO i1 i2 a b) where
  mem := by simp
  obj := fun i h st c hc => zn_obj st hc
  keep := fun i h h' st k => ⟨k z (by simp) _ st.1, k TI (by simp) _ st.2.1, (let ⟨x, y, e⟩ := st.2.2.1; ⟨x, y, k TO (by simp) _ e⟩), st.2.2.2.1.at fun o q => k i1 (by simp) o q, st.2.2.2.2.at fun o q => k i2 (by simp) o q⟩
  item := by
    intro X hP hw hK hc i pins s σ H E I hf st hg
    subst hP hw hK
    obtain ⟨xs, ys, x, y, qx, qy, ex, ey⟩ := hg
    obtain ⟨us, ru, pu, _⟩ := I.list qx
    obtain ⟨vs, rv, pv, _⟩ := I.tuple qy
    have hh : X.A.in1.handled = none := I.ok.hd hc
    have lu : i < us.length := by rw [← ru.length]; exact (List.getElem?_eq_some_iff.mp ex).1
    have lv : i < vs.length := by rw [← rv.length]; exact (List.getElem?_eq_some_iff.mp ey).1
    have W := WalksT.zipD2 (prog := X.prog) (w := X.w) (A := X.A) S (Draws.list hh i1 a ha us.toArray) (Draws.tuple hh i2 b hb vs.toArray)
    refine W.item i s _ E (by simp; omega) ⟨st.1, st.2.1, st.2.2.1, ⟨st.2.2.2.1, pu.isList⟩, ⟨st.2.2.2.2, pv⟩⟩ fun T vals h' tk hP hT ht hm hk => ?_
    obtain ⟨u, v, hu, hv, rfl⟩ := hP
    obtain ⟨u', hu', r1⟩ := ru.get ex
    obtain ⟨v', hv', r2⟩ := rv.get ey
    obtain rfl : u' = u := Option.some.inj (hu'.symm.trans (by simpa using hu))
    obtain rfl : v' = v := Option.some.inj (hv'.symm.trans (by simpa using hv))
    refine ⟨.ref T, rfl, W.go elts kk tpos i T { s with heap := h', toks := tk } _ E hm fun h2 st2 hk2 => ?_⟩
    have new : ObjOk X.prog X.w (upd H T (.tup [x, y])) h2 T (.tup [x, y]) := ⟨by show 2 ≤ sizeLine; decide, [u', v'], .cons r1 (.cons r2 .nil), ht.at fun o e => hk2 T o (W.apart i T h' hm) e⟩
    have I1 := I.turnedNew (t' := tk) (ch := [z, TI, TO, i1, i2]) (fun c o n e => hk2 c o (fun q => n (by simp at q ⊢; rcases q with h | h | h | h <;> simp [h])) (hk c o (fun q => n (by simp at q ⊢; rcases q with h | h | h | h <;> simp [h])) e)) hf hT new
    refine ⟨.ref T, _, I1, rfl, ⟨T, x, y, rfl, I.hok.fresh hT, rfl, fun l hl => by rw [I.list_inj hl qx]; exact ex, fun l hl => by rw [I.tuple_inj hl qy]; exact ey⟩, ⟨st2.1, st2.2.1, st2.2.2.1, st2.2.2.2.1.1, st2.2.2.2.2.1⟩, fun c hcm => ?_⟩
    obtain ⟨o, e, _⟩ := zn_obj st hcm
    rw [upd_ne (Nat.ne_of_lt (Nat.lt_of_lt_of_le (Heap.lt_size e) hT))]
    exact (hf c hcm).1
  done := by
    intro X hP hw hK hc i pins s σ H E I hf st hg
    subst hP hw hK
    obtain ⟨xs, ys, qx, qy, ex, ey⟩ := hg
    obtain ⟨us, ru, pu, _⟩ := I.list qx
    obtain ⟨vs, rv, pv, _⟩ := I.tuple qy
    have hh : X.A.in1.handled = none := I.ok.hd hc
    have lu : us.length = i := by rw [← ru.length]; exact ex
    have lv : vs.length = i := by rw [← rv.length]; exact ey
    have W := WalksT.zipD2 (prog := X.prog) (w := X.w) (A := X.A) S (Draws.list hh i1 a ha us.toArray) (Draws.tuple hh i2 b hb vs.toArray)
    rw [show min us.toArray.size vs.toArray.size = i by simp; omega] at W
    exact W.done s _ E ⟨st.1, st.2.1, st.2.2.1, ⟨st.2.2.2.1, pu.isList⟩, ⟨st.2.2.2.2, pv⟩⟩ fun h' tk hk => ⟨rfl, I.turnedL (t' := tk) (ch := [z, TI, TO, i1, i2]) (fun c o n e => hk c o (fun q => n (by simp at q ⊢; rcases q with h | h | h | h <;> simp [h])) e) hf⟩
  self := fun A i s Q E st h => wpAny_pyIter_zip st.1 h
def rZipN (K : PySem.W.Frag) (vs : List V) (H1 : Hp) (R : It → Hp → Prop) : Prop := ∃ a b xs ys, vs = [.ref a, .ref b] ∧ SqL K H1 a xs ∧ SqT K H1 b ys ∧ R (Itn K a b) H1
def iZipN (K : PySem.W.Frag) (ta : TA) : TI := fun σ H R => ta σ H fun vs H1 => rZipN K vs H1 R
theorem pi_zipN {X : Cx} {K : PySem.W.Frag} {e e2 : Expr} {ta : TA} {p pos tpos : Pos} {elts : List Expr} {kk : Nat} (h : X.K = K) (hg : Gl X "zip") (hm : X.mg "zip" = none) (ha : PA X [e, e2] ta)
    (hs : starEach [e, e2] X.env = (false, eval e X.env) :: starEach [e2] X.env := by rfl) (hpl : (backTo pos (starEach [e2] X.env)).any (·.1) = false := by rfl) :
    PI X (.Tuple elts kk tpos) (.Call (.Name "zip" p) [e, e2] [] pos) (iZipN K ta) := by
  subst h
  refine ⟨fun pins s σ H R I h => Call_ (ld_blt I hg hm PyProof.Rows.boot_zip (PyProof.Rows.callWith_type1 (thn (ha.run pos pins s σ H _ I h) fun us s1 z => ?_) hs hpl))⟩
  obtain ⟨vs, H1, I1, r1, a, b, xs, ys, rfl, qx, qy, q⟩ := z
  cases r1 with
  | cons ra rr =>
    obtain ⟨ub, rfl, rb⟩ := vals1 rr
    cases ra
    cases rb
    obtain ⟨us, ru, pu, _⟩ := I1.list qx
    obtain ⟨vs, rv, pv, _⟩ := I1.tuple qy
    have lb : b < s1.heap.objs.size := by obtain ⟨_, e, _⟩ := id pv; exact Heap.lt_size e
    refine zip_begins2 (begins_list a us.toArray) (begins_tuple b vs.toArray) pu.isList pv fun h' hz hTI hTO g1 g2 hsz hk => wpAny_pyIter_zip hz ?_
    have S := zip_sep2 (N := s1.heap.objs.size) (fp1 := [a]) (fp2 := [b]) (fun c hc => by rw [List.mem_singleton.mp hc]; exact pu.lt) (fun c hc => by rw [List.mem_singleton.mp hc]; exact lb)
    refine ⟨_, _, _, _, H1, rfl, I1.kept (t' := s1.toks) hk, turn_zipN S (Nat.ne_of_lt pu.lt) (Nat.ne_of_lt (Nat.lt_succ_of_lt lb)), ⟨hz, hTI, ⟨_, _, hTO⟩, ⟨_, g1, rfl, rfl⟩, ⟨_, g2, rfl, rfl⟩⟩, fun c hc => ?_, q⟩
    have hle : s1.heap.objs.size ≤ c := by
      simp only [List.mem_cons, List.not_mem_nil, or_false] at hc
      rcases hc with rfl | rfl | rfl | rfl | rfl
      · exact Nat.le_add_right _ 4
      · exact Nat.le_add_right _ 2
      · exact Nat.le_add_right _ 3
      · exact Nat.le_refl _
      · exact Nat.le_add_right _ 1
    exact I1.fpOk hle (I1.hok.fresh hle)
theorem k_iZipN {K : PySem.W.Frag} {ta : TA} {σ : L2.St} {H : Hp} {R : It → Hp → Prop} (q : ta σ H fun vs H1 => rZipN K vs H1 R) : iZipN K ta σ H R := q
theorem k_zipNx {K : PySem.W.Frag} {H : Hp} {R : It → Hp → Prop} {a b : Addr} {xs ys : List V} (hx : SqL K H a xs) (hy : SqT K H b ys) (q : R (Itn K a b) H) : rZipN K [.ref a, .ref b] H R := ⟨a, b, xs, ys, rfl, hx, hy, q⟩
theorem zipN_it {K : PySem.W.Frag} {a b : Addr} {xs ys : List V} (hl : xs.length = ys.length) : PairIt (Itn K a b) xs.length (fun i => xs.getD i .non) (fun i => ys.getD i .non) (fun H => SqL K H a xs ∧ SqT K H b ys) where
  go := fun i H h c => ⟨xs, ys, _, _, h.1, h.2, get_some c, get_some (by omega)⟩
  stop := fun H h => ⟨xs, ys, h.1, h.2, rfl, hl.symm⟩
  yld := fun i H x H' h c ⟨T, y, z, e, hT, eH, hy, hz⟩ => ⟨T, e, hT, by
    have e1 := hy xs h.1
    have e2 := hz ys h.2
    rw [get_some c] at e1
    rw [get_some (by omega)] at e2
    rw [eH, Option.some.inj e1, Option.some.inj e2]⟩
/-! a tuple made of a list, known to be bare; its count -/
def SqF (H : Hp) (a : Addr) (xs : List V) : Prop := ∃ o, H a = some (.frz o (.tup xs)) ∧ o.dict = none
theorem SqF.sq {K : PySem.W.Frag} {H : Hp} {a : Addr} {xs : List V} (h : SqF H a xs) : SqT K H a xs := let ⟨o, e, _⟩ := h; .inl (.inr ⟨o, e⟩)
theorem SqF.same {H H' : Hp} (e : Same H H') {a : Addr} {xs : List V} (h : SqF H a xs) : SqF H' a xs := let ⟨o, g, d⟩ := h; ⟨o, e _ _ g, d⟩
theorem SqF.but {H H' : Hp} {l : Addr} {ys : List V} (e : But l H H') (hl : H l = some (.lst ys)) {a : Addr} {xs : List V} (h : SqF H a xs) : SqF H' a xs := let ⟨o, g, d⟩ := h; ⟨o, e _ _ (ne_of g hl (by intro z; cases z)) g, d⟩
def rTupF (K : PySem.W.Frag) : List V → Hp → VK → Prop := fun xs H Q => ∃ p ys, xs = [.ref p] ∧ SqL K H p ys ∧ ∀ l o, H l = none → o.dict = none → Q (.ref l) (upd H l (.frz o (.tup ys)))
theorem call_tupF {X : Cx} : CallR X (.type "tuple") (rTupF X.K) := by
  rintro pins s σ H xs us Q I r ⟨p, ys, rfl, hq, q⟩
  obtain ⟨u, rfl, rx⟩ := vals1 r
  cases rx
  obtain ⟨its, ri, pl, hz⟩ := I.list hq
  have hlen := ri.length
  refine call_tuple_list pl.isList (fun h' kp => ?_) (by simp only [List.size_toArray]; omega)
  have I1 := I.kept (t' := s.toks) kp
  have e := Heap.get?_push_size h' (o := { cls := .type "tuple", data := .seq its.toArray }) rfl
  exact ⟨.ref h'.objs.size, _, I1.laid (t' := s.toks) (fun b o e => Heap.get?_push_of_some _ e) (Nat.le_refl _) (show ObjOk X.prog X.w _ _ _ (.frz _ (.tup ys)) from ⟨e, hz, its, ri, IsTup.new _ _⟩), rfl, q _ _ (I1.hok.fresh (Nat.le_refl _)) rfl⟩
def rTupV (K : PySem.W.Frag) : List V → Hp → VK → Prop := fun xs H Q => rTupU K xs H Q ∨ rTupF K xs H Q
theorem call_tupV {X : Cx} : CallR X (.type "tuple") (rTupV X.K) := fun pins s σ H xs us Q I r h => h.elim (call_tupU pins s σ H xs us Q I r) (call_tupF pins s σ H xs us Q I r)
theorem k_tupF {K : PySem.W.Frag} {H : Hp} {Q : VK} {p : Addr} {xs : List V} (h : SqL K H p xs) (q : ∀ l H', H l = none → Same H H' → SqF H' l xs → Q (.ref l) H') : rTupV K [.ref p] H Q := .inr ⟨p, xs, rfl, h, fun l o hl d => q l _ hl (same_new hl) ⟨o, upd_same, d⟩⟩
theorem k_tupL {K : PySem.W.Frag} {H : Hp} {Q : VK} {p : Addr} {xs : List V} (h : SqL K H p xs) (q : ∀ l H', H l = none → Same H H' → H' l = some (.tup xs) → Q (.ref l) H') : rTupV K [.ref p] H Q := .inl ⟨p, xs, rfl, .inl ⟨h, fun l hl => q l _ hl (same_new hl) upd_same⟩⟩
theorem k_tupT {K : PySem.W.Frag} {H : Hp} {Q : VK} {p : Addr} {xs : List V} (h : SqT K H p xs) (q : Q (.ref p) H) : rTupV K [.ref p] H Q := .inl ⟨p, xs, rfl, .inr ⟨h, q⟩⟩
def rCntT (K : PySem.W.Frag) (x y : V) (H : Hp) (Q : VK) : Prop := ∃ p xs d ds, x = .ref p ∧ SqT K H p xs ∧ DpAll K H xs ds ∧ Dp K H y d ∧ PyData.plainAll ds = true ∧ d.plain = true ∧ PyData.depthAll ds ≤ 32 ∧ Q (.int ((ds.countP fun z => PyData.eqv z d : Nat) : Int)) H
def rBare (x : V) (H : Hp) (P : Prop) : Prop := (∃ p xs, x = .ref p ∧ SqF H p xs) ∧ P
def tCntT (K : PySem.W.Frag) (to te : TE) : TE := fun σ H Q => to σ H fun x H1 => rBare x H1 (te σ H1 fun y H2 => rCntT K x y H2 Q)
theorem pe_cntT {X : Cx} {K : PySem.W.Frag} {k : Nat} {o e : Expr} {to te : TE} {apos cpos : Pos} (h : X.K = K) (hr : Room k X.A) (ho : PE X o to) (he : PE X e te)
    (hb : attributeBase o "count" X.env (eval o X.env) = eval o X.env := by rfl)
    (hw : ((backTo cpos (starEach [e] X.env)).all (fun x => !x.1) && (backToKw cpos (keywordEach [] X.env)).all (fun x => x.1.isSome) && decide ([e].length + ([] : List Keyword).length + (if ([] : List Keyword).isEmpty then 0 else 1) < 30)) = true := by rfl)
    (hn : (apos.endLine == cpos.line) = true := by rfl) (hs : starEach [e] X.env = (false, eval e X.env) :: starEach [] X.env := by rfl) :
    PE X (.Call (.Attribute o "count" apos) [e] [] cpos) (tCntT K to te) := by
  subst h
  refine ⟨fun pins s σ H Q I h => wpAny_Call_method_late hb hw hn rfl (thn (ho.run pins s σ H _ I h) fun v s1 z => ?_)⟩
  obtain ⟨x, H1, I1, r1, ⟨p, xs, rfl, ob, ep, dn⟩, q⟩ := z
  cases r1
  obtain ⟨hp, _, its, _, o2, e2, c2, _⟩ := I1.hok p _ ep
  obtain rfl : ob = o2 := Option.some.inj (hp.symm.trans e2)
  refine ⟨"tuple", "tuple.count", PySem.F.plainAttrs_tuple, PySem.F.slot_tuple_count, PySem.F.type_tuple_count, ⟨_, hp, c2⟩, fun a ea => ?_, ?_⟩
  · cases ea
    exact ⟨_, hp, dn⟩
  rw [hs]
  refine Calls.callWith_builtin rfl (Calls.evalArgs_plain (Calls.spliced_cons (thn (he.run pins s1 σ H1 _ I1 q) fun u s2 z => Calls.spliced_nil ?_)))
  obtain ⟨y, H2, I2, r2, p2, ys, d, ds, ex, hq, da, dy, pl, pd, dp, q2⟩ := z
  cases ex
  obtain ⟨vs, rv, pt, _⟩ := I2.tuple hq
  obtain ⟨as, h4⟩ := Dp.readsAll I2 ds _ vs da rv
  obtain ⟨bs, h5⟩ := Dp.reads I2 d y u dy r2
  exact PySem.SeqAt.count_tuple_data pt (show ReadsAll s2.heap vs.toArray.toList ds as from h4) h5 pl pd (by have := hr.units; omega) ⟨.int ((ds.countP fun z => PyData.eqv z d : Nat) : Int), H2, I2.tok _, ⟨_, rfl⟩, q2⟩
theorem k_cntT {K : PySem.W.Frag} {to te : TE} {σ : L2.St} {H : Hp} {Q : VK} (q : to σ H fun x H1 => rBare x H1 (te σ H1 fun y H2 => rCntT K x y H2 Q)) : tCntT K to te σ H Q := q
theorem k_bare {p : Addr} {xs : List V} {H : Hp} {P : Prop} (h : SqF H p xs) (q : P) : rBare (.ref p) H P := ⟨⟨p, xs, rfl, h⟩, q⟩
theorem k_cntTx {K : PySem.W.Frag} {H : Hp} {Q : VK} {p : Addr} {xs : List V} {y : V} {d : PyData} {ds : List PyData} (hq : SqT K H p xs) (da : DpAll K H xs ds) (dy : Dp K H y d) (pl : PyData.plainAll ds = true) (pd : d.plain = true) (dp : PyData.depthAll ds ≤ 32)
    (q : Q (.int ((ds.countP fun z => PyData.eqv z d : Nat) : Int)) H) : rCntT K (.ref p) y H Q := ⟨p, xs, d, ds, rfl, hq, da, dy, pl, pd, dp, q⟩
/-! sorted, insert -/
def rSortU (K : PySem.W.Frag) : List V → Hp → VK → Prop := rSorted K
theorem k_sorted {K : PySem.W.Frag} {H : Hp} {Q : VK} {a : Addr} {ns : List Int} (h : SqL K H a (ns.map V.int)) (c : ns.length < 64) (q : ∀ (ms : List Int) p H', H p = none → Same H H' → ms.Perm ns → ms.Pairwise (· ≤ ·) → H' p = some (.lst (ms.map V.int)) → Q (.ref p) H') : rSorted K [.ref a] H Q :=
  ⟨a, ns, rfl, h, c, fun ms p pm pw hp => q ms p _ hp (same_new hp) pm pw upd_same⟩
def rIns : V → List V → Hp → VK → Prop := fun x vs H Q => ∃ (l : Addr) (xs : List V) (i : Int) (y : V), x = .ref l ∧ vs = [.int i, y] ∧ H l = some (.lst xs) ∧ xs.length < sizeLine ∧ 0 ≤ i ∧ i < 2 ^ 63 ∧ Q .non (upd H l (.lst (xs.take i.toNat ++ [y] ++ xs.drop i.toNat)))
theorem mt_insU {X : Cx} : MtR X "list.insert" rIns := mt_insert
theorem k_ins {l : Addr} {xs : List V} {i : Int} {y : V} {H : Hp} {Q : VK} (h : H l = some (.lst xs)) (c : xs.length < sizeLine) (i0 : 0 ≤ i) (i1 : i < 2 ^ 63) (q : ∀ H', But l H H' → H' l = some (.lst (xs.take i.toNat ++ [y] ++ xs.drop i.toNat)) → Q .non H') : rIns (.ref l) [.int i, y] H Q := ⟨l, xs, i, y, rfl, rfl, h, c, i0, i1, q _ But.upd upd_same⟩
theorem pmkOK {X : Cx} {K : PySem.W.Frag} {e : Expr} {es : List Expr} {ta : TA} {p pos : Pos} {x : Str} {ps : List Str} {sp : Sp} {j k : Nat} (hK : X.K = K) (c : XCl X.prog X.w K X.mg X.base k x ps sp) (hr : Room j X.A) (hk : k + 1 ≤ j) (ha : PA X (e :: es) ta) (hg : Gl X x := by rfl)
    (hdb : (x == ("__debug__" : Str)) = false := by decide) (hs : starEach (e :: es) X.env = (false, eval e X.env) :: starEach es X.env := by rfl) (hpl : (backTo pos (starEach es X.env)).any (·.1) = false := by rfl) :
    PMk X (.Call (.Name x p) (e :: es) [] pos) (tMkO (He.ga K x) sp [] ta) := by
  subst hK
  exact pmkO c hr hk ha hg hdb hs hpl
/-! the head's hook: what the names reach, the interpreter's statics (a class's own attributes are read by them), and a word more -/
def reachS (g : Addr → Option Obj) (n : Nat) : List Addr := He.asD g n ++ [PySem.cStatics]
def obsS (n : Nat) (fa : List He.Fa) (fn : List He.DefD) (ex : PySem.W.Frag → Bool) (g : Addr → Option Obj) : He.AlD × Bool := (He.obsD fa fn (He.frT g (reachS g n)), ex (He.frT g (reachS g n)))
def hookS (n : Nat) (fa : List He.Fa) (fn : List He.DefD) (ex : PySem.W.Frag → Bool) : PySem.W.Hook where
  α := He.AlD × Bool
  obs s := obsS n fa fn ex s.heap.get?
  val _ := (He.valD fn, true)
  says _ h := ∃ K : PySem.W.Frag, K.In h ∧ He.SaysD fa fn K ∧ ex K = true
  of _ _ e := ⟨_, He.frT_in, congrArg (fun z : He.AlD × Bool => z.1) e, congrArg (fun z : He.AlD × Bool => z.2) e⟩
  keeps := fun _ _ _ ⟨K, hK, c⟩ k => ⟨K, PySem.W.Frag.In.keeps hK k, c⟩
theorem obsS_eq {n : Nat} {fa : List He.Fa} {fn : List He.DefD} {ex : PySem.W.Frag → Bool} {g : Addr → Option Obj} {s : Shared} (h : ∀ a, g a = s.heap.get? a) : obsS n fa fn ex g = (hookS n fa fn ex).obs s := by
  obtain rfl : g = s.heap.get? := funext h
  rfl
/-- the same, its addresses given -/
def obsA (as : List Addr) (fa : List He.Fa) (fn : List He.DefD) (ex : PySem.W.Frag → Bool) (g : Addr → Option Obj) : He.AlD × Bool := (He.obsD fa fn (He.frT g as), ex (He.frT g as))
def hookA (as : List Addr) (fa : List He.Fa) (fn : List He.DefD) (ex : PySem.W.Frag → Bool) : PySem.W.Hook where
  α := He.AlD × Bool
  obs s := obsA as fa fn ex s.heap.get?
  val _ := (He.valD fn, true)
  says _ h := ∃ K : PySem.W.Frag, K.In h ∧ He.SaysD fa fn K ∧ ex K = true
  of _ _ e := ⟨_, He.frT_in, congrArg (fun z : He.AlD × Bool => z.1) e, congrArg (fun z : He.AlD × Bool => z.2) e⟩
  keeps := fun _ _ _ ⟨K, hK, c⟩ k => ⟨K, PySem.W.Frag.In.keeps hK k, c⟩
theorem obsA_eq {as : List Addr} {fa : List He.Fa} {fn : List He.DefD} {ex : PySem.W.Frag → Bool} {g : Addr → Option Obj} {s : Shared} (h : ∀ a, g a = s.heap.get? a) : obsA as fa fn ex g = (hookA as fa fn ex).obs s := by
  obtain rfl : g = s.heap.get? := funext h
  rfl
/-! is None, of what is known -/
section
variable {A B : Prop} {a : Addr} {x : Str}
theorem k_nonT (h : A) : if decide (V.non = V.non) = true then A else B := by simpa using h
theorem k_nonF (h : B) : if (!decide (V.non = V.non)) = true then A else B := by simpa using h
theorem k_refT (h : B) : if decide (V.ref a = V.non) = true then A else B := by simpa using h
theorem k_refF (h : A) : if (!decide (V.ref a = V.non)) = true then A else B := by simpa using h
theorem k_blT {b : Bool} (h : B) : if decide (V.bl b = V.non) = true then A else B := by simpa using h
theorem k_blF {b : Bool} (h : A) : if (!decide (V.bl b = V.non)) = true then A else B := by simpa using h
theorem k_strT (h : B) : if decide (V.str x = V.non) = true then A else B := by simpa using h
theorem k_strF (h : A) : if (!decide (V.str x = V.non)) = true then A else B := by simpa using h
end
/-! isinstance of instances, popping at a place -/
structure InsT (K : PySem.W.Frag) (C : Addr) : Prop where
  ha : PySem.W.findIn K (.ref C) "__class__" = some (some (.builtin "object.__class__"))
  hn : PySem.W.specialIn K (.builtin "object.__class__") "__get__" = some (some (.builtin "getset_descriptor.__get__"))
  ht : PySem.W.takesIn K (.builtin "object.__class__") = some true
  hm : PySem.W.mroIn K C (.type "object") = some true
def insB (K : PySem.W.Frag) (x : Str) : Bool := He.eqO (PySem.W.findIn K (.ref (He.ga K x)) "__class__") (some (some (.builtin "object.__class__"))) && (He.eqO (PySem.W.specialIn K (.builtin "object.__class__") "__get__") (some (some (.builtin "getset_descriptor.__get__"))) &&
  (decide (PySem.W.takesIn K (.builtin "object.__class__") = some true) && decide (PySem.W.mroIn K (He.ga K x) (.type "object") = some true)))
theorem insB_ok {K : PySem.W.Frag} {x : Str} (h : insB K x = true) : InsT K (He.ga K x) := by
  obtain ⟨h1, h⟩ := He.ba h
  obtain ⟨h2, h⟩ := He.ba h
  obtain ⟨h3, h4⟩ := He.ba h
  exact ⟨He.eqO_ok h1, He.eqO_ok h2, of_decide_eq_true h3, of_decide_eq_true h4⟩
theorem k_isIns {K : PySem.W.Frag} {H : Hp} {Q : VK} {a C D dx : Addr} {fs : List (Str × V)} {b : Bool} (h : H a = some (.ins C dx fs)) (cl : Cls K C) (t : InsT K C) (hk : PySem.W.kitOne K (.ref C) (.ref D) = some b) (q : Q (.bl b) H) : rIsi K [.ref a, .ref D] H Q :=
  k_isi (.own D) (.base (.ins h cl t.ha t.hn t.ht t.hm)) hk q
theorem k_popAt {l : Addr} {xs : List V} {y : V} {j : Nat} {H : Hp} {Q : VK} (h : H l = some (.lst xs)) (hj : xs[j]? = some y) (c : xs.length ≤ 1000000) (q : ∀ H', But l H H' → H' l = some (.lst (xs.eraseIdx j)) → Q y H') : rPopAt (.ref l) [.int (j : Int)] H Q := by
  have hlt := (List.getElem?_eq_some_iff.mp hj).1
  refine ⟨l, xs, (j : Int), j, y, rfl, rfl, h, by omega, by omega, ?_, hj, q _ But.upd upd_same⟩
  unfold seqIndex?
  rw [if_neg (show ¬ ((j : Int) < 0) by omega)]
  simp [hlt]
/-! zip of two lists, of two tuples -/
def rZipU (K : PySem.W.Frag) (vs : List V) (H1 : Hp) (R : It → Hp → Prop) : Prop := ∃ a b xs ys, vs = [.ref a, .ref b] ∧ ((SqL K H1 a xs ∧ SqL K H1 b ys ∧ R (Itz K a b) H1) ∨ (SqT K H1 a xs ∧ SqT K H1 b ys ∧ R (RZ.ItzT K a b) H1))
def iZipU (K : PySem.W.Frag) (ta : TA) : TI := fun σ H R => ta σ H fun vs H1 => rZipU K vs H1 R
theorem pi_zipU {X : Cx} {K : PySem.W.Frag} {e e2 : Expr} {ta : TA} {p pos tpos : Pos} {elts : List Expr} {kk : Nat} (h : X.K = K) (hg : Gl X "zip") (hm : X.mg "zip" = none) (ha : PA X [e, e2] ta)
    (hs : starEach [e, e2] X.env = (false, eval e X.env) :: starEach [e2] X.env := by rfl) (hpl : (backTo pos (starEach [e2] X.env)).any (·.1) = false := by rfl) :
    PI X (.Tuple elts kk tpos) (.Call (.Name "zip" p) [e, e2] [] pos) (iZipU K ta) := h ▸ RZ.pi_zipA hg hm ha hs hpl
theorem k_iZipU {K : PySem.W.Frag} {ta : TA} {σ : L2.St} {H : Hp} {R : It → Hp → Prop} (q : ta σ H fun vs H1 => rZipU K vs H1 R) : iZipU K ta σ H R := q
theorem k_zipLx {K : PySem.W.Frag} {H : Hp} {R : It → Hp → Prop} {a b : Addr} {xs ys : List V} (hx : SqL K H a xs) (hy : SqL K H b ys) (q : R (Itz K a b) H) : rZipU K [.ref a, .ref b] H R := ⟨a, b, xs, ys, rfl, .inl ⟨hx, hy, q⟩⟩
theorem k_zipTx {K : PySem.W.Frag} {H : Hp} {R : It → Hp → Prop} {a b : Addr} {xs ys : List V} (hx : SqT K H a xs) (hy : SqT K H b ys) (q : R (RZ.ItzT K a b) H) : rZipU K [.ref a, .ref b] H R := ⟨a, b, xs, ys, rfl, .inr ⟨hx, hy, q⟩⟩
theorem zipT_it {K : PySem.W.Frag} {a b : Addr} {xs ys : List V} (hl : xs.length = ys.length) : PairIt (RZ.ItzT K a b) xs.length (fun i => xs.getD i .non) (fun i => ys.getD i .non) (fun H => SqT K H a xs ∧ SqT K H b ys) where
  go := fun i H h c => ⟨xs, ys, _, _, h.1, h.2, get_some c, get_some (by omega)⟩
  stop := fun H h => ⟨xs, ys, h.1, h.2, .inl (Nat.le_refl _)⟩
  yld := fun i H x H' h c ⟨T, y, z, e, hT, eH, hy, hz⟩ => ⟨T, e, hT, by
    have e1 := hy xs h.1
    have e2 := hz ys h.2
    rw [get_some c] at e1
    rw [get_some (by omega)] at e2
    rw [eH, Option.some.inj e1, Option.some.inj e2]⟩
/-! texts: walked, cut at a sign, begun by one -/
section
variable {X : Cx} {σ : L2.St} {H : Hp} {Q : VK} {K : PySem.W.Frag} {g : TG} {tt : TT} {te : TE} {vs : List Nat} {tb : TS} {D : Ends}
def rItS (v : V) (H1 : Hp) (R : It → Hp → Prop) : Prop := ∃ x, v = .str x ∧ R (Its x) H1
theorem k_iStr {R : It → Hp → Prop} (q : te σ H fun v H1 => rItS v H1 R) : iStr te σ H R := q
theorem k_itS {x : Str} {R : It → Hp → Prop} (q : R (Its x) H) : rItS (.str x) H R := ⟨x, rfl, q⟩
theorem k_lcS {z : List Nat} (P : Addr → Nat → List V → Hp → Prop) (h0 : ∀ D H', H D = none → Same H H' → H' D = some (.lst []) → P D 0 [] H')
    (hs : ∀ D (i : Nat) c ys H', H D = none → z[i]? = some c → P D i ys H' → H' D = some (.lst ys) → LcB D g tt te vs σ (.str (SX.S [c])) H' fun H'' => ∃ zs, P D (i + 1) zs H'' ∧ H'' D = some (.lst zs))
    (hd : ∀ D ys H', H D = none → P D z.length ys H' → H' D = some (.lst ys) → Q (.ref D) H') : LcX (Its (SX.S z)) g tt te vs σ H Q := fun D hD => by
  refine ⟨fun i m H' => m = z.length - i ∧ i ≤ z.length ∧ ∃ ys, P D i ys H' ∧ H' D = some (.lst ys), ⟨z.length, by simp, Nat.zero_le _, [], h0 D _ hD (same_new hD) upd_same, upd_same⟩, ?_⟩
  rintro i m H' ⟨rfl, hi, ys, p, e⟩
  by_cases c : i < z.length
  · refine .inr ⟨by show i < (SX.S z).cps.size; simpa using c, fun H'' => ∃ zs, P D (i + 1) zs H'' ∧ H'' D = some (.lst zs), fun H2 ⟨zs, q, e2⟩ => ⟨z.length - (i + 1), by omega, rfl, c, zs, q, e2⟩, fun x H2 y => ?_⟩
    obtain ⟨rfl, d, hd, rfl⟩ := y
    exact hs D i d ys H2 hD (by simpa using hd) p e
  · have ei : i = z.length := by omega
    subst ei
    exact .inl ⟨by show (SX.S z).cps.size ≤ _; simp, hd D ys H' hD p e⟩
theorem k_loopS {z : List Nat} (P : Nat → L2.St → Hp → Prop) (h0 : P 0 σ H) (hs : ∀ (i : Nat) c σ H, z[i]? = some c → P i σ H → g (.str (SX.S [c])) σ H fun σ2 H2 => tb { D with nx := P (i + 1), ct := P (i + 1), bk := D.nx } σ2 H2) (hd : ∀ σ H, P z.length σ H → D.nx σ H) : LoopI (Its (SX.S z)) g tb D σ H := by
  refine ⟨fun i m σ' H' => m = z.length - i ∧ i ≤ z.length ∧ P i σ' H', ⟨z.length, by simp, Nat.zero_le _, h0⟩, ?_⟩
  rintro i m σ' H' ⟨rfl, hi, p⟩
  by_cases c : i < z.length
  · refine .inr ⟨by show i < (SX.S z).cps.size; simpa using c, P (i + 1), fun σ2 H2 q => ⟨z.length - (i + 1), by omega, rfl, c, q⟩, fun x H2 y => ?_⟩
    obtain ⟨rfl, d, hd, rfl⟩ := y
    exact hs i d σ' H2 (by simpa using hd) p
  · have ei : i = z.length := by omega
    subst ei
    exact .inl ⟨by show (SX.S z).cps.size ≤ _; simp, hd σ' H' p⟩
def rSplit : V → List V → Hp → VK → Prop := fun x xs H Q => ∃ a b, x = .str a ∧ xs = [.str b] ∧ (b.length == 0) = false ∧ a.length + 2 ≤ sizeLine ∧ rNewStrs (Txt.split a b) H Q
theorem mt_splitU : MtR X "str.split" rSplit := mt_split
theorem k_split {a : List Nat} {c : Nat} (hc : c < 256) (h : a.length + 2 ≤ sizeLine) (q : ∀ p H', H p = none → Same H H' → H' p = some (.lst ((TL.spl [c] 0 [] a).map fun z => V.str (SX.S z))) → Q (.ref p) H') : rSplit (.str (SX.S a)) [.str (SX.S [c])] H Q := by
  refine ⟨_, _, rfl, rfl, rfl, by rw [SX.S_len]; exact h, fun p hp => q p _ hp (same_new hp) ?_⟩
  rw [upd_same, SX.split_S (by simp) (by simp [hc]), List.map_map]
  rfl
def rStarts : V → List V → Hp → VK → Prop := fun x xs H Q => ∃ a b, x = .str a ∧ xs = [.str b] ∧ Q (.bl (Txt.startswith a b)) H
theorem mt_startsU : MtR X "str.startswith" rStarts := mt_startswith
theorem starts_one (a : List Nat) (c : Nat) : Txt.startswith (SX.S a) (SX.S [c]) = decide (a.head? = some c) := by
  rw [Bool.eq_iff_iff, decide_eq_true_eq]
  have h := PySem.StrLaws.subAt_one (SX.S a) c 0
  show (decide (0 + (SX.S [c]).length ≤ (SX.S a).length) && Builtin.Str.subAt (SX.S a) (SX.S [c]) 0) = true ↔ _
  rw [Bool.and_eq_true, decide_eq_true_eq]
  refine Iff.trans h ?_
  show a[0]? = some c ↔ _
  rw [List.head?_eq_getElem?]
theorem k_starts {a : List Nat} {c : Nat} (q : Q (.bl (decide (a.head? = some c))) H) : rStarts (.str (SX.S a)) [.str (SX.S [c])] H Q := ⟨_, _, rfl, rfl, by rw [starts_one]; exact q⟩
theorem k_all {a : Addr} {bs : List Bool} (h : SqL K H a (bs.map V.bl)) (q : Q (.bl (bs.all id)) H) : rAll K [.ref a] H Q := ⟨a, bs, rfl, h, q⟩
theorem k_inC {c : Nat} {a : List Nat} (q : Q (.bl (decide (c ∈ a))) H) : rInU K (.str (SX.S [c])) (.str (SX.S a)) H Q := k_inS (by rw [SX.in_one]; exact q)
theorem k_niC {c : Nat} {a : List Nat} (q : Q (.bl (!decide (c ∈ a))) H) : rNiU K (.str (SX.S [c])) (.str (SX.S a)) H Q := k_niS (by rw [SX.in_one]; exact q)
/-- text slices -/
theorem k_slFrom {a : List Nat} {i : Nat} (c : a.length ≤ sizeLine) (q : Q (.str (SX.S (a.drop i))) H) : rSlU K (.str (SX.S a)) (some (i : Int)) none H Q := k_slS (by rw [C8.cutS_slice, SX.slice_from (by omega)]; exact q) (by rw [SX.S_len]; exact c)
theorem k_slTo {a : List Nat} {i : Nat} (c : a.length ≤ sizeLine) (q : Q (.str (SX.S (a.take i))) H) : rSlU K (.str (SX.S a)) none (some (i : Int)) H Q := k_slS (by rw [C8.cutS_slice, SX.slice_to (by omega)]; exact q) (by rw [SX.S_len]; exact c)
end
/-! how often, and where, a sign stands in a text -/
section
variable {X : Cx} {H : Hp} {Q : VK} {K : PySem.W.Frag}
def rCntS : V → List V → Hp → VK → Prop := fun x xs H Q => ∃ a b, x = .str a ∧ xs = [.str b] ∧ Q (.int (Txt.count a b)) H
theorem mt_cntS : MtR X "str.count" rCntS := mt_count
theorem cnt_is (c : Nat) : ∀ l : List Nat, PyProof.Rows.cnt c l = (l.countP (· == c) : Int)
  | [] => rfl
  | n :: r => by
    rw [PyProof.Rows.cnt_cons, cnt_is c r, List.countP_cons]
    by_cases h : n = c <;> simp [h] <;> omega
theorem k_cntS {a : List Nat} {c : Nat} (q : Q (.int (a.countP (· == c) : Int)) H) : rCntS (.str (SX.S a)) [.str (SX.S [c])] H Q := ⟨_, _, rfl, rfl, by
  have e : Txt.count (SX.S a) (SX.S [c]) = (a.countP (· == c) : Int) := (PyProof.Rows.count_cnt (SX.S a) c).trans (cnt_is c a)
  rw [e]
  exact q⟩
def rIdxS : V → List V → Hp → VK → Prop := fun x xs H Q => ∃ a b i rest, x = .str a ∧ xs = [.str b] ∧ Builtin.Str.occurrences a b 0 a.length 1 = i :: rest ∧ Q (.int (i : Nat)) H
theorem mt_idxS : MtR X "str.index" rIdxS := mt_sindex
theorem fig_occ {c : Nat} (h : 48 ≤ c ∧ c ≤ 57) : Builtin.Str.occurrences (Str.ofString "0123456789") (SX.S [c]) 0 (Str.ofString "0123456789").length 1 = [c - 48] := by
  have k : ∀ d : Fin 10, Builtin.Str.occurrences (Str.ofString "0123456789") (SX.S [48 + d.1]) 0 (Str.ofString "0123456789").length 1 = [d.1] := by decide +kernel
  have := k ⟨c - 48, by omega⟩
  rwa [show 48 + (⟨c - 48, by omega⟩ : Fin 10).1 = c by show 48 + (c - 48) = c; omega] at this
theorem k_idxFig {c : Nat} (h : 48 ≤ c ∧ c ≤ 57) (q : Q (.int ((c - 48 : Nat) : Int)) H) : rIdxS (.str (Str.ofString "0123456789")) [.str (SX.S [c])] H Q := ⟨_, _, _, _, rfl, rfl, fig_occ h, q⟩
end
/-! a dict that is asked for None, too -/
def optIs : Option Key → Value → Bool
  | none, .none => true
  | none, _ => false
  | some k, v => keyIs k v
theorem optIs_none {v : Value} (h : optIs none v = true) : v = .none := by
  cases v <;> first | rfl | exact absurd h Bool.false_ne_true
theorem optIs_some {k : Key} {v : Value} (h : optIs (some k) v = true) : keyIs k v = true := h
theorem key_none {k : Key} (h : keyIs k Value.none = true) : False := by
  rcases keyIs_shape h with ⟨i, t, _, e⟩ | ⟨x, t, _, e⟩ <;> cases e
def optH (w : World) : Option Key → Int
  | none => NestedKey.hash w .none
  | some k => keyH w k
theorem hash_none {prog : Program} {w : World} {A : Around} {E : Value → Shared → Prop} {s : Shared} {Q : Int → Shared → Prop} (h : Q (optH w none) { s with toks := s.toks + 1 }) : wpAny (model prog w) A (pyHash .none) Q E s :=
  PySem.W.pyHash_slot (T := "NoneType") rfl PySem.F.slot_NoneType_hash PySem.F.entry_NoneType_hash (PySem.F.args_NoneType_hash_1 _) (beq_builtin_none _) (.inl rfl) (wpAny_bind (wpAny_pure (wpAny_bind (wpAny_mkInt (wpAny_pure ⟨_, _, rfl, h⟩)))))
theorem eq_opt {prog : Program} {w : World} {A : Around} {E : Value → Shared → Prop} {s : Shared} : ∀ {a b : Option Key} {u v : Value} {Q : Bool → Shared → Prop}, optIs a u = true → optIs b v = true → Q (decide (a = b)) s → wpAny (model prog w) A (PySem.eqBool u v) Q E s
  | none, none, u, v, Q, hu, hv, h => by
    rw [optIs_none hu, optIs_none hv]
    exact SeqAt.EqAt.same _ _ _ _ _ h
  | none, some k, u, v, Q, hu, hv, h => by
    rw [optIs_none hu]
    rcases keyIs_shape (optIs_some hv) with ⟨i, t, _, e⟩ | ⟨x, t, _, e⟩ <;> subst e
    · exact SeqAt.EqAt.none_int i t _ _ _ _ h
    · exact SeqAt.EqAt.none_str x t _ _ _ _ h
  | some k, none, u, v, Q, hu, hv, h => by
    rw [optIs_none hv]
    rcases keyIs_shape (optIs_some hu) with ⟨i, t, _, e⟩ | ⟨x, t, _, e⟩ <;> subst e
    · exact SeqAt.EqAt.int_none i t _ _ _ _ h
    · exact SeqAt.EqAt.str_none x t _ _ _ _ h
  | some a, some b, u, v, Q, hu, hv, h => (mixKind prog w).eqBool (a := a) (b := b) (optIs_some hu) (optIs_some hv) (by
    have e : decide (a = b) = decide (some a = some b) := by by_cases c : a = b <;> simp [c]
    rw [e]
    exact h)
def optKind (prog : Program) (w : World) : PySem.KeyKind prog w (Option Key) where
  is := optIs
  hash := optH w
  inj := fun v a b ha hb => by
    cases a with
    | none =>
      cases b with
      | none => rfl
      | some k => rw [optIs_none ha] at hb; exact (key_none hb).elim
    | some j =>
      cases b with
      | none => rw [optIs_none hb] at ha; exact (key_none ha).elim
      | some k => exact congrArg some ((mixKind prog w).inj v j k ha hb)
  byValue := fun k v h => by
    cases k with
    | none => rw [optIs_none h]; rfl
    | some k => exact (mixKind prog w).byValue k v h
  pyHash := fun {A E s k v Q} hv h => by
    cases k with
    | none => rw [optIs_none hv]; exact hash_none h
    | some k => exact (mixKind prog w).pyHash (k := k) hv h
  eqBool := fun hu hv h => eq_opt hu hv h
  «strs» := fun k x t v h => by
    cases k with
    | none => exact absurd h Bool.false_ne_true
    | some k => exact (mixKind prog w).strs k x t v h
theorem map_opt {prog : Program} {w : World} {h : Heap} {a : Addr} {f : Key → Option Value} (m : h.MapOf (mixKind prog w) a f) : h.MapOf (optKind prog w) a (fun k => k.bind f) := by
  obtain ⟨o, es, ep, ho, hc, hd, hk, hf⟩ := m
  refine ⟨o, es, ep, ho, hc, hd, fun e he => let ⟨k, h1, h2⟩ := hk e he; ⟨some k, h1, h2⟩, fun k => ?_⟩
  cases k with
  | some k => exact hf k
  | none =>
    show findBy optIs es none = none
    unfold findBy
    rw [Array.find?_eq_none.mpr, Option.map_none]
    intro e he q
    obtain ⟨k, h1, _⟩ := hk e he
    rw [optIs_none q] at h1
    exact key_none h1
def rGetN (x y z : V) (H : Hp) (Q : VK) : Prop := ∃ a kvs, x = .ref a ∧ H a = some (.dK kvs) ∧ ((y = .non ∧ Q z H) ∨ ∃ k, y = kV k ∧ Q ((valV kvs k).getD z) H)
def tGetN (td ty tx : TE) : TE := fun σ H Q => td σ H fun x H1 => ∃ a, x = .ref a ∧ IsD H1 a ∧ ty σ H1 fun y H2 => tx σ H2 fun z H3 => rGetN x y z H3 Q
theorem pe_getN {X : Cx} {k : Nat} {o e f : Expr} {td ty tx : TE} {apos cpos : Pos} (hr : Room k X.A) (ho : PE X o td) (he : PE X e ty) (hf : PE X f tx)
    (m1 : attributeBase o "get" X.env (eval o X.env) = eval o X.env := by rfl)
    (m2 : ((backTo cpos (starEach [e, f] X.env)).all (fun x => !x.1) && (backToKw cpos (keywordEach [] X.env)).all (fun x => x.1.isSome) && decide (([e, f] : List Expr).length + ([] : List Keyword).length + (if ([] : List Keyword).isEmpty then 0 else 1) < 30)) = true := by rfl)
    (m3 : (apos.endLine == cpos.line) = true := by rfl) (m4 : backTo cpos (starEach [e, f] X.env) = [(false, eval e X.env), (false, eval f X.env)] := by rfl) :
    PE X (.Call (.Attribute o "get" apos) [e, f] [] cpos) (tGetN td ty tx) := by
  refine ⟨fun pins s σ H Q I h => ?_⟩
  refine wpAny_Call_method m1 m2 m3 PySem.F.plainAttrs_dict PySem.F.slot_dict_get PySem.F.type_dict_get (thn (ho.run pins s σ H _ I h) fun u s1 ⟨x, H1, I1, rx, a, ex, d, q1⟩ => ?_)
  subst ex
  obtain rfl : u = Value.ref a := rx
  obtain ⟨t1, t2, _⟩ := isD_at I1 d
  refine ⟨t1, t2, ?_⟩
  rw [m4]
  refine Calls.callWith_builtin rfl (Calls.evalArgs_plain (Calls.spliced_cons (thn (he.run pins s1 σ H1 _ I1 q1) fun iv s2 ⟨y, H2, I2, ry, q2⟩ =>
    Calls.spliced_cons (thn (hf.run pins s2 σ H2 _ I2 q2) fun fv s3 ⟨z, H3, I3, rz, b, kvs, eb, eh, q3⟩ => Calls.spliced_nil ?_))))
  obtain rfl : a = b := V.ref.inj eb
  rcases q3 with ⟨ey, q3⟩ | ⟨k, ey, q3⟩
  · subst ey
    obtain rfl : iv = Value.none := ry
    obtain ⟨_, hd, vs, _, dd⟩ := dk_rd I3.hok (.inl eh)
    exact call_meetsIn PySem.F.slot_dict_get dd.typeIs PySem.F.entry_dict_get (PySem.F.args_dict_get_3 _ _ _) (meets_dict_get_default (optKind X.prog X.w) (k := none) (key := .none) a rfl hd fv) ⟨_, map_opt dd.mapOf, ⟨z, H3, I3.tok _, rz, q3⟩⟩
  · exact d_get2 (by have := hr.units; omega) I3 (.inl ⟨kvs, k, .inl eh, ey, rfl⟩) ry rz fun w' s4 I4 rw' => ⟨_, H3, I4, rw', q3⟩
theorem k_getN {td ty tx : TE} {σ : L2.St} {H : Hp} {Q : VK} (q : td σ H fun x H1 => ∃ a, x = .ref a ∧ IsD H1 a ∧ ty σ H1 fun y H2 => tx σ H2 fun z H3 => rGetN x y z H3 Q) : tGetN td ty tx σ H Q := q
theorem k_getD {a : Addr} {kvs : List (Key × V)} {H : Hp} {P : Prop} (h : H a = some (.dK kvs)) (q : P) : ∃ b, V.ref a = .ref b ∧ IsD H b ∧ P := ⟨a, rfl, .inl ⟨kvs, .inl h⟩, q⟩
theorem k_getNone {a : Addr} {kvs : List (Key × V)} {z : V} {H : Hp} {Q : VK} (h : H a = some (.dK kvs)) (q : Q z H) : rGetN (.ref a) .non z H Q := ⟨a, kvs, rfl, h, .inl ⟨rfl, q⟩⟩
theorem k_getStr {a : Addr} {kvs : List (Key × V)} {z : V} {t : Str} {H : Hp} {Q : VK} (h : H a = some (.dK kvs)) (q : Q ((valV kvs (.inr t)).getD z) H) : rGetN (.ref a) (.str t) z H Q := ⟨a, kvs, rfl, h, .inr ⟨.inr t, rfl, q⟩⟩
/-- a dict of two pairs, their keys texts -/
def rDisp2 (p : Addr) (x y x2 y2 : V) (H : Hp) (Q : VK) : Prop := H p = some (.dK []) ∧ ∃ kvs : List (Key × V), [(x, y), (x2, y2)] = kvs.map (fun kv => (kV kv.1, kv.2)) ∧ kvs.length ≤ 15 ∧ Q (.ref p) (upd H p (.dK (mergeK [] kvs)))
theorem k_disp2 {σ : L2.St} {H : Hp} {Q : VK} {tk tv tk2 tv2 : TE} (q : ∀ p H1, H p = none → Same H H1 → H1 p = some (.dK []) → tk σ H1 fun x H2 => tv σ H2 fun y H3 => tk2 σ H3 fun x2 H4 => tv2 σ H4 fun y2 H5 => rDisp2 p x y x2 y2 H5 Q) : tDisp [(tk, tv), (tk2, tv2)] σ H Q := fun p hp => q p _ hp (same_new hp) upd_same
theorem k_disp2x {p : Addr} {z z2 : Str} {y y2 : V} {H : Hp} {Q : VK} (h : H p = some (.dK [])) (n : z2 ≠ z) (q : ∀ H', But p H H' → H' p = some (.dK [(.inr z, y), (.inr z2, y2)]) → Q (.ref p) H') : rDisp2 p (.str z) y (.str z2) y2 H Q := ⟨h, [(.inr z, y), (.inr z2, y2)], rfl, by simp, q _ But.upd (by
  have n2 : ¬ z = z2 := fun e => n e.symm
  rw [upd_same]
  simp [mergeK, putK, n2])⟩
theorem k_addG {K : PySem.W.Frag} {H : Hp} {Q : VK} {a b : Addr} {xs ys : List V} (ha : SqL K H a xs) (hb : SqL K H b ys) (q : ∀ p H', H p = none → Same H H' → H' p = some (.lst (xs ++ ys)) → Q (.ref p) H') (c : xs.length + ys.length ≤ sizeLine) : rAddU K (.ref a) (.ref b) H Q :=
  .inr (.inr (.inr (.inr ⟨a, b, xs, ys, rfl, rfl, ha, hb, c, fun p hp => q p _ hp (same_new hp) upd_same⟩)))
/-! C(..) whose __init__ may raise -/
section
variable {X : Cx} {W : WX} {e : Expr} {es : List Expr} {p pos : Pos} {t : TA} {C x : Str} {ps : List Str} {sp : Sp} {j k : Nat}
def tMakeS (C : Addr) (sp : Sp) (E : L2.St → XK) (t : TA) : TE := fun σ H Q => t σ H fun vs H1 => rMake C sp vs H1 Q (E σ)
theorem pmakeS {K : PySem.W.Frag} (hK : X.K = K) (c : KCl X.prog X.w K X.mg X.base k C ps sp) (hr : Room j X.A) (hk : k + 1 ≤ j) (tk : Takes X W) (ha : PA X (e :: es) t) (hg : Gl X C := by rfl)
    (hdb : (C == ("__debug__" : Str)) = false := by decide) (hst : starEach (e :: es) X.env = (false, eval e X.env) :: starEach es X.env := by rfl) (hpl : (backTo pos (starEach es X.env)).any (·.1) = false := by rfl) :
    PE X (.Call (.Name C p) (e :: es) [] pos) (tMakeS (He.ga K C) sp (WE W) t) := by
  subst hK
  obtain ⟨f, fd, M, F, hm, b⟩ := c.ex
  refine ⟨fun pins s σ H Q I h => wpAny_Call_Name_kw (ld_glob I hg hm ?_ hdb)⟩
  refine PySem.W.callWith_K (h₀ := X.base) I.ok.mod.kin M.kp (thn (ha.run pos pins s σ H _ I h) fun us s1 ⟨vs, H1, I1, r, q⟩ => ⟨I1.kIn, ?_⟩) hst hpl
  have q2 := q (s1.heap.objs.size + 1) s1.heap.objs.size (I1.hok.fresh (Nat.le_succ _)) (I1.hok.fresh (Nat.le_refl _)) (Nat.ne_of_lt (Nat.lt_succ_self _))
  have J := Inv.made (C := He.ga X.K C) I1
  have r2 : Vals (V.ref (s1.heap.objs.size + 1) :: vs) (Value.ref (s1.heap.objs.size + 1) :: us) := .cons rfl r
  have hl : (Value.ref (s1.heap.objs.size + 1) :: us).length = ps.length := by
    rw [← r2.length]
    exact F.len _ _ _ _ q2
  have bb := b _ (Value.ref (s1.heap.objs.size + 1) :: us) J.kIn (by rw [List.append_nil]; exact hl)
  rw [List.append_nil] at bb
  refine wpAny_call (make_map (f := f) I1.kIn M.makes M.init (beq_iff_eq.mp M.fn) (codeAny_mono (F.run _ X.stack _ _ ⟨Value.ref (s1.heap.objs.size + 1) :: us, []⟩ _ _ _ _ ((hr.mono hk).make (He.ga X.K C) us []) (J.env0.make (He.ga X.K C) us []) bb r2 q2) fun rr s' z => ?_))
  cases rr with
  | error er => exact passAt tk σ pins _ _ er s' J z
  | ok fl =>
    cases fl with
    | ret u =>
      obtain ⟨v, H', I3, rv, ev, q3⟩ := J.after z
      subst ev
      exact ⟨rv, ⟨V.ref (s1.heap.objs.size + 1), H', I3, rfl, q3⟩⟩
    | next => exact z.elim
    | brk => exact z.elim
    | cont => exact z.elim
theorem k_makeS {σ : L2.St} {H : Hp} {Q : VK} {C : Addr} (q : t σ H fun vs H1 => rMake C sp vs H1 Q (WE W σ)) : tMakeS C sp (WE W) t σ H Q := q
end
/-- tuples stay while an instance changes -/
theorem seqT_butI {K : PySem.W.Frag} {H H' : Hp} {l C dx : Addr} {fs : List (Str × V)} (e : But l H H') (hl : H l = some (.ins C dx fs)) {a : Addr} {xs : List V} (h : SqT K H a xs) : SqT K H' a xs := by
  rcases h with (h | ⟨o, h⟩) | h
  · exact .inl (.inl (e _ _ (ne_of h hl (by intro z; cases z)) h))
  · exact .inl (.inr ⟨o, e _ _ (ne_of h hl (by intro z; cases z)) h⟩)
  · exact .inr h
/-! reversed(range(n)) -/
def rRevR (x : V) (H1 : Hp) (R : It → Hp → Prop) : Prop := ∃ n : Int, x = .int n ∧ (-(2 ^ 62) ≤ (0 : Int) ∧ (0 : Int) < 2 ^ 62 ∧ -(2 ^ 62) ≤ n ∧ n < 2 ^ 62 ∧ R (Itc (0 + (((n - 0).toNat : Nat) : Int) - 1) (-1) (n - 0).toNat) H1)
theorem k_revR {te : TE} {σ : L2.St} {H : Hp} {R : It → Hp → Prop} (q : te σ H fun x H1 => rRevR x H1 R) : iRevR (tRg1 te) σ H R := q
theorem k_revX {n : Nat} {H : Hp} {R : It → Hp → Prop} (c : n < 1000000) (q : R (Itc ((n : Int) - 1) (-1) n) H) : rRevR (.int (n : Int)) H R := by
  refine ⟨n, rfl, by omega, by omega, by omega, by omega, ?_⟩
  rw [Int.sub_zero, Int.toNat_natCast, Int.zero_add]
  exact q
theorem k_loopRev {σ : L2.St} {H : Hp} {D : Ends} {tb : TS} {j n : Nat} (P : Nat → L2.St → Hp → Prop) (h0 : P 0 σ H) (hs : ∀ (i : Nat) σ H, i < n → P i σ H → tb { D with nx := P (i + 1), ct := P (i + 1), bk := D.nx } (σ.set j (some (.int ((n - 1 - i : Nat) : Int)))) H)
    (hd : ∀ σ H, P n σ H → D.nx σ H) : LoopI (Itc ((n : Int) - 1) (-1) n) (gName j) tb D σ H := for_rangeC P h0 (fun i σ H hi p => by
      show tb _ (σ.set j (some (.int ((n : Int) - 1 + (i : Nat) * (-1))))) H
      rw [show (n : Int) - 1 + (i : Nat) * (-1) = ((n - 1 - i : Nat) : Int) by omega]
      exact hs i σ H hi p) hd
/-! a tuple's things, numbered -/
def Iet (K : PySem.W.Frag) (a : Addr) : It where
  go i H := ∃ xs x, SqT K H a xs ∧ xs[i]? = some x
  yld i H v H' := ∃ T x, v = .ref T ∧ H T = none ∧ H' = upd H T (.tup [.int (i : Nat), x]) ∧ ∀ xs, SqT K H a xs → xs[i]? = some x
  stop i H := ∃ xs, SqT K H a xs ∧ xs.length = i
def EtSt (e it a : Addr) (i : Nat) (h : Heap) : Prop := (∃ old, IsEnum h e it (i : Int) old) ∧ h.IsTupleIter it a i ∧ e ≠ it
theorem et_obj {e it a : Addr} {i : Nat} {h : Heap} (st : EtSt e it a i h) {c : Addr} (hc : c ∈ [e, it]) : ∃ o, h.get? c = some o ∧ ∀ v, o.data ≠ .cell v := by
  obtain ⟨⟨_, s1⟩, ⟨o4, e4, _, d4⟩, _⟩ := st
  simp only [List.mem_cons, List.not_mem_nil, or_false] at hc
  rcases hc with rfl | rfl
  · exact ⟨_, s1, fun _ => nofun⟩
  · exact ⟨o4, e4, fun _ z => by rw [d4] at z; cases z⟩
theorem turn_enumT {P : Program} {w : World} {K : PySem.W.Frag} {elts : List Expr} {kk : Nat} {tpos : Pos} {a e it : Addr} (ne : e ≠ it) (nea : e ≠ a) (ha : a ≠ it) :
    Turn P w K (.Tuple elts kk tpos) (Iet K a) [e, it] e (EtSt e it a) where
  mem := by simp
  obj := fun i h st c hc => et_obj st hc
  keep := fun i h h' st k => ⟨(let ⟨old, z⟩ := st.1; ⟨old, k e (by simp) _ z⟩), st.2.1.at fun o q => k it (by simp) o q, st.2.2⟩
  item := by
    intro X hP hw hK hc i pins s σ H E I hf st hg
    subst hP hw hK
    obtain ⟨xs, x, qx, ex⟩ := hg
    obtain ⟨us, ru, pu, _⟩ := I.tuple qx
    have hh : X.A.in1.handled = none := I.ok.hd hc
    have lu : i < us.length := by rw [← ru.length]; exact (List.getElem?_eq_some_iff.mp ex).1
    have W := WalksT.enumerateD (prog := X.prog) (w := X.w) (A := X.A) (Draws.tuple hh it a ha us.toArray) e ne (by simp [ne, nea]) (by simp)
    refine W.item i s _ E (by simpa using lu) ⟨st.1, st.2.1, pu⟩ fun T vals h' tk hP hT ht hm hk => ?_
    obtain ⟨t, u, hu, rfl⟩ := hP
    obtain ⟨u', hu', r1⟩ := ru.get ex
    obtain rfl : u' = u := Option.some.inj (hu'.symm.trans (by simpa using hu))
    refine ⟨.ref T, rfl, W.go elts kk tpos i T { s with heap := h', toks := tk } _ E hm fun h2 st2 hk2 => ?_⟩
    have new : ObjOk X.prog X.w (upd H T (.tup [.int (i : Nat), x])) h2 T (.tup [.int (i : Nat), x]) := ⟨by show 2 ≤ sizeLine; decide, [.int i t, u'], .cons ⟨_, rfl⟩ (.cons r1 .nil), ht.at fun o e => hk2 T o (W.apart i T h' hm) e⟩
    have I1 := I.turnedNew (t' := tk) (ch := [e, it]) (fun c o n e => hk2 c o n (hk c o n e)) hf hT new
    refine ⟨.ref T, _, I1, rfl, ⟨T, x, rfl, I.hok.fresh hT, rfl, fun l hl => by rw [I.tuple_inj hl qx]; exact ex⟩, ⟨?_, st2.2.1, st.2.2⟩, fun c hcm => ?_⟩
    · obtain ⟨old, z⟩ := st2.1
      exact ⟨old, by rw [show ((i + 1 : Nat) : Int) = ((i : Nat) : Int) + 1 by omega]; simpa using z⟩
    obtain ⟨o, e, _⟩ := et_obj st hcm
    rw [upd_ne (Nat.ne_of_lt (Nat.lt_of_lt_of_le (Heap.lt_size e) hT))]
    exact (hf c hcm).1
  done := by
    intro X hP hw hK hc i pins s σ H E I hf st hg
    subst hP hw hK
    obtain ⟨xs, qx, ex⟩ := hg
    obtain ⟨us, ru, pu, _⟩ := I.tuple qx
    have hh : X.A.in1.handled = none := I.ok.hd hc
    have lu : us.length = i := by rw [← ru.length]; exact ex
    have W := WalksT.enumerateD (prog := X.prog) (w := X.w) (A := X.A) (Draws.tuple hh it a ha us.toArray) e ne (by simp [ne, nea]) (by simp)
    rw [show us.toArray.size = i by simpa using lu] at W
    exact W.done s _ E ⟨st.1, st.2.1, pu⟩ fun h' tk hk => ⟨rfl, I.turnedL (t' := tk) (ch := [e, it]) (fun c o n z => hk c o n z) hf⟩
  self := fun A i s Q E st h => let ⟨⟨_, z⟩, _⟩ := st; wpAny_pyIter_enum z h
set_option maxHeartbeats 1000000 in
theorem enum_new {v : Value} {ob : Obj} {Bh : Heap → Prop} (B : Begins v ob Bh) :
    Meets (Builtin.«enumerate.__new__» ⟨[.type "enumerate", v], []⟩) (fun _ R z => Bh z.heap ∧
      R (.ok (.ret (.ref (z.heap.push ob).objs.size))) { z with heap := (z.heap.push ob).push { cls := .type "enumerate", data := .fields #[.none, .bool false, .ref z.heap.objs.size, rawInt 0, .none, .none] } }) :=
  .of_wp fun P w A R z g => by
    obtain ⟨hp, gs, dp, tk, os⟩ := z
    obtain ⟨b, g⟩ := g
    have _u := sub_enumerate
    have begun : ∀ {A2 : Around} {X : Value → Shared → Prop} {Y : Value → Shared → Prop}, Y (.ref hp.objs.size) ⟨hp.push ob, gs, dp, tk, os⟩ → wpAny (model P w) A2 (pyIter v) Y X ⟨hp, gs, dp, tk, os⟩ := fun q => B.iter P w _ _ ⟨hp, gs, dp, tk, os⟩ _ b q
    wp_walk using begun
    refine wpAny_stack_any fun _ => wpAny_pure ?_
    split
    · rename_i c _ _ _ _ _
      cases (c == Value.type "enumerate") <;> (wp_walk using begun; exact ⟨_, rfl, g⟩)
    · wp_walk using begun
      exact ⟨_, rfl, g⟩
theorem enum_made {P : Program} {w : World} {A : Around} {E : Value → Shared → Prop} {z : Shared} {v : Value} {ob : Obj} {Bh : Heap → Prop} {Q : Value → Shared → Prop} (B : Begins v ob Bh) (b : Bh z.heap)
    (q : ∀ h', IsEnum h' (z.heap.objs.size + 1) z.heap.objs.size 0 .none → h'.get? z.heap.objs.size = some ob → (∀ c o, z.heap.get? c = some o → h'.get? c = some o) → Q (.ref (z.heap.objs.size + 1)) { z with heap := h' }) :
    wpAny (model P w) A (call (.type "enumerate") [v]) Q E z := by
  refine callType_new F.called_enumerate (by decide) (F.typeCall_enumerate_1 _) (F.newCall_enumerate_1 _) (fun o => F.args_object_init_2 o _) F.entry_enumerate_new (enum_new B) ⟨b, ?_⟩
  have n1 : (z.heap.push ob).objs.size = z.heap.objs.size + 1 := Heap.size_push ..
  show _ ∧ _
  rw [n1]
  have he : IsEnum ((z.heap.push ob).push { cls := .type "enumerate", data := .fields #[.none, .bool false, .ref z.heap.objs.size, rawInt 0, .none, .none] }) (z.heap.objs.size + 1) z.heap.objs.size 0 .none := by
    have t := Heap.get?_push_size (z.heap.push ob) (o := { cls := .type "enumerate", data := .fields #[.none, .bool false, .ref z.heap.objs.size, rawInt 0, .none, .none] }) rfl
    rwa [n1] at t
  exact ⟨⟨_, he, rfl⟩, q _ he (Heap.get?_push_of_some _ (Heap.get?_push_size _ B.free)) fun c o x => Heap.get?_push_of_some _ (Heap.get?_push_of_some _ x)⟩
def rEnumT (K : PySem.W.Frag) (vs : List V) (H1 : Hp) (R : It → Hp → Prop) : Prop := ∃ a xs, vs = [.ref a] ∧ SqT K H1 a xs ∧ R (Iet K a) H1
def iEnumT (K : PySem.W.Frag) (ta : TA) : TI := fun σ H R => ta σ H fun vs H1 => rEnumT K vs H1 R
theorem pi_enumT {X : Cx} {K : PySem.W.Frag} {e : Expr} {ta : TA} {p pos tpos : Pos} {elts : List Expr} {kk : Nat} (h : X.K = K) (hg : Gl X "enumerate") (hm : X.mg "enumerate" = none) (ha : PA X [e] ta) (hs : starEach [e] X.env = [(false, eval e X.env)] := by rfl) :
    PI X (.Tuple elts kk tpos) (.Call (.Name "enumerate" p) [e] [] pos) (iEnumT K ta) := by
  subst h
  refine ⟨fun pins s σ H R I h => Call_ (ld_blt I hg hm boot_enumerate (PyProof.Rows.callWith_type1 (thn (ha.run pos pins s σ H _ I h) fun us s1 z => ?_) hs rfl))⟩
  obtain ⟨vs, H1, I1, r1, a, xs, rfl, qx, q⟩ := z
  obtain ⟨ua, rfl, ra⟩ := vals1 r1
  cases ra
  obtain ⟨us, ru, pu, _⟩ := I1.tuple qx
  have la : a < s1.heap.objs.size := by obtain ⟨_, e, _⟩ := id pu; exact Heap.lt_size e
  refine enum_made (begins_tuple a us.toArray) pu fun h' he g1 hk => wpAny_pyIter_enum he ?_
  refine ⟨_, _, _, _, H1, rfl, I1.kept (t' := s1.toks) hk, turn_enumT (Nat.succ_ne_self _) (Nat.ne_of_gt (Nat.lt_succ_of_lt la)) (Nat.ne_of_lt la), ⟨⟨_, he⟩, ⟨_, g1, rfl, rfl⟩, Nat.succ_ne_self _⟩, fun c hc => ?_, q⟩
  have hle : s1.heap.objs.size ≤ c := by
    simp only [List.mem_cons, List.not_mem_nil, or_false] at hc
    rcases hc with rfl | rfl
    · exact Nat.le_add_right _ 1
    · exact Nat.le_refl _
  exact I1.fpOk hle (I1.hok.fresh hle)
theorem k_iEnumT {K : PySem.W.Frag} {ta : TA} {σ : L2.St} {H : Hp} {R : It → Hp → Prop} (q : ta σ H fun vs H1 => rEnumT K vs H1 R) : iEnumT K ta σ H R := q
theorem k_enumTx {K : PySem.W.Frag} {H : Hp} {R : It → Hp → Prop} {a : Addr} {xs : List V} (hx : SqT K H a xs) (q : R (Iet K a) H) : rEnumT K [.ref a] H R := ⟨a, xs, rfl, hx, q⟩
theorem enumT_it {K : PySem.W.Frag} {a : Addr} {xs : List V} : PairIt (Iet K a) xs.length (fun i => .int (i : Nat)) (fun i => xs.getD i .non) (fun H => SqT K H a xs) where
  go := fun i H h c => ⟨xs, _, h, get_some c⟩
  stop := fun H h => ⟨xs, h, rfl⟩
  yld := fun i H x H' h c ⟨T, y, e, hT, eH, hy⟩ => ⟨T, e, hT, by
    have := hy xs h
    rw [get_some c] at this
    rw [eH, Option.some.inj this]⟩
end Gx
/-! what never changes stays: tuples, things known, functions -/
namespace Gx
open PySem PySem.Spec PyProof.Rows L2
def Fixt : HO → Prop
  | .tup _ => True
  | .frz _ _ => True
  | .ext _ => True
  | _ => False
def Imm (H H' : Hp) : Prop := ∀ a o, H a = some o → Fixt o → H' a = some o
theorem Imm.refl (H : Hp) : Imm H H := fun _ _ h _ => h
theorem Imm.trans {H H1 H2 : Hp} (a : Imm H H1) (b : Imm H1 H2) : Imm H H2 := fun c o h f => b c o (a c o h f) f
theorem imm_same {H H' : Hp} (e : Same H H') : Imm H H' := fun a o h _ => e a o h
theorem imm_but {H H' : Hp} {l : Addr} {ys : List V} (e : But l H H') (hl : H l = some (.lst ys)) : Imm H H' := fun a o h f => e a o (ne_of h hl (by rintro rfl; exact f)) h
theorem imm_butI {H H' : Hp} {l C dx : Addr} {fs : List (Str × V)} (e : But l H H') (hl : H l = some (.ins C dx fs)) : Imm H H' := fun a o h f => e a o (ne_of h hl (by rintro rfl; exact f)) h
theorem seqT_imm {K : PySem.W.Frag} {H H' : Hp} (e : Imm H H') {a : Addr} {xs : List V} (h : SqT K H a xs) : SqT K H' a xs := by
  rcases h with (h | ⟨o, h⟩) | h
  · exact .inl (.inl (e _ _ h trivial))
  · exact .inl (.inr ⟨o, e _ _ h trivial⟩)
  · exact .inr h
/-- all but two stay -/
def But2 (l m : Addr) (H H' : Hp) : Prop := ∀ a o, a ≠ l → a ≠ m → H a = some o → H' a = some o
theorem But2.refl (l m : Addr) (H : Hp) : But2 l m H H := fun _ _ _ _ h => h
theorem But2.of {H H' : Hp} {l m : Addr} (e : Same H H') : But2 l m H H' := fun a o _ _ h => e a o h
theorem But2.trans {H H1 H2 : Hp} {l m : Addr} (a : But2 l m H H1) (b : But2 l m H1 H2) : But2 l m H H2 := fun c o n1 n2 h => b c o n1 n2 (a c o n1 n2 h)
theorem But2.left {H H' : Hp} {l m : Addr} (e : But l H H') : But2 l m H H' := fun a o n _ h => e a o n h
theorem But2.right {H H' : Hp} {l m : Addr} (e : But m H H') : But2 l m H H' := fun a o _ n h => e a o n h
theorem But2.imm {H H' : Hp} {l m C dx : Addr} {fs : List (Str × V)} {ys : List V} (e : But2 l m H H') (hl : H l = some (.ins C dx fs)) (hm : H m = some (.lst ys)) : Imm H H' := fun a o h f => e a o (ne_of h hl (by rintro rfl; exact f)) (ne_of h hm (by rintro rfl; exact f)) h
/-- what is new here may change -/
theorem But2.same {H H1 H2 : Hp} {l m : Addr} (nl : H l = none) (nm : H m = none) (a : Same H H1) (b : But2 l m H1 H2) : Same H H2 := fun c o h => b c o (ne_of_none h nl) (ne_of_none h nm) (a c o h)
end Gx
/-! a list that will not change any more is known from now on -/
namespace Gx
open PySem PySem.Spec PyProof.Rows L2
theorem inv_frz {X : Cx} {pins : List (Addr × Obj)} {σ : L2.St} {H : Hp} {s : Shared} {l : Addr} {xs : List V} (I : Inv X pins σ H s) (h : H l = some (.lst xs)) : ∃ o, Inv X pins σ (upd H l (.frz o (.lst xs))) s := by
  obtain ⟨hl, its, n, r, e⟩ := id (I.hok l _ h)
  have nl : ∀ {b u}, H b = some u → (∀ ys, u ≠ .lst ys) → b ≠ l := fun {b u} q n z => by
    rw [z, h] at q
    exact n _ (Option.some.inj q).symm
  have I2 := I.un (H' := upd H l (.frz { cls := .type "list", data := .seq its.toArray n } (.lst xs))) (h' := s.heap) (t' := s.toks) ⟨fun b o q _ _ _ => q, fun b o q _ _ _ => ⟨o.slots, q⟩, fun b o q n _ => by rw [upd_ne (fun z => by rw [z, h] at n; cases n)]; exact n, fun b o q _ => ⟨o, q⟩,
    fun b ys q => by rw [upd_ne (nl q (by intro ys z; cases z))]; exact q, fun b o u q => by rw [upd_ne (nl q (by intro ys z; cases z))]; exact q, fun b ps q => ⟨#[], by rw [upd_ne (nl q (by intro ys z; cases z)), q]; simp⟩⟩ (fun b u q => by
    by_cases hb : b = l
    · rw [hb, upd_same] at q
      cases q
      rw [hb]
      exact ⟨e, hl, its, n, r, e⟩
    · rw [upd_ne hb] at q
      exact (I.hok b u q).stay (fun _ _ _ q => q) (fun c q => by rw [upd_ne (nl q (by intro ys z; cases z))]; exact q) fun c ys q => by rw [upd_ne (nl q (by intro ys z; cases z))]; exact q)
  exact ⟨_, I2⟩
def rFrz (v : V) (H1 : Hp) (Q : VK) : Prop := ∃ l xs, v = .ref l ∧ H1 l = some (.lst xs) ∧ ∀ o, Q v (upd H1 l (.frz o (.lst xs)))
def tFrz (te : TE) : TE := fun σ H Q => te σ H fun v H1 => rFrz v H1 Q
theorem pe_frz {X : Cx} {e : Expr} {te : TE} (h : PE X e te) : PE X e (tFrz te) := by
  refine ⟨fun pins s σ H Q I q => thn (h.run pins s σ H _ I q) fun u s1 ⟨v, H1, I1, r, l, xs, ev, hl, q1⟩ => ?_⟩
  obtain ⟨o, I2⟩ := inv_frz I1 hl
  exact ⟨v, _, I2, r, q1 o⟩
theorem k_frz {te : TE} {σ : L2.St} {H : Hp} {Q : VK} (q : te σ H fun v H1 => rFrz v H1 Q) : tFrz te σ H Q := q
theorem k_frzx {l : Addr} {xs : List V} {H : Hp} {Q : VK} (h : H l = some (.lst xs)) (q : ∀ o H', But l H H' → H' l = some (.frz o (.lst xs)) → Q (.ref l) H') : rFrz (.ref l) H Q := ⟨l, xs, rfl, h, fun o => q o _ But.upd upd_same⟩
/-- while a list is put away, tuples stay -/
theorem SqL.frz {K : PySem.W.Frag} {H : Hp} {l : Addr} {o : Obj} {xs : List V} (h : H l = some (.frz o (.lst xs))) : SqL K H l xs := .inl (.inr ⟨o, h⟩)
theorem frz_imm {H H' : Hp} (e : Imm H H') {l : Addr} {o : Obj} {u : HO} (h : H l = some (.frz o u)) : H' l = some (.frz o u) := e _ _ h trivial
end Gx
namespace Gx
open PySem PySem.Spec PyProof.Rows L2
/-! ### xs[lo:hi:c], c a number; ts[::-1], ts a tuple -/
def stV (xs : List V) (lo hi : Option Int) (c : Int) : List V := (sliceRange (sliceBounds lo hi (some c) xs.length).1 (sliceBounds lo hi (some c) xs.length).2.1 (sliceBounds lo hi (some c) xs.length).2.2).filterMap (xs[·]?)
theorem vals_pick : ∀ {xs : List V} {us : List Value} (idx : List Nat), Vals xs us → Vals (idx.filterMap (xs[·]?)) (idx.filterMap (us[·]?))
  | _, _, [], _ => .nil
  | xs, us, i :: r, h => by
    have ih := vals_pick r h
    have key : ∀ {xs : List V} {us : List Value} (i : Nat), Vals xs us → (xs[i]? = none ∧ us[i]? = none) ∨ ∃ x u, xs[i]? = some x ∧ us[i]? = some u ∧ RelV x u := fun {xs us} i h => by
      induction h generalizing i with
      | nil => exact .inl ⟨rfl, rfl⟩
      | cons a _ ih =>
        cases i with
        | zero => exact .inr ⟨_, _, rfl, rfl, a⟩
        | succ i => exact ih i
    rcases key i h with ⟨h1, h2⟩ | ⟨x, u, h1, h2, h3⟩
    · rw [List.filterMap_cons, List.filterMap_cons, h1, h2]
      exact ih
    · rw [List.filterMap_cons, List.filterMap_cons, h1, h2]
      exact .cons h3 ih
theorem stV_len {xs : List V} {lo hi : Option Int} {c : Int} (c0 : 0 < c) : (stV xs lo hi c).length ≤ xs.length := by
  unfold stV
  refine Nat.le_trans (List.length_filterMap_le ..) (sliceRange_length_le _ _ _ xs.length ?_ ?_)
  · intro _
    cases lo <;> cases hi <;> simp [sliceBounds, c0] <;> omega
  · intro z
    exact absurd (show (sliceBounds lo hi (some c) xs.length).2.2 > 0 from c0) z
def rStX (K : PySem.W.Frag) (x : V) (lo hi : Option Int) (c : Int) (H : Hp) (Q : VK) : Prop := ∃ a xs, x = .ref a ∧ SqL K H a xs ∧ ∀ p, H p = none → Q (.ref p) (upd H p (.lst (stV xs lo hi c)))
def tSlSt (K : PySem.W.Frag) (te : TE) (tl th : TO) (c : Int) : TE := fun σ H Q => te σ H fun x H1 => tl σ H1 fun lo H2 => th σ H2 fun hi H3 => rStX K x lo hi c H3 Q
theorem pe_slStep {X : Cx} {e : Expr} {lo hi : Option Expr} {te : TE} {tl th : TO} {c : Int} {k : Nat} {p1 p3 pos : Pos} (he : PE X e te) (hl : PO X lo tl) (hu : PO X hi th) (c0 : 0 < c) : PE X (.Subscript e (.Slice lo hi (some (.Constant (.int c) k p1)) p3) pos) (tSlSt X.K te tl th c) := by
  refine ⟨fun pins s σ H Q I h => ?_⟩
  refine Subscript_ (thn (he.run pins s σ H _ I h) fun v s1 ⟨x, H1, I1, r1, q1⟩ => ?_)
  have hst : PO X (some (.Constant (.int c) k p1)) (tPart (tC (.int c))) := po_some pe_int
  refine wpAny_Slice (thn (hl.run pins s1 σ H1 _ I1 q1) fun vl s2 ⟨l, H2, I2, pl, q2⟩ => ?_)
  refine thn (hu.run pins s2 σ H2 _ I2 q2) fun vu s3 ⟨u, H3, I3, pu, q3⟩ => ?_
  obtain ⟨a, xs, ex, hx, q⟩ := q3
  subst ex
  cases r1
  refine thn (hst.run pins s3 σ H3 (fun o H4 => o = some c ∧ H4 = H3) I3 ⟨c, rfl, rfl, rfl⟩) fun vs s4 ⟨o, H4, I4, ps, eo, e4⟩ => ?_
  subst eo e4
  have I5 : Inv X pins σ H4 { s4 with heap := s4.heap.push { cls := .type "slice", data := .fields #[vl, vu, vs] } } := I4.kept (t' := s4.toks) fun b ob q => Heap.get?_push_of_some _ q
  obtain ⟨its, r, ht, hz⟩ := I5.list hx
  have hlen := r.length
  show wpAny (model X.prog X.w) X.A (subscriptTail e (.Slice lo hi (some (.Constant (.int c) k p1)) p3) (.ref a) (.ref s4.heap.objs.size)) (EP X pins σ Q) X.xe { s4 with heap := s4.heap.push { cls := .type "slice", data := .fields #[vl, vu, vs] } }
  refine tail_any (ops := [.ref a, .ref s4.heap.objs.size]) ht.isList.typeIs (PySem.slot_list_getitem.lookup) ?_ (by with_unfolding_all rfl)
  refine wpAny_getItem_list_slice ht.isList (Heap.IsSliceOf.new _ vl vu vs) pl pu ps (fun z => by have := Option.some.inj z; omega) ?_ (by rw [List.size_toArray]; omega)
  have ep : slicePick its.toArray l u (some c) = ((sliceRange (sliceBounds l u (some c) xs.length).1 (sliceBounds l u (some c) xs.length).2.1 (sliceBounds l u (some c) xs.length).2.2).filterMap (its[·]?)).toArray := by
    unfold slicePick
    rw [List.size_toArray, ← hlen]
    congr 1
    congr 1
    funext i
    simp
  rw [ep]
  have vp := vals_pick (sliceRange (sliceBounds l u (some c) xs.length).1 (sliceBounds l u (some c) xs.length).2.1 (sliceBounds l u (some c) xs.length).2.2) r
  refine ⟨.ref _, _, I5.laid (t' := s4.toks) (o := .lst (stV xs l u c)) (fun b ob q => Heap.get?_push_of_some _ q) (Nat.le_refl _) ?_, rfl, q _ (I5.hok.fresh (Nat.le_refl _))⟩
  refine ⟨?_, _, 0, vp, Heap.get?_push_size _ rfl⟩
  exact Nat.le_trans (stV_len c0) hz
theorem k_st {K : PySem.W.Frag} {te : TE} {tl th : TO} {c : Int} {σ : L2.St} {H : Hp} {Q : VK} (q : te σ H fun x H1 => tl σ H1 fun lo H2 => th σ H2 fun hi H3 => rStX K x lo hi c H3 Q) : tSlSt K te tl th c σ H Q := q
theorem k_stx {K : PySem.W.Frag} {a : Addr} {xs : List V} {lo hi : Option Int} {c : Int} {H : Hp} {Q : VK} (h : SqL K H a xs) (q : ∀ p H2, H p = none → Same H H2 → H2 p = some (.lst (stV xs lo hi c)) → Q (.ref p) H2) : rStX K (.ref a) lo hi c H Q := ⟨a, xs, rfl, h, fun p hp => q p _ hp (same_new hp) upd_same⟩
theorem stV_ints {ns : List Int} {lo hi : Option Int} {c : Int} (c0 : 0 < c) : ∃ ms : List Int, stV (ns.map V.int) lo hi c = ms.map V.int ∧ ms.length ≤ ns.length := by
  refine ⟨(sliceRange (sliceBounds lo hi (some c) ns.length).1 (sliceBounds lo hi (some c) ns.length).2.1 (sliceBounds lo hi (some c) ns.length).2.2).filterMap (ns[·]?), ?_, ?_⟩
  · unfold stV
    rw [List.map_filterMap, List.length_map]
    congr 1
    funext i
    rw [List.getElem?_map]
  · have e := stV_len (xs := ns.map V.int) (lo := lo) (hi := hi) c0
    unfold stV at e
    rw [List.length_map] at e
    refine Nat.le_trans (Nat.le_of_eq ?_) e
    rw [← List.length_map (f := V.int), List.map_filterMap]
    congr 2
    funext i
    rw [List.getElem?_map]
section
variable {prog : Program} {w : World} {A : Around} {E : Value → Shared → Prop} {s : Shared}
theorem fm_congr {α β : Type} {f g : α → Option β} : ∀ {l : List α}, (∀ x ∈ l, f x = g x) → l.filterMap f = l.filterMap g
  | [], _ => rfl
  | x :: r, h => by
    rw [List.filterMap_cons, List.filterMap_cons, h x (List.mem_cons_self ..), fm_congr (l := r) fun y hy => h y (List.mem_cons_of_mem _ hy)]
theorem places_rev (n : Nat) : Builtin.Slice.slicePlaces ((n : Int) - 1) (-1) (-1) = n := by
  unfold Builtin.Slice.slicePlaces
  rw [if_neg (by decide)]
  by_cases h : (n : Int) - 1 > -1
  · rw [if_pos h, show (-(-1) : Int) = 1 by decide, Int.ediv_one]
    omega
  · rw [if_neg h]
    omega
theorem sliceApplied_rev {sl : Addr} {vl vu vs : Value} {n : Nat} {Q : Int × Int × Nat → Shared → Prop} (hs : s.heap.IsSliceOf sl vl vu vs) (pl : IsPart vl none) (pu : IsPart vu none) (ps : IsPart vs (some (-1)))
    (h : Q ((n : Int) - 1, -1, n) s) : wpAny (model prog w) A (Builtin.Slice.sliceApplied (.ref sl) (pure (n : Int))) Q E s := by
  obtain ⟨os, hos, hcs, hds⟩ := id hs
  unfold Builtin.Slice.sliceApplied Builtin.Slice.sliceFields
  refine wpAny_bind (wpAny_bind (wpAny_field hos hds (x := vl) rfl (wpAny_bind (wpAny_field hos hds (x := vu) rfl (wpAny_bind (wpAny_field hos hds (x := vs) rfl (wpAny_pure ?_)))))))
  refine wpAny_bind (HT.slicePart_ ps ?_)
  show wpAny _ _ (if ((-1 : Int) == 0) = true then _ else _) _ _ s
  rw [if_neg (by decide)]
  refine wpAny_bind (HT.slicePart_ pl (wpAny_bind (HT.slicePart_ pu (wpAny_bind (wpAny_pure ?_)))))
  show wpAny _ _ (pure ((n : Int) - 1, (-1 : Int), Builtin.Slice.slicePlaces ((n : Int) - 1) (-1) (-1))) _ _ s
  rw [places_rev]
  exact wpAny_pure h
theorem getItem_tuple_rev {t sl : Addr} {items : Array Value} {vl vu vs : Value} {Q : Value → Shared → Prop} (ht : IsTup s.heap t items) (hs : s.heap.IsSliceOf sl vl vu vs) (pl : IsPart vl none) (pu : IsPart vu none) (ps : IsPart vs (some (-1)))
    (h : Q (.ref s.heap.objs.size) { s with heap := s.heap.push { cls := .type "tuple", data := .seq items.toList.reverse.toArray } })
    (hsz : items.size ≤ sizeLine) : wpAny (model prog w) A (getItem (.ref t) (.ref sl)) Q E s := by
  have htake : sizeOk (.seq items.toList.reverse.toArray) := by
    show items.toList.reverse.toArray.size ≤ sizeLine
    rw [List.size_toArray, List.length_reverse, Array.length_toList]
    omega
  obtain ⟨os, hos, hcs, hds⟩ := id hs
  have hTs : s.TypeIs (.ref sl) "slice" := ⟨os, hos, hcs⟩
  unfold getItem
  try with_reducible refine wpAny_holding ?_
  first | refine wpAny_bind (wpAny_pure ?_) | skip
  refine wpAny_bind (wpAny_sequenceKey ht.typeIs (by decide) ?_)
  refine wpAny_bind (wpAny_callSpecial?_slot (name := Str.ofString "__getitem__") ht.typeIs PyProof.Rows.slot_tuple_getitem
    (wpAny_call_entry PyProof.Rows.slot_tuple_getitem ht.typeIs entry_tuple_getitem ?_ (args_tuple_getitem _ _)))
  show wpAny _ _ (Builtin.Tuple.tupleItemsOf (.ref t) >>= _) _ _ s
  refine wpAny_bind (tupleItemsOf_ ht ?_)
  refine wpAny_bind (wpAny_typeOf hTs ?_)
  rw [if_pos (by decide)]
  refine wpAny_bind (sliceApplied_rev hs pl pu ps ?_)
  have hno : ¬ (((((items.size : Nat) : Int) - 1) == 0 && (-1 : Int) == 1 && items.size == items.size) = true) := by
    intro q
    rw [Bool.and_eq_true, Bool.and_eq_true] at q
    exact absurd (eq_of_beq q.1.2) (by decide)
  show wpAny _ _ (if ((((items.size : Nat) : Int) - 1) == 0 && (-1 : Int) == 1 && items.size == items.size) = true then _ else _) _ _ s
  have ep : ((List.range items.size).filterMap fun (k : Nat) => items[(((items.size : Nat) : Int) - 1 + (k : Int) * (-1)).toNat]?).toArray = items.toList.reverse.toArray := by
    have e : ((List.range items.size).filterMap fun (k : Nat) => items[(((items.size : Nat) : Int) - 1 + (k : Int) * (-1)).toNat]?) = ((List.range items.size).map fun k => items.size - 1 - k).filterMap (items[·]?) := by
      rw [List.filterMap_map]
      refine fm_congr fun k hk => ?_
      have := List.mem_range.mp hk
      show items[(((items.size : Nat) : Int) - 1 + (k : Int) * (-1)).toNat]? = items[items.size - 1 - k]?
      congr 1
      omega
    rw [e, PySem.W.krv_range, List.filterMap_reverse, PySem.W.krv_all]
  rw [if_neg hno, ep]
  first
    | exact wpAny_bind (m := Builtin.Tuple.tupleExact _) (wpAny_newObj_type (wpAny_pure ⟨_, rfl, wpAny_pure h⟩) htake)
    | exact wpAny_bind (m := Builtin.Tuple.tupleExact _) (wpAny_newObj_type (wpAny_bind (wpAny_pure (wpAny_pure ⟨_, rfl, wpAny_pure h⟩))) htake)
    | exact wpAny_bind (wpAny_bind (m := Builtin.Tuple.tupleExact _) (wpAny_newObj_type (wpAny_pure (wpAny_pure ⟨_, rfl, wpAny_pure h⟩)) htake))
    | exact wpAny_bind (wpAny_bind (m := Builtin.Tuple.tupleExact _) (wpAny_newObj_type (wpAny_pure ⟨_, rfl, wpAny_pure h⟩) htake))
end
def rRevTX (K : PySem.W.Frag) (x : V) (H : Hp) (Q : VK) : Prop := ∃ a xs, x = .ref a ∧ SqT K H a xs ∧ ∀ p, H p = none → Q (.ref p) (upd H p (.tup xs.reverse))
def tRevT (K : PySem.W.Frag) (te : TE) : TE := fun σ H Q => te σ H fun x H1 => rRevTX K x H1 Q
theorem pe_revT {X : Cx} {e : Expr} {te : TE} {k : Nat} {p1 p2 p3 pos : Pos} (he : PE X e te) : PE X (.Subscript e (.Slice none none (some (.UnaryOp .USub (.Constant (.int 1) k p1) p2)) p3) pos) (tRevT X.K te) := by
  refine ⟨fun pins s σ H Q I h => ?_⟩
  refine Subscript_ (thn (he.run pins s σ H _ I h) fun v s1 ⟨x, H1, I1, r1, q1⟩ => ?_)
  obtain ⟨a, xs, ex, hx, q⟩ := q1
  subst ex
  cases r1
  have hst : PO X (some (.UnaryOp .USub (.Constant (.int 1) k p1) p2)) (tPart (tUn (rU fun i => .int (-i)) (tC (.int 1)))) := po_some (pe_un un_neg pe_int)
  refine wpAny_Slice (thn (po_none.run pins s1 σ H1 (fun o H2 => o = none ∧ H2 = H1) I1 ⟨rfl, rfl⟩) fun vl s2 ⟨l, H2, I2, pl, el, e2⟩ => ?_)
  subst el e2
  refine thn (po_none.run pins s2 σ H2 (fun o H3 => o = none ∧ H3 = H2) I2 ⟨rfl, rfl⟩) fun vu s3 ⟨u, H3, I3, pu, eu, e3⟩ => ?_
  subst eu e3
  refine thn (hst.run pins s3 σ H3 (fun o H4 => o = some (-1) ∧ H4 = H3) I3 ⟨1, rfl, -1, rfl, rfl, rfl⟩) fun vs s4 ⟨o, H4, I4, ps, eo, e4⟩ => ?_
  subst eo e4
  have I5 : Inv X pins σ H4 { s4 with heap := s4.heap.push { cls := .type "slice", data := .fields #[vl, vu, vs] } } := I4.kept (t' := s4.toks) fun b ob q => Heap.get?_push_of_some _ q
  obtain ⟨its, r, ht, hz⟩ := I5.tuple hx
  have hlen := r.length
  show wpAny (model X.prog X.w) X.A (subscriptTail e (.Slice none none (some (.UnaryOp .USub (.Constant (.int 1) k p1) p2)) p3) (.ref a) (.ref s4.heap.objs.size)) (EP X pins σ Q) X.xe { s4 with heap := s4.heap.push { cls := .type "slice", data := .fields #[vl, vu, vs] } }
  refine tail_any (ops := [.ref a, .ref s4.heap.objs.size]) ht.typeIs (PyProof.Rows.slot_tuple_getitem.lookup) ?_ (by with_unfolding_all rfl)
  refine getItem_tuple_rev ht (Heap.IsSliceOf.new _ vl vu vs) pl pu ps ?_ (by rw [List.size_toArray]; omega)
  refine ⟨.ref _, _, I5.laid (t' := s4.toks) (o := .tup xs.reverse) (fun b ob q => Heap.get?_push_of_some _ q) (Nat.le_refl _) ?_, rfl, q _ (I5.hok.fresh (Nat.le_refl _))⟩
  exact ⟨by rw [List.length_reverse]; exact hz, _, r.reverse, IsTup.new _ _⟩
theorem k_revT {K : PySem.W.Frag} {te : TE} {σ : L2.St} {H : Hp} {Q : VK} (q : te σ H fun x H1 => rRevTX K x H1 Q) : tRevT K te σ H Q := q
theorem k_revTx {K : PySem.W.Frag} {a : Addr} {xs : List V} {H : Hp} {Q : VK} (h : SqT K H a xs) (q : ∀ p H2, H p = none → Same H H2 → H2 p = some (.tup xs.reverse) → Q (.ref p) H2) : rRevTX K (.ref a) H Q := ⟨a, xs, rfl, h, fun p hp => q p _ hp (same_new hp) upd_same⟩
theorem pe_slStepK {K : PySem.W.Frag} {X : Cx} {e : Expr} {lo hi : Option Expr} {te : TE} {tl th : TO} {c : Int} {k : Nat} {p1 p3 pos : Pos} (hK : X.K = K) (he : PE X e te) (hl : PO X lo tl) (hu : PO X hi th) (c0 : 0 < c) : PE X (.Subscript e (.Slice lo hi (some (.Constant (.int c) k p1)) p3) pos) (tSlSt K te tl th c) := hK ▸ pe_slStep he hl hu c0
theorem pe_revTK {K : PySem.W.Frag} {X : Cx} {e : Expr} {te : TE} {k : Nat} {p1 p2 p3 pos : Pos} (hK : X.K = K) (he : PE X e te) : PE X (.Subscript e (.Slice none none (some (.UnaryOp .USub (.Constant (.int 1) k p1) p2)) p3) pos) (tRevT K te) := hK ▸ pe_revT he
end Gx
/-! ### an error that leaves a list comprehension -/
namespace Gx
open PySem PySem.Spec PyProof.Rows L2
theorem noteFrame_frame {e : Value} {a b : Env} (h : a.frame = b.frame) : noteFrame e a = noteFrame e b := by
  unfold noteFrame PySem.frameOf
  rw [h]
theorem passOn_frame {α : Type} {what : String} {e : Value} {a b : Env} (h : a.frame = b.frame) : (passOn what e a : Sem α) = passOn what e b := by
  unfold PySem.passOn
  rw [h]
section
variable {M : Model} {A : Around} {E : Value → Shared → Prop} {s : Shared} {env : Env}
def compPostE (M : Model) (A : Around) (E : Value → Shared → Prop) (use : Option (Value → Sem Unit)) (Q : Value → Shared → Prop) (acc : Value) (cenv : Env) (r : Result) (s' : Shared) : Prop :=
  match r, use with
  | .ok _, none => ∃ m, s'.heap.Ns cenv.locals m ∧ ∀ h', Heap.SameBut cenv.locals s'.heap h' → Q acc { s' with heap := h' }
  | .ok _, some u => wpAny M A (u acc) (fun _ s'' => ∃ m, s''.heap.Ns cenv.locals m ∧ ∀ h', Heap.SameBut cenv.locals s''.heap h' → Q .none { s'' with heap := h' }) E s'
  | .error x, _ => ∃ m, s'.heap.Ns cenv.locals m ∧ ∀ h', Heap.SameBut cenv.locals s'.heap h' → wpAny M A (passOn "comprehension.variables-let-go" x cenv : Sem Value) (fun _ _ => False) E { s' with heap := h' }
theorem comp_freeE {e : Expr} {scope : Scope} {pos : Pos} {newAcc first : Sem Value} {g : Comprehension} {gs : List Comprehension} {cl : List (Str × Addr)} {use : Option (Value → Sem Unit)}
    {Q : Value → Shared → Prop}
    (hcl : clausesOf e = g :: gs) (hs : ∀ x, foldedSetIterable g.iter env x = pure x) (hclos : closureFor scope env = pure cl)
    (hkind : scope.kind = .function) (hnames : ∀ x ∈ scope.names, x.2 = .local → scope.names.lookup x.1 = some .local)
    (h : wpAny M A first (fun x s₁ => wpAny M A (pyIter x) (fun it s₂ => wpAny M A newAcc (fun acc s₃ =>
      wpAny M A (newFunctionEnv scope env.globals cl [] env.qual none .none (some env)) (fun cenv s₄ =>
        codeAny M A (.compStart e 0 it acc { cenv with scope := relabel scope env }) (compPostE M A E use Q acc { cenv with scope := relabel scope env }) s₄) E s₃) E s₂) E s₁) E s) :
    wpAny M A (comprehension e scope env pos newAcc false first use) Q E s := by
  unfold comprehension
  rw [hclos, hcl]
  refine wpAny_bind (wpAny_mono h (fun x s₁ h₁ => wpAny_bind (wpAny_standAt (wpAny_bind (wpAny_of_eq (hs x) (wpAny_bind (wpAny_holding (wpAny_mono h₁ (fun it s₂ h₂ =>
    wpAny_standIf (wpAny_bind (wpAny_mono h₂ (fun acc s₃ h₃ => wpAny_bind (wpAny_pure (wpAny_bind (wpAny_mono h₃ (fun cenv s₄ h₄ => ?_) fun _ _ h' => h')))) fun _ _ h' => h')))
      fun _ _ h' => h'))))))) fun _ _ h' => h')
  dsimp only
  have hv : ∀ x ∈ (scope.names.filter fun x => (x.2 == .local || x.2 == .cell) && x.1 != (".0" : Str)).reverse, x.2 = .local →
      Env.kindOf { cenv with scope := relabel scope env } x.1 = some .local := fun x hx hl => lookup_relabel_local (hnames x (List.mem_filter.mp (List.mem_reverse.mp hx)).1 hl)
  have hv' : ∀ x ∈ (scope.names.filter fun x => (x.2 == .local || x.2 == .cell) && x.1 != (".0" : Str)).reverse.drop 1 ++ (scope.names.filter fun x => (x.2 == .local || x.2 == .cell) && x.1 != (".0" : Str)).reverse.take 1,
      x.2 = .local → Env.kindOf { cenv with scope := relabel scope env } x.1 = some .local := fun x hx hl => by
    rcases List.mem_append.mp hx with h1 | h1
    · exact hv x (List.mem_of_mem_drop h1) hl
    · exact hv x (List.mem_of_mem_take h1) hl
  refine wpAny_holding (wpAny_bind (wpAny_attempt (wpAny_holding (wpAny_run (codeAny_mono h₄ fun r s' hr => ?_)))))
  cases r with
  | ok f =>
    cases use with
    | none =>
      obtain ⟨m, hn, hr⟩ := hr
      exact wpAny_bind (wpAny_holding (wpAny_comp_letGo (cenv := { cenv with scope := relabel scope env }) hkind _ s' m hv hn fun h' m' _ hs' => wpAny_pure (hr h' hs')))
    | some u =>
      refine wpAny_bind (wpAny_rule (wpAny_bind (wpAny_holding (wpAny_mono hr (fun _ s'' hr' => ?_) fun _ _ h' => h'))))
      obtain ⟨m, hn, hr'⟩ := hr'
      exact wpAny_bind (wpAny_comp_letGo (cenv := { cenv with scope := relabel scope env }) hkind _ s'' m hv' hn fun h' m' _ hs' => wpAny_pure (hr' h' hs'))
  | error x =>
    have hr' : ∃ m, s'.heap.Ns cenv.locals m ∧ ∀ h', Heap.SameBut cenv.locals s'.heap h' → wpAny M A (passOn "comprehension.variables-let-go" x { cenv with scope := relabel scope env } : Sem Value) (fun _ _ => False) E { s' with heap := h' } := by cases use <;> exact hr
    obtain ⟨m, hn, hr⟩ := hr'
    exact wpAny_bind (wpAny_holding (wpAny_comp_letGo (cenv := { cenv with scope := relabel scope env }) hkind _ s' m hv hn fun h' m' _ hs' => wpAny_mono (hr h' hs') (fun _ _ f => f.elim) fun _ _ y => y))
end
/-- an error in the air of a block, let out by a call -/
def XB (Y : Cx) (E : XK) (u : Value) (s' : Shared) : Prop :=
  ∃ (a : Addr) (B : Heap) (sI : Shared) (pins : List (Addr × Obj)) (σ : L2.St) (H : Hp) (cls : Value) (d : Option Addr),
    u = .ref a ∧ Inv Y pins σ H sI ∧ (∀ b o, sI.heap.get? b = some o → b ∉ frs Y.stack → B.get? b = some o) ∧ sI.heap.UpToSlots s'.heap ∧
      HandSPX.FlyingZ B Y.stack a (Zc cls d) s'.heap ∧ H a = none ∧ s'.os = sI.os ∧ AllBare s'.gens ∧ E cls d H
theorem XB.of_call {X : Cx} {pins : List (Addr × Obj)} {σ : L2.St} {H : Hp} {s s' : Shared} {E : XK} (I : Inv X pins σ H s) {u : Value} (c : CX X.prog X.w X.stack H s E u s') : XB X E u s' := by
  obtain ⟨a, B, H', cls, d, rfl, fl, hok, ub, na, os, ag, hE⟩ := c
  obtain ⟨G, g1, g2⟩ := restrict s'.heap fun b => (B.get? b).isSome || decide (b ∈ frs X.stack)
  have st : B.StaysIn s'.heap := fl.1
  have gB : ∀ b o, B.get? b = some o → G.get? b = some o := fun b o e => by
    rw [g1 b (by simp [e])]
    exact st b o e
  have gF : ∀ b, b ∈ frs X.stack → G.get? b = s'.heap.get? b := fun b hb => g1 b (by simp [hb])
  have og : ∀ b o, G.get? b = some o → s'.heap.get? b = some o ∧ ((B.get? b).isSome = true ∨ b ∈ frs X.stack) := fun b o e => by
    cases q : ((B.get? b).isSome || decide (b ∈ frs X.stack)) with
    | false => rw [g2 b q] at e; cases e
    | true =>
      rw [g1 b q] at e
      exact ⟨e, by simpa [Bool.or_eq_true] using q⟩
  refine ⟨a, B, { s with heap := G, gens := s'.gens, drawn := s'.drawn, toks := s'.toks }, pins, σ, H', cls, d, rfl, ?_, fun b o e hb => ?_, Heap.UpToSlots.of_keeps fun b o e => (og b o e).1, fl, na, os, ag, hE⟩
  · refine I.call (ch := []) ⟨fun b o e n hb _ => gB b o (ub.keep b o e n hb), fun b o e n hb _ => ?_, fun b o e n _ => ub.free b o e n, fun b o e _ => ?_, ub.tups, ub.frzs, ub.tbls⟩ (hok.kept gB) ag (fun _ z => nomatch z)
    · obtain ⟨sl, q⟩ := ub.slot b o e hb
      exact ⟨sl, by rw [gF b hb]; exact q⟩
    · by_cases hb : b ∈ frs X.stack
      · obtain ⟨sl, q⟩ := ub.slot b o e hb
        exact ⟨_, by rw [gF b hb]; exact q⟩
      · obtain ⟨o', q⟩ := ub.there b o e hb
        exact ⟨o', gB b o' q⟩
  · obtain ⟨e', h⟩ := og b o e
    rcases h with h | h
    · obtain ⟨o', q⟩ := Option.isSome_iff_exists.mp h
      have z := st b o' q
      rw [e'] at z; cases z
      exact q
    · exact absurd h hb
/-- the block's context where an element may let an error out -/
abbrev blkE (X : Cx) (s : Shared) (H : Hp) (scope : Scope) (cenv : Env) (fp : List Addr) (E : XK) : Cx := (X.blk s H scope cenv fp).tr [] (XB (X.blk s H scope cenv fp) E)
theorem inv_toE {X : Cx} {s s' : Shared} {H H' : Hp} {scope : Scope} {cenv : Env} {fp : List Addr} {E : XK} {pins : List (Addr × Obj)} {σ : L2.St} (I : Inv (X.blk s H scope cenv fp) pins σ H' s') : Inv (blkE X s H scope cenv fp E) pins σ H' s' :=
  ⟨I.ok.toTry _ _, I.os, I.bare, I.base, I.loc, I.cell, I.free, I.freeC, I.pin, I.hok, I.len⟩
theorem inv_ofE {X : Cx} {s s' : Shared} {H H' : Hp} {scope : Scope} {cenv : Env} {fp : List Addr} {E : XK} {pins : List (Addr × Obj)} {σ : L2.St} (I : Inv (blkE X s H scope cenv fp E) pins σ H' s') : Inv (X.blk s H scope cenv fp) pins σ H' s' :=
  ⟨I.ok.ofTry, I.os, I.bare, I.base, I.loc, I.cell, I.free, I.freeC, I.pin, I.hok, I.len⟩
theorem passB {X : Cx} {s : Shared} {H : Hp} {scope : Scope} {cenv : Env} {fp : List Addr} {E : XK} : Passes (L2.CX X.prog X.w) (blkE X s H scope cenv fp E) E := fun _ _ _ _ _ _ I c => XB.of_call (inv_ofE I) c
theorem funFrames_but {h h' B B' : Heap} {C : Addr} : ∀ {l : List Env}, h.FunFrames B l → (∀ L ∈ frs l, L ≠ C) → (∀ b o, b ≠ C → h.get? b = some o → h'.get? b = some o) → (∀ b, B.get? b = none → B'.get? b = none) → h'.FunFrames B' l
  | [], _, _, _, _ => trivial
  | env :: l, ⟨hk, ⟨L, o, hf, hb, ho, hd⟩, hr⟩, hC, hh, hB =>
    ⟨hk, ⟨L, o, hf, hB L hb, hh L o (hC L (List.mem_filterMap.mpr ⟨env, List.mem_cons_self, hf⟩)) ho, hd⟩, funFrames_but hr (fun b hb => by
      obtain ⟨e, he, q⟩ := List.mem_filterMap.mp hb
      exact hC b (List.mem_filterMap.mpr ⟨e, List.mem_cons_of_mem _ he, q⟩)) hh hB⟩
/-- a block's error, back in the def -/
theorem XB.out {X : Cx} {pins : List (Addr × Obj)} {σ : L2.St} {H3 : Hp} {s3 s' : Shared} {scope : Scope} {ce : Env} {fp : List Addr} {EE : XK} {use : Option (Value → Sem Unit)} {Qf : Value → Shared → Prop} {acc : Value}
    (tk : Takes X (fun cls d _ H => EE cls d H)) (hs : X.stack = X.env :: X.outer) (hf : X.env.frame = some X.env.locals) (I3 : Inv X pins σ H3 s3) (cf : ce.frame = X.env.frame) (cL : ce.locals = s3.heap.objs.size)
    (f3 : ∀ b ∈ fp, (b ∈ X.ex ∨ X.s_0.heap.objs.size ≤ b) ∧ b ≠ X.env.locals ∧ (∀ x c, X.env.cells.lookup x = some c → c ≠ b) ∧ ∀ p ∈ X.pn ++ pins, p.1 ≠ b) {u : Value} (x : XB (X.blk s3 H3 scope ce fp) EE u s') :
    notedBy (model X.prog X.w) X.A ce (fun e s'' => compPostE (model X.prog X.w) X.A X.xe use Qf acc ce (.error e) s'') u s' := by
  obtain ⟨a, B, sI, pins', σ', H', cls, d, rfl, J, nb, up, fl, na, os, ag, w⟩ := x
  have hfr : X.A.frames = some (X.env :: X.outer) := by rw [I3.ok.frames, hs]
  have fl' : HandSPX.FlyingZ B (X.env :: X.outer) a (Zc cls d) s'.heap := by rw [← hs]; exact fl
  show wpAny _ X.A (noteFrame (.ref a) ce) _ _ _
  rw [noteFrame_frame cf]
  refine HandSPX.looks_onZ Zc.steady hfr hf fl' fun h3 hh3 up3 => ?_
  obtain ⟨m, hn, _⟩ := J.loc
  have hn : sI.heap.Ns ce.locals m := hn
  have hn3 : h3.Ns ce.locals m := up3.ns (up.ns hn)
  have goal : ∃ m, h3.Ns ce.locals m ∧ ∀ h', Heap.SameBut ce.locals h3 h' → wpAny (model X.prog X.w) X.A (passOn "comprehension.variables-let-go" (.ref a) ce : Sem Value) (fun _ _ => False) X.xe { s' with heap := h' } := by
    refine ⟨m, hn3, fun h4 sb => ?_⟩
    have nC : H' ce.locals = none := J.free
    -- everything but the block's own names
    obtain ⟨G, g1, g2⟩ := restrict sI.heap fun b => decide (b ≠ ce.locals)
    obtain ⟨B', b1, b2⟩ := restrict B fun b => decide (b ≠ ce.locals)
    have gG : ∀ b o, b ≠ ce.locals → sI.heap.get? b = some o → G.get? b = some o := fun b o n e => by rw [g1 b (decide_eq_true n)]; exact e
    have oG : ∀ b o, G.get? b = some o → b ≠ ce.locals ∧ sI.heap.get? b = some o := fun b o e => by
      by_cases n : b = ce.locals
      · rw [g2 b (by simp [n])] at e; cases e
      · rw [g1 b (decide_eq_true n)] at e
        exact ⟨n, e⟩
    have oB : ∀ b o, B'.get? b = some o → b ≠ ce.locals ∧ B.get? b = some o := fun b o e => by
      by_cases n : b = ce.locals
      · rw [b2 b (by simp [n])] at e; cases e
      · rw [b1 b (decide_eq_true n)] at e
        exact ⟨n, e⟩
    have nB : ∀ b, B.get? b = none → B'.get? b = none := fun b e => by
      cases q : B'.get? b with
      | none => rfl
      | some o => rw [(oB b o q).2] at e; cases e
    have stF : ∀ b ∈ frs X.stack, b ≠ ce.locals := fun b hb => by
      obtain ⟨_, o, e, _⟩ := I3.stack.mem hb
      rw [cL]
      exact Nat.ne_of_lt (Heap.lt_size e)
    have stF' : ∀ b ∈ frs (X.env :: X.outer), b ≠ ce.locals := fun b hb => stF b (by rw [hs]; exact hb)
    have h34 : ∀ b o, b ≠ ce.locals → h3.get? b = some o → h4.get? b = some o := fun b o n e => (sb.2 b n).trans e
    obtain ⟨od, es, ep, hC3, hCd, _⟩ := hn3
    have rec_ne : ∀ {b : Addr} {o : Obj} {vs : Array Value}, h3.get? b = some o → o.data = .fields vs → b ≠ ce.locals := fun {b o vs} e q z => by
      rw [z, hC3] at e
      cases e
      rw [hCd] at q
      cases q
    obtain ⟨k1, k2, k3, oe, vs, T, oT, ts, he, hz, hd, h1, hnT, hTe, hT, hdT, ht⟩ := hh3
    have hh4 : HandSPX.HeldZ B' (X.env :: X.outer) a (Zc cls d) X.env.locals h4 :=
      ⟨fun b o e => h34 b o (oB b o e).1 (k1 b o (oB b o e).2), nB a k2, funFrames_but k3 stF' h34 nB, oe, vs, T, oT, ts, h34 a oe (rec_ne he hd) he, hz, hd, h1, nB T hnT, hTe, h34 T oT (rec_ne hT hdT) hT, hdT, ht⟩
    rw [passOn_frame cf]
    unfold PySem.passOn
    refine wpAny_bind (wpAny_field (h34 a oe (rec_ne he hd) he) hd h1 ?_)
    rw [if_neg (show ¬ ((Value.ref T == Value.none) = true) from by simp)]
    have fin : wpAny (model X.prog X.w) X.A (setFlight (.ref a) X.env.frame) (fun _ s4 => wpAny (model X.prog X.w) X.A (throw (.ref a) : Sem Value) (fun _ _ => False) X.xe s4) X.xe { s' with heap := h4 } := by
      rw [hf]
      refine HandSPX.setFlight_onZ hh4 fun h5 hh5 up5 => wpAny_throw (tk _ _ ?_)
      refine ⟨a, B', { sI with heap := G }, pins, σ, H', cls, d, rfl, ?_, fun b o e hb => ?_, fun b o e hnf => ?_, .inr (.inr (by rw [hs]; exact hh5)), na, os, ag, w⟩
      · have ub : Un (frs X.stack) fp H3 H' s3.heap sI.heap := J.base
        have lt : ∀ b o, s3.heap.get? b = some o → b ≠ ce.locals := fun b o e z => by
          have := Heap.lt_size e
          rw [z, cL] at this
          exact Nat.lt_irrefl _ this
        refine I3.call' (ch := fp) J.os ⟨fun b o e n hb hx => gG b o (lt b o e) (ub.keep b o e n hb hx), fun b o e n hb hx => ?_, ub.free, fun b o e hx => ?_, ub.tups, ub.frzs, ub.tbls⟩ (fun b o q => (J.hok b o q).stay (fun c v hc r => gG c v (fun z => ?_) r) (fun _ r => r) fun _ _ r => r) J.bare f3
        · obtain ⟨sl, q⟩ := ub.slot b o e n hb hx
          exact ⟨sl, gG _ _ (lt b o e) q⟩
        · obtain ⟨o', q⟩ := ub.there b o e hx
          exact ⟨o', gG _ _ (lt b o e) q⟩
        · rcases hc with hc | hc
          · rw [← hc, z, nC] at q; cases q
          · rw [z, nC] at hc; cases hc
      · obtain ⟨n, e1⟩ := oG b o e
        rw [b1 b (decide_eq_true n)]
        exact nb b o e1 hb
      · obtain ⟨n, e1⟩ := oG b o e
        obtain ⟨sl, e2⟩ := up b o e1 hnf
        obtain ⟨sl3, e3⟩ := up3 b _ e2 hnf
        obtain ⟨sl5, e5⟩ := up5 b { o with slots := sl3 } (h34 b { o with slots := sl3 } n e3) hnf
        exact ⟨sl5, e5⟩
    first
      | exact wpAny_bind (wpAny_pure (wpAny_bind fin))
      | exact wpAny_bind fin
  cases use <;> exact goal
section
variable {X : Cx}
theorem lcE_core {pins : List (Addr × Obj)} {s : Shared} {σ : L2.St} {H : Hp} {Q : VK} {EE : XK} {elt tg iter : Expr} {ifs : List Expr} {scope : Scope} {own : List (Str × Nat)} {pos pos' : Pos} {wi : TI} {g : TG} {tt : TT} {te : TE} {use : Option (Value → Sem Unit)} {Qf : Value → Shared → Prop}
    (tk : Takes X (fun cls d _ H => EE cls d H)) (hst : X.stack = X.env :: X.outer) (hfm : X.env.frame = some X.env.locals)
    (hc : X.calm = true) (hN : X.N.Nodup) (I : Inv X pins σ H s) (hi : PI X tg iter wi) (ok : BlkOk X.N X.env.scope scope own)
    (hg : ∀ (s : Shared) (H : Hp) (C : Addr) (cl : List (Str × Addr)) (fp : List Addr), PG (X.blk s H scope (compEnvC scope cl C X.env) fp) tg g) (ht : ∀ (s : Shared) (H : Hp) (C : Addr) (cl : List (Str × Addr)) (fp : List Addr), PTs (X.blk s H scope (compEnvC scope cl C X.env) fp) ifs tt)
    (he : ∀ (s : Shared) (H : Hp) (C : Addr) (cl : List (Str × Addr)) (fp : List Addr), PE (blkE X s H scope (compEnvC scope cl C X.env) fp EE) elt te) (hs : ∀ x, foldedSetIterable iter X.env x = pure x)
    (h : tLc wi g tt te (own.map (·.2)) σ H Q)
    (hRR : ∀ D ce s' m H', Inv X pins σ H' s' → Q (.ref D) H' → s'.heap.Ns ce.locals m → FpOk X pins H' ce.locals → compPostE (model X.prog X.w) X.A X.xe use Qf (.ref D) ce (.ok .next) s') :
    wpAny (model X.prog X.w) X.A (comprehension (.ListComp elt [⟨tg, iter, ifs, 0⟩] scope pos) scope X.env pos' (newList []) false (eval iter X.env) use) Qf X.xe s := by
  have hfree : ∀ y ∈ scope.names, y.2 = .free → ∃ c, X.env.cells.lookup y.1 = some c := fun y hy e => by
    rcases ok.free y hy e with k | k
    · exact I.ok.has _ (.inl k)
    · exact I.ok.has _ (.inr k)
  refine comp_freeE (use := use) rfl hs (closure_ok hfree) ok.kind (fun y hy e => by rw [ok.uniq y hy, e])
    (thn (hi.run pins s σ H _ I h) fun xv s1 hx => thn hx fun itv s2 h2 => ?_)
  obtain ⟨it, fp, tn, J, H2, e, I2, T, st2, f2, q⟩ := h2
  subst e
  refine wpAny_newObj_type (newEnv_comp ?_) (by show 0 ≤ sizeLine; decide)
  generalize hD : s2.heap.objs.size = D
  have hDn : H2 D = none := I2.hok.fresh (Nat.le_of_eq hD)
  obtain ⟨W, ⟨m0, w0⟩, turn⟩ := q D hDn
  -- the new list
  generalize hs3 : ({ s2 with heap := s2.heap.push { cls := .type "list", data := .seq ([] : List Value).toArray } } : Shared) = s3
  have I3 : Inv X pins σ (upd H2 D (.lst [])) s3 := by
    rw [← hs3]
    refine I2.laid (t' := s2.toks) (fun b o e => Heap.get?_push_of_some _ e) (Nat.le_of_eq hD) ⟨Nat.zero_le _, [], 0, .nil, ?_⟩
    rw [← hD]
    exact Heap.get?_push_size _ rfl
  have h3 : s3.heap = s2.heap.push { cls := .type "list", data := .seq ([] : List Value).toArray } := by rw [← hs3]
  have sz : ∀ b ∈ fp, b < s2.heap.objs.size := fun b hb => by
    obtain ⟨o, e, _⟩ := T.obj _ _ st2 b hb
    exact Heap.lt_size e
  have f3 : ∀ b ∈ fp, FpOk X pins (upd H2 D (.lst [])) b ∧ b < s3.heap.objs.size := fun b hb => by
    have hlt := sz b hb
    refine ⟨⟨?_, (f2 b hb).2⟩, by rw [h3, Heap.size_push]; exact Nat.lt_succ_of_lt hlt⟩
    rw [upd_ne (by rw [← hD]; exact Nat.ne_of_lt hlt)]
    exact (f2 b hb).1
  have st3 : tn 0 s3.heap := T.keep _ _ _ st2 fun b _ o e => by rw [h3]; exact Heap.get?_push_of_some _ e
  have I4 := block_start I3 ok hN f3
  have pg := hg s3 (upd H2 D (.lst [])) s3.heap.objs.size (cellsFrom (s3.heap.objs.size + 1) scope.names (cloFrom X.env.cells scope.names [])) fp
  have pt := ht s3 (upd H2 D (.lst [])) s3.heap.objs.size (cellsFrom (s3.heap.objs.size + 1) scope.names (cloFrom X.env.cells scope.names [])) fp
  have pe := he s3 (upd H2 D (.lst [])) s3.heap.objs.size (cellsFrom (s3.heap.objs.size + 1) scope.names (cloFrom X.env.cells scope.names [])) fp
  show codeAny _ _ (.compStart (.ListComp elt [⟨tg, iter, ifs, 0⟩] scope pos) 0 (.ref it) (.ref D) (compEnvC scope (cellsFrom (s3.heap.objs.size + 1) scope.names (cloFrom X.env.cells scope.names [])) s3.heap.objs.size X.env)) (compPostE (model X.prog X.w) X.A X.xe use Qf (.ref D) (compEnvC scope (cellsFrom (s3.heap.objs.size + 1) scope.names (cloFrom X.env.cells scope.names [])) s3.heap.objs.size X.env)) { s3 with heap := pushCells (s3.heap.push { cls := .type "dict", data := .dict #[] }) scope.names }
  have nfp : ∀ b ∈ fp, (upd H2 D (.lst [])) b = none := fun b hb => (f3 b hb).1.1
  generalize hce : compEnvC scope (cellsFrom (s3.heap.objs.size + 1) scope.names (cloFrom X.env.cells scope.names [])) s3.heap.objs.size X.env = ce at I4 pg pt pe ⊢
  have cL : ce.locals = s3.heap.objs.size := by subst hce; rfl
  have cf : ce.frame = X.env.frame := by subst hce; rfl
  generalize hH3 : upd H2 D (.lst []) = H3 at I3 I4 pg pt pe w0 nfp f3
  generalize hs4 : ({ s3 with heap := pushCells (s3.heap.push { cls := .type "dict", data := .dict #[] }) scope.names } : Shared) = s4 at I4 ⊢
  have st4 : tn 0 s4.heap := T.keep _ _ _ st3 fun b _ o e => by rw [← hs4]; exact pushCells_keeps _ _ _ _ (Heap.get?_push_of_some _ e)
  have stat : ∀ {σ' : L2.St} {H' : Hp} {s' : Shared}, Inv (X.blk s3 H3 scope ce fp) [] σ' H' s' → (∀ b ∈ fp, H' b = none) → ∀ b ∈ fp, FpOk (X.blk s3 H3 scope ce fp) [] H' b := fun {σ' H' s'} I' hn b hb =>
    ⟨hn b hb, (I'.ok.exf b hb).1, I'.ok.exfs b hb, .inl hb, fun x c e => (I'.ok.exf b hb).2 x c e, fun p hp => absurd (show p ∈ ([] : List (Addr × Obj)) ++ [] from hp) (by simp)⟩
  have f3' : ∀ b ∈ fp, (b ∈ X.ex ∨ X.s_0.heap.objs.size ≤ b) ∧ b ≠ X.env.locals ∧ (∀ x c, X.env.cells.lookup x = some c → c ≠ b) ∧ ∀ p ∈ X.pn ++ pins, p.1 ≠ b := fun b hb => ⟨(f3 b hb).1.2.2.2.1, (f3 b hb).1.2.1, (f3 b hb).1.2.2.2.2.1, (f3 b hb).1.2.2.2.2.2⟩
  have loop : codeAny (model X.prog X.w) X.A (.compLoop (.ListComp elt [⟨tg, iter, ifs, 0⟩] scope pos) 0 (.ref it) (.ref D) ce) (compPostE (model X.prog X.w) X.A X.xe use Qf (.ref D) ce) s4 := by
    refine compLoop_any (fun n s' => ∃ i H', Inv (X.blk s3 H3 scope ce fp) [] (wipe σ (own.map (·.2))) H' s' ∧ tn i s'.heap ∧ (∀ b ∈ fp, H' b = none) ∧ W i n H') ?_ m0 ⟨0, H3, I4, st4, nfp, w0⟩
    rintro n s5 ⟨i, H5, I5, st5, n5, w5⟩
    rcases turn i n H5 w5 with ⟨stop, qq⟩ | ⟨go, Nx, hNx, step⟩
    · have td := T.done (X.blk s3 H3 scope ce fp) rfl rfl rfl hc i [] s5 _ H5 (fun _ _ => False) I5 (stat I5 n5) st5 stop
      refine thnF td fun r s6 ⟨hr, I6⟩ => ?_
      subst hr
      have I7 : Inv X pins σ H5 s6 := I3.call' (ch := fp) I6.os I6.base I6.hok I6.bare f3'
      have nC : H5 s3.heap.objs.size = none := by
        have z : H5 ce.locals = none := I6.free
        rw [cL] at z
        exact z
      obtain ⟨m, hn, _⟩ := I6.loc
      have hn : s6.heap.Ns ce.locals m := hn
      exact hRR D ce s6 m H5 I7 qq hn (by rw [cL]; exact I3.fpOk (Nat.le_refl _) nC)
    · have ti := T.item (X.blk s3 H3 scope ce fp) rfl rfl rfl hc i [] s5 _ H5 (fun _ _ => False) I5 (stat I5 n5) st5 go
      refine thnF ti fun r s6 ⟨u, hr, h6⟩ => ?_
      subst hr
      refine thnF h6 fun _ s7 ⟨x, H7, I7, r7, y7, st7, n7⟩ => ?_
      have I7' := I7.pinned (stat I7 n7) (T.obj _ _ st7)
      refine thnF (pg.run _ s7 _ H7 x u _ I7' r7 (step x H7 y7)) fun _ s8 ⟨σ8, H8, I8, hw8, q8⟩ => ?_
      refine thnF (pt.run _ s8 σ8 H8 _ I8 q8) fun b s9 ⟨H9, I9, q9⟩ => ?_
      have fin : ∀ {s' : Shared} {H' : Hp}, Inv (X.blk s3 H3 scope ce fp) ([] ++ pinsAt fp s7.heap) σ8 H' s' → Nx H' → ∃ m, m < n ∧ ∃ i H', Inv (X.blk s3 H3 scope ce fp) [] (wipe σ (own.map (·.2))) H' s' ∧ tn i s'.heap ∧ (∀ b ∈ fp, H' b = none) ∧ W i m H' := fun {s' H'} I' nx => by
        obtain ⟨m', hm, w'⟩ := hNx H' nx
        have pin' : ∀ b ∈ fp, ∀ o, s7.heap.get? b = some o → s'.heap.get? b = some o ∧ H' b = none := fun b hb o e =>
          let z := I'.pin (b, o) (List.mem_append_right _ (List.mem_append_right _ (mem_pinsAt hb e)))
          ⟨z.1, z.2.1⟩
        have hl : (wipe σ (own.map (·.2))).length = σ8.length := by rw [← hw8, wipe_length]
        refine ⟨m', hm, i + 1, H', (I'.unpinned (pins := [])).weak hl (fun j v e => ?_), T.keep _ _ _ st7 fun b hb o e => (pin' b hb o e).1, fun b hb => ?_, w'⟩
        · rw [← hw8] at e
          exact (wipe_some e).1
        · obtain ⟨o, e, _⟩ := T.obj _ _ st7 b hb
          exact (pin' b hb o e).2
      cases b with
      | false =>
        simp only [Bool.false_eq_true, if_false] at q9 ⊢
        exact fin I9 q9
      | true =>
        simp only [if_true] at q9 ⊢
        refine wpAny_mono (pe.run _ s9 σ8 H9 _ (inv_toE I9) q9) (fun z s10 ⟨yv, H10, I10, r10, acc, hD10, hz10, nx⟩ => ?_) fun u s10 xb => XB.out tk hst hfm I3 cf cL f3' xb
        exact app_ok (X := X.blk s3 H3 scope ce fp) (inv_ofE I10) hD10 hz10 r10 fun s11 I11 => fin I11 nx
  exact codeAny_compStart_list loop (T.self X.A 0 _ _ _ st4 loop)
/-- as a value -/
theorem pe_lcE {EE : XK} {elt tg iter : Expr} {ifs : List Expr} {scope : Scope} {own : List (Str × Nat)} {pos : Pos} {wi : TI} {g : TG} {tt : TT} {te : TE} (tk : Takes X (fun cls d _ H => EE cls d H)) (hst : X.stack = X.env :: X.outer) (hfm : X.env.frame = some X.env.locals) (hc : X.calm = true) (hN : X.N.Nodup) (hi : PI X tg iter wi) (ok : BlkOk X.N X.env.scope scope own)
    (hg : ∀ (s : Shared) (H : Hp) (C : Addr) (cl : List (Str × Addr)) (fp : List Addr), PG (X.blk s H scope (compEnvC scope cl C X.env) fp) tg g) (ht : ∀ (s : Shared) (H : Hp) (C : Addr) (cl : List (Str × Addr)) (fp : List Addr), PTs (X.blk s H scope (compEnvC scope cl C X.env) fp) ifs tt)
    (he : ∀ (s : Shared) (H : Hp) (C : Addr) (cl : List (Str × Addr)) (fp : List Addr), PE (blkE X s H scope (compEnvC scope cl C X.env) fp EE) elt te) (hs : ∀ x, foldedSetIterable iter X.env x = pure x := by intro _; rfl) :
    PE X (.ListComp elt [⟨tg, iter, ifs, 0⟩] scope pos) (tLc wi g tt te (own.map (·.2))) := by
  refine ⟨fun pins s σ H Q I h => ?_⟩
  rw [eval_ListComp]
  refine lcE_core tk hst hfm hc hN I hi ok hg ht he hs h fun D ce s' m H' I' q hn f => ⟨m, hn, fun h'' sb => ?_⟩
  obtain ⟨f0, f1, f2, f3, f4, f5⟩ := f
  exact ⟨.ref D, H', I'.turned (t' := s'.toks) (fun b o hb e => (sb.2 b hb).trans e) f0 f1 f3 f4 f5, rfl, q⟩
/-- name = [..] on one line, the name a local -/
theorem ps_setLcE {EE : XK} {i : Nat} {y : Str} {py : Pos} {elt tg iter : Expr} {ifs : List Expr} {scope : Scope} {own : List (Str × Nat)} {pos spos : Pos} {wi : TI} {g : TG} {tt : TT} {te : TE} (tk : Takes X (fun cls d _ H => EE cls d H)) (hst : X.stack = X.env :: X.outer) (hfm : X.env.frame = some X.env.locals) (hc : X.calm = true) (hN : X.N.Nodup) (hy : X.N[i]? = some y) (hyl : X.env.scope.names.lookup y = some .local)
    (hsw : swapsWith (.ListComp elt [⟨tg, iter, ifs, 0⟩] scope pos) (some (.Name y py)) spos.line X.env = pure true) (hi : PI X tg iter wi) (ok : BlkOk X.N X.env.scope scope own)
    (hg : ∀ (s : Shared) (H : Hp) (C : Addr) (cl : List (Str × Addr)) (fp : List Addr), PG (X.blk s H scope (compEnvC scope cl C X.env) fp) tg g) (ht : ∀ (s : Shared) (H : Hp) (C : Addr) (cl : List (Str × Addr)) (fp : List Addr), PTs (X.blk s H scope (compEnvC scope cl C X.env) fp) ifs tt)
    (he : ∀ (s : Shared) (H : Hp) (C : Addr) (cl : List (Str × Addr)) (fp : List Addr), PE (blkE X s H scope (compEnvC scope cl C X.env) fp EE) elt te) (hs : ∀ x, foldedSetIterable iter X.env x = pure x := by intro _; rfl) :
    PS X (.Assign [.Name y py] (.ListComp elt [⟨tg, iter, ifs, 0⟩] scope pos) spos) (tAsg (tLc wi g tt te (own.map (·.2))) (gName i)) := by
  refine ⟨fun pins s σ H D I h => ?_⟩
  rw [exec_Assign_Name_used _ _ _ _ hsw]
  refine wpAny_bind (wpAny_standAt (wpAny_bind ?_))
  show wpAny _ X.A (do let _ ← comprehension (.ListComp elt [⟨tg, iter, ifs, 0⟩] scope pos) scope X.env (firstIterPos [⟨tg, iter, ifs, 0⟩] pos) (newList []) false (eval iter X.env) (some (assign (.Name y py) X.env))) _ _ s
  have h : tLc wi g tt te (own.map (·.2)) σ H (fun x H1 => gName i x σ H1 D.nx) := h
  refine wpAny_bind (thn (lcE_core (Qf := fun _ s' => SP X pins D .next s') tk hst hfm hc hN I hi ok hg ht he hs h fun L ce s' m H' I' q hn f => ?_) fun _ s' hq => wpAny_pure (wpAny_pure hq))
  show wpAny _ _ (assign (.Name y py) X.env (.ref L)) _ _ _
  refine wpAny_assign_Name (store_ok2 (v := V.ref L) I' hN hy (.inl hyl) rfl (fun s2 I2 ⟨a, sb, ha⟩ => ?_) (.inr hyl))
  obtain ⟨f0, f1, f2, f3, f4, f5⟩ := f
  have haC : ce.locals ≠ a := by
    rcases ha with z | z
    · rw [z]; exact f1
    · exact fun e => f4 y a z e.symm
  refine ⟨m, hn.sameBut sb haC, fun h3 sb3 => ?_⟩
  exact ⟨_, H', I2.turned (t' := s2.toks) (fun b o hb e => (sb3.2 b hb).trans e) f0 f1 f3 f4 f5, q⟩
end
section
variable {X : Cx} {e o : Expr} {es : List Expr} {p pos apos : Pos} {ta : TE} {t : TA} {C m x : Str} {ps : List Str} {sp : Sp} {j k : Nat} {E : XK}
/-- calls in such a block -/
theorem pcallB (c : Cl X.prog X.w X.K X.mg X.base k x ps sp) (hr : Room j X.A) (hk : k ≤ j) (px : Passes (L2.CX X.prog X.w) X E) (ha : PA X (e :: es) t) (hg : Gl X x := by rfl)
    (he : starEach (e :: es) X.env = (false, eval e X.env) :: starEach es X.env := by rfl) (hpl : (backTo pos (starEach es X.env)).any (·.1) = false := by rfl) (hdb : (x == ("__debug__" : Str)) = false := by decide) :
    PE X (.Call (.Name x p) (e :: es) [] pos) (tCall sp [] E t) := by
  obtain ⟨f, fd, F, m, kp, b⟩ := c.ex
  exact pe_call F (hr.mono hk) hg m kp b .nil px ha hdb he hpl
theorem pmethB {pl : Sem Bool} {K : PySem.W.Frag} (hK : X.K = K) (c : MCl X.prog X.w K X.mg X.base k C m ps sp) (hr : Room j X.A) (hk : k ≤ j) (px : Passes (L2.CX X.prog X.w) X E) (he : PE X o ta) (ha : PA X (e :: es) t)
    (hst : starEach (e :: es) X.env = (false, eval e X.env) :: starEach es X.env := by rfl) (hpl : (backTo pos (starEach es X.env)).any (·.1) = false := by rfl)
    (ht : eval (.Call (.Attribute o m apos) (e :: es) [] pos) X.env = (do
      let ov ← eval o X.env
      standAt apos.atName
      let (f, first) ← holding [ov] (getMethod ov m pl)
      callWith pos f first (backTo pos (starEach (e :: es) X.env)) (backToKw pos (keywordEach [] X.env))) := by rfl) :
    PE X (.Call (.Attribute o m apos) (e :: es) [] pos) (tMethS (He.ga K C) m sp (fun _ => E) ta t) := by
  subst hK
  obtain ⟨f, fd, hc, hm, F, b⟩ := c.ex
  refine ⟨fun pins s σ H Q I h => (pe_meth (pl := pl) he hc hm F (hr.mono hk) b .nil px ha hst hpl ht).run pins s σ H Q I ?_⟩
  simp only [tMeth, List.append_nil]
  exact h
end
end Gx
/-! isinstance(e, (c, c2, ..)), e the error that a suite holds -/
namespace Gx
open PySem PySem.Spec PyProof.Rows L2
def rIsET (K : PySem.W.Frag) (a : Addr) (cls : Value) (d : Option Addr) : List V → Hp → VK → Prop := fun xs H Q => ∃ D : Addr, cls = .ref D ∧ (d = none ∨ ∃ dd fs, d = some dd ∧ H dd = some (.xd fs)) ∧ ExcC K D ∧
  ∃ (tp : Addr) (cs : List V) (us : List Value) (b : Bool), xs = [.ref a, .ref tp] ∧ H tp = some (.tup cs) ∧ PySem.Paired ClsV cs us ∧ PySem.W.kitAny K (.ref D) us = some b ∧ Q (.bl b) H
theorem call_isET {X : Cx} {a : Addr} {cls : Value} {d : Option Addr} {oe : Obj} {pn : List (Addr × Obj)} (hz : Zc cls d oe) (hf : ∃ vs, oe.data = .fields vs) : CallR (X.suite a ((a, oe) :: pn)) (.builtin "isinstance") (rIsET X.K a cls d) := by
  intro pins s σ H xs us Q I r h
  obtain ⟨D, rfl, hd, C, tp, cs, ws, b, rfl, hT, k, e, q⟩ := h
  obtain ⟨u1, u2, rfl, r1, r2⟩ := vals2 r
  cases (show u2 = Value.ref tp from r2)
  cases (show u1 = Value.ref a from r1)
  obtain ⟨_, its, rv, o, h1, h2, n, h3⟩ := (show ObjOk X.prog X.w H s.heap tp (.tup cs) from I.hok tp _ hT)
  have e3 := ClsV.all k rv
  subst e3
  obtain ⟨oc, od, dt, sl⟩ := o
  simp only at h2 h3
  subst h2 h3
  obtain ⟨hget, _⟩ := I.pin (a, oe) (List.mem_append.mpr (.inl List.mem_cons_self))
  obtain ⟨vs, hv⟩ := hf
  rcases hd with rfl | ⟨dd, fs, rfl, hdd⟩
  · have J : PySem.W.InstAt s.heap a oe D none := ⟨hget, hz.1, by unfold PySem.W.notCls; rw [hv] <;> rfl, by rw [hz.2]; exact trivial⟩
    exact PySem.W.kia_tup (PySem.W.kitx_exc (by obtain ⟨cd, hc, _⟩ := PySem.W.any_some C.hd; rw [hc]; rfl) C.hg C.hk C.hs C.ha C.hn C.ht C.hm) I.kIn J h1 e (fun z => nomatch z) fun tk => ⟨.bl b, H, I.kept (t' := tk) fun _ _ z => z, rfl, q⟩
  · have hx : ObjOk X.prog X.w H s.heap dd (.xd fs) := I.hok dd _ hdd
    obtain ⟨mA, hns, hr⟩ := hx
    obtain ⟨od, ho, hl⟩ := lookIn_ns hns
    have J : PySem.W.InstAt s.heap a oe D (some od) := ⟨hget, hz.1, by unfold PySem.W.notCls; rw [hv] <;> rfl, by rw [hz.2]; exact ho⟩
    exact PySem.W.kia_tup (PySem.W.kitx_exc (by obtain ⟨cd, hc, _⟩ := PySem.W.any_some C.hd; rw [hc]; rfl) C.hg C.hk C.hs C.ha C.hn C.ht C.hm) I.kIn J h1 e (fun z => nomatch z) fun tk => ⟨.bl b, H, I.kept (t' := tk) fun _ _ z => z, rfl, q⟩
theorem kany0 {K : PySem.W.Frag} {t : Value} : PySem.W.kitAny K t [] = some false := rfl
theorem kanyF {K : PySem.W.Frag} {t c : Value} {us : List Value} {b : Bool} (h : PySem.W.kitOne K t c = some false) (r : PySem.W.kitAny K t us = some b) : PySem.W.kitAny K t (c :: us) = some b := by
  show (match PySem.W.kitOne K t c with | some true => some true | some false => PySem.W.kitAny K t us | none => none) = some b
  rw [h]
  exact r
theorem kanyT {K : PySem.W.Frag} {t c : Value} {us : List Value} (h : PySem.W.kitOne K t c = some true) : PySem.W.kitAny K t (c :: us) = some true := by
  show (match PySem.W.kitOne K t c with | some true => some true | some false => PySem.W.kitAny K t us | none => none) = some true
  rw [h]
theorem k_isETD {K : PySem.W.Frag} {H : Hp} {Q : VK} {a D dd tp : Addr} {fs : List (Str × V)} {cs : List V} {us : List Value} {b : Bool} (h : H dd = some (.xd fs)) (C : ExcC K D) (ht : H tp = some (.tup cs)) (hp : PySem.Paired ClsV cs us) (hk : PySem.W.kitAny K (.ref D) us = some b) (q : Q (.bl b) H) : rIsET K a (.ref D) (some dd) [.ref a, .ref tp] H Q :=
  ⟨D, rfl, .inr ⟨dd, fs, rfl, h⟩, C, tp, cs, us, b, rfl, ht, hp, hk, q⟩
theorem k_isET {K : PySem.W.Frag} {H : Hp} {Q : VK} {a D tp : Addr} {cs : List V} {us : List Value} {b : Bool} (C : ExcC K D) (ht : H tp = some (.tup cs)) (hp : PySem.Paired ClsV cs us) (hk : PySem.W.kitAny K (.ref D) us = some b) (q : Q (.bl b) H) : rIsET K a (.ref D) none [.ref a, .ref tp] H Q :=
  ⟨D, rfl, .inl rfl, C, tp, cs, us, b, rfl, ht, hp, hk, q⟩
end Gx
/-! all(t), t a tuple; what is never reached -/
namespace Gx
open PySem PySem.Spec PyProof.Rows L2
def rAllT (K : PySem.W.Frag) : List V → Hp → VK → Prop := fun vs H Q => ∃ (a : Addr) (bs : List Bool), vs = [V.ref a] ∧ SqT K H a (bs.map V.bl) ∧ Q (.bl (bs.all id)) H
theorem cr_allT {X : Cx} (hc : X.calm = true) : CallR X (.builtin "all") (rAllT X.K) := by
  intro pins s σ H vs us Q I r h
  obtain ⟨a, bs, rfl, hs, q⟩ := h
  obtain ⟨its, rv, hl, _⟩ := I.tuple hs
  rw [Vals.ref1 r]
  have hb := rv.bls
  have hlt : a < s.heap.objs.size := hl.lt
  refine call_all_walk (wpAny_pyIter_tuple hl ?_)
  refine ⟨_, _, _, _, _, _, _, rfl, Walks.tuple (A := X.A.in1) (I.ok.hd hc) _ a (Nat.ne_of_lt hlt) its.toArray, ⟨⟨_, Heap.get?_push_size _ rfl, rfl, rfl⟩, hl.push _⟩, truth_bools hb, fun h' tk hk => ?_⟩
  refine ⟨.bl _, H, I.kept fun b o eo => hk b o (fun hmem => ?_) (Heap.get?_push_of_some _ eo), ?_, q⟩
  · rcases List.mem_cons.mp hmem with e1 | hmem
    · exact absurd (e1 ▸ Heap.lt_size eo) (Nat.lt_irrefl _)
    · cases hmem
  · show Value.bool _ = Value.bool _
    rw [← L2.all_range, hb, List.size_toArray, List.length_map]
theorem k_allT {K : PySem.W.Frag} {H : Hp} {Q : VK} {a : Addr} {bs : List Bool} (h : SqT K H a (bs.map V.bl)) (q : Q (.bl (bs.all id)) H) : rAllT K [.ref a] H Q := ⟨a, bs, rfl, h, q⟩
end Gx
namespace Gx
open PySem PySem.Spec PyProof.Rows L2
/-- code that is never reached -/
theorem ps_void {X : Cx} {st : Stmt} : PS X st (fun _ _ _ => False) := ⟨fun _ _ _ _ _ _ h => h.elim⟩
theorem pe_void {X : Cx} {e : Expr} : PE X e (fun _ _ _ => False) := ⟨fun _ _ _ _ _ _ h => h.elim⟩
end Gx
/-! x or y, x whatever has a truth -/
namespace Gx
open PySem PySem.Spec PyProof.Rows L2
def tOrU (K : PySem.W.Frag) (ta tb : TE) : TE := fun σ H Q => ta σ H fun x H1 => ∃ k, TruV K x H1 k ∧ if k = true then Q x H1 else tb σ H1 Q
theorem pe_orU {X : Cx} {K : PySem.W.Frag} {a b : Expr} {rest : List Expr} {pos : Pos} {ta tb : TE} (h : X.K = K) (ha : PE X a ta) (hb : PE X (.BoolOp .Or (b :: rest) pos) tb) : PE X (.BoolOp .Or (a :: b :: rest) pos) (tOrU K ta tb) := by
  subst h
  refine ⟨fun pins s σ H Q I h => ?_⟩
  refine BoolOp_or (thn (ha.run pins s σ H _ I h) fun v s1 ⟨x, H1, I1, r1, q1⟩ => ?_)
  obtain ⟨k, e, q1⟩ := q1
  refine thn (tru_ok pins s1 σ H1 x v (fun z H2 => z = k ∧ if k = true then Q x H2 else tb σ H2 Q) I1 r1 ⟨k, e, rfl, q1⟩) fun z s2 ⟨H2, I2, ez, q2⟩ => ?_
  subst ez
  cases z with
  | true => exact ⟨x, H2, I2, r1, q2⟩
  | false => exact hb.run pins s2 σ H2 Q I2 q2
theorem k_orU {K : PySem.W.Frag} {ta tb : TE} {σ : L2.St} {H : Hp} {Q : VK} (q : ta σ H fun x H1 => ∃ k, TruV K x H1 k ∧ if k = true then Q x H1 else tb σ H1 Q) : tOrU K ta tb σ H Q := q
end Gx
/-! dicts by texts -/
namespace Gx
open PySem PySem.Spec PyProof.Rows L2
def rDG (x y : V) (H : Hp) (Q : VK) : Prop := ∃ a v, x = .ref a ∧ DGet H a y (some v) ∧ Q v H
theorem pe_dgN {X : Cx} {k : Nat} {o i : Expr} {pos : Pos} {td ty : TE} (hr : Room k X.A) (ho : PE X o td) (hi : PE X i ty) (hs : NoSl i) : PE X (.Subscript o i pos) (tDGet td ty) := pe_dget (by have := hr.un; omega) ho hi hs
theorem ps_dpN {X : Cx} {k : Nat} {o i value : Expr} {pos pos' : Pos} {td ty tv : TE} (hr : Room k X.A) (ho : PE X o td) (hi : PE X i ty) (hv : PE X value tv) (hs : swapsWith value (some (.Subscript o i pos')) pos.line X.env = pure false) : PS X (.Assign [.Subscript o i pos'] value pos) (sDPut td ty tv) := ps_dput (by have := hr.un; omega) ho hi hv hs
theorem k_dget {td ty : TE} {σ : L2.St} {H : Hp} {Q : VK} (q : td σ H fun x H1 => ty σ H1 fun y H2 => rDG x y H2 Q) : tDGet td ty σ H Q := q
theorem k_dgx {a : Addr} {kvs : List (Key × V)} {z : Str} {v : V} {H : Hp} {Q : VK} (h : H a = some (.dK kvs)) (e : valV kvs (.inr z) = some v) (q : Q v H) : rDG (.ref a) (.str z) H Q := ⟨a, v, rfl, e ▸ DGet.k (k := .inr z) h, q⟩
def rDP (x y v : V) (H : Hp) (N : Hp → Prop) : Prop := ∃ a H4, x = .ref a ∧ DPut H a y v H4 ∧ N H4
theorem k_dput {td ty tv : TE} {D : Ends} {σ : L2.St} {H : Hp} (q : tv σ H fun v H1 => td σ H1 fun x H2 => ty σ H2 fun y H3 => rDP x y v H3 fun H4 => D.nx σ H4) : sDPut td ty tv D σ H := q
theorem putK_le {kvs : List (Key × V)} {k : Key} {v : V} : (putK kvs k v).length ≤ kvs.length + 1 := by
  unfold putK
  split
  · rw [List.length_map]; omega
  · rw [List.length_append]; simp
theorem k_dpx {a : Addr} {kvs : List (Key × V)} {z : Str} {v : V} {H : Hp} {N : Hp → Prop} (h : H a = some (.dK kvs)) (hl : kvs.length < sizeLine) (q : ∀ kvs' H', But a H H' → H' a = some (.dK kvs') → kvs'.length ≤ kvs.length + 1 → (∀ j : Str, valV kvs' (.inr j) = if j = z then some v else valV kvs (.inr j)) → N H') : rDP (.ref a) (.str z) v H N :=
  ⟨a, _, rfl, DPut.k (k := .inr z) h hl, q _ _ But.upd upd_same putK_le fun j => by
    rw [valV_put]
    by_cases e : j = z
    · rw [if_pos e, if_pos (by rw [e])]
    · rw [if_neg e, if_neg fun w => e (Sum.inr.inj w)]⟩
/-- a dict written out -/
def rDispE (p : Addr) (ps : List (V × V)) (H : Hp) (Q : VK) : Prop := H p = some (.dK []) ∧ ∃ kvs : List (Key × V), ps = kvs.map (fun kv => (kV kv.1, kv.2)) ∧ kvs.length ≤ 15 ∧ Q (.ref p) (upd H p (.dK (mergeK [] kvs)))
theorem k_dispG {trs : List (TE × TE)} {σ : L2.St} {H : Hp} {Q : VK} (q : ∀ p H1, H p = none → Same H H1 → H1 p = some (.dK []) → tPairs trs σ H1 fun ps H2 => rDispE p ps H2 Q) : tDisp trs σ H Q := fun p hp => q p _ hp (same_new hp) upd_same
theorem k_pairC {tk tv : TE} {r : List (TE × TE)} {σ : L2.St} {H : Hp} {Q : List (V × V) → Hp → Prop} (q : tk σ H fun x H1 => tv σ H1 fun y H2 => tPairs r σ H2 fun ps H3 => Q ((x, y) :: ps) H3) : tPairs ((tk, tv) :: r) σ H Q := q
theorem k_pair0 {σ : L2.St} {H : Hp} {Q : List (V × V) → Hp → Prop} (q : Q [] H) : tPairs [] σ H Q := q
theorem merge_look : ∀ (zs : List (Str × V)) (acc : List (Key × V)) (j : Str), valV (mergeK acc (zs.map fun z => (Sum.inr z.1, z.2))) (.inr j) = match zs.reverse.lookup j with | some v => some v | none => valV acc (.inr j)
  | [], acc, j => rfl
  | (z, v) :: r, acc, j => by
    have ih := merge_look r (putK acc (.inr z) v) j
    rw [List.map_cons]
    show valV (mergeK (putK acc (.inr z) v) _) _ = _
    rw [ih, valV_put, List.reverse_cons, List.lookup_append]
    cases r.reverse.lookup j with
    | some w => rfl
    | none =>
      by_cases e : j = z
      · subst e
        rw [if_pos rfl]
        simp [List.lookup]
      · have e2 : (j == z) = false := beq_eq_false_iff_ne.mpr e
        rw [if_neg fun w => e (Sum.inr.inj w)]
        simp [List.lookup, e2]
theorem merge_len : ∀ (zs acc : List (Key × V)), (mergeK acc zs).length ≤ acc.length + zs.length
  | [], acc => Nat.le_refl _
  | (k, v) :: r, acc => by
    have := merge_len r (putK acc k v)
    have h := putK_le (kvs := acc) (k := k) (v := v)
    show (mergeK (putK acc k v) r).length ≤ _
    rw [List.length_cons]
    omega
theorem k_dispX {p : Addr} {ps : List (V × V)} {H : Hp} {Q : VK} (zs : List (Str × V)) (h : H p = some (.dK [])) (e : ps = zs.map fun z => (V.str z.1, z.2)) (l : zs.length ≤ 15)
    (q : ∀ kvs H', But p H H' → H' p = some (.dK kvs) → kvs.length ≤ 15 → (∀ j : Str, valV kvs (.inr j) = zs.reverse.lookup j) → Q (.ref p) H') : rDispE p ps H Q := by
  refine ⟨h, zs.map fun z => (Sum.inr z.1, z.2), ?_, by rw [List.length_map]; exact l, q _ _ But.upd upd_same ?_ fun j => ?_⟩
  · rw [e, List.map_map]; rfl
  · have := merge_len (zs.map fun z => ((Sum.inr z.1 : Key), z.2)) []
    rw [List.length_map] at this
    simpa using Nat.le_trans this (by simpa using l)
  · rw [merge_look]
    cases zs.reverse.lookup j <;> rfl
end Gx
namespace Gx
open PySem PySem.Spec PyProof.Rows L2
/-- d[z] = v, where z is a key already -/
theorem k_dpe {a : Addr} {kvs : List (Key × V)} {z : Str} {u v : V} {H : Hp} {N : Hp → Prop} (h : H a = some (.dK kvs)) (e : valV kvs (.inr z) = some u) (hl : kvs.length < sizeLine) (q : ∀ kvs' H', But a H H' → H' a = some (.dK kvs') → kvs'.length = kvs.length → (∀ j : Str, valV kvs' (.inr j) = if j = z then some v else valV kvs (.inr j)) → N H') : rDP (.ref a) (.str z) v H N := by
  have len : (putK kvs (Sum.inr z : Key) v).length = kvs.length := by
    unfold putK
    rw [if_pos (by rw [valV_any, e]; rfl), List.length_map]
  exact ⟨a, _, rfl, DPut.k (k := .inr z) h hl, q _ _ But.upd upd_same len fun j => by
    rw [valV_put]
    by_cases e : j = z
    · rw [if_pos e, if_pos (by rw [e])]
    · rw [if_neg e, if_neg fun w => e (Sum.inr.inj w)]⟩
end Gx
open PySem PySem.Spec PyProof.Rows L2 Gx
local macro_rules | `(tactic| walk_at "s1") => `(tactic| first
  | refine k_var rfl ?_ | refine k_c ?_ | refine k_op ?_ | refine k_seq ?_ | refine k_asg ?_ | refine k_gn ?_ | refine k_gcons ?_ | refine k_gnil ?_ | refine k_ifs ?_ | refine k_tst ?_ | refine k_B ?_ | refine k_bl ?_
  | refine k_ret ?_ | refine k_drop ?_ | refine k_next ?_ | refine k_par ?_ | refine k_two ?_ | refine k_for ?_ | refine k_iRng1 ?_ | refine k_iRng2 ?_ | refine k_iList ?_ | refine k_iTup ?_ | refine k_iSeqU ?_
  | refine k_cb ?_ | refine k_cons ?_ | refine k_nil ?_ | refine k_callS ?_ | refine k_call ?_ | refine k_tup0 ?_ | refine k_lst0 ?_ | refine k_bm0 ?_ | refine k_bm ?_
  | refine k_and ?_ | refine k_or ?_ | refine k_not ?_ | refine k_andV ?_ | refine k_orV ?_ | refine k_notV ?_ | refine k_ife ?_ | refine k_chain ?_ | refine k_un ?_ | refine k_rev ?_ | refine k_st ?_ | refine k_revT ?_
  | refine k_I0 ?_ | refine k_addI ?_ | refine k_eqI ?_ | refine k_neI ?_ | refine k_eqT ?_ | refine k_neT ?_ | refine k_eqB ?_ | refine k_neB ?_ | refine k_neg ?_
  | refine k_dget ?_ | refine k_dput ?_ | refine k_pairC ?_ | refine k_pair0 ?_ | refine k_fld ?_ | refine k_sfld ?_ | refine k_meth ?_ | refine k_make ?_ | refine k_makeB ?_ | refine k_makeS ?_ | refine k_revR ?_ | refine k_iEnum ?_ | refine k_iEnumT ?_ | refine k_isBl ?_ | refine k_notBl ?_ | refine k_lenSetT ?_ | refine k_mk0 ?_ | refine k_mkF ?_ | refine k_iZipM ?_ | refine k_iZipN ?_ | refine k_iStr ?_ | refine k_itS ?_ | refine k_iZipU ?_ | refine k_cntT ?_ | refine k_veI ?_ | refine k_ost ?_ | refine k_xf ?_ | refine k_aug rfl ?_ | refine k_ip ?_ | refine k_frz ?_ | refine k_gsub ?_ | refine k_m1 ?_ | refine k_m0 ?_ | refine k_isS ?_ | refine k_abs ?_ | refine k_max ?_ | refine k_min ?_ | refine k_intI ?_ | refine k_intB ?_ | refine k_lc ?_ | refine k_yes ?_ | refine k_listRg ?_ | refine k_rg1 ?_ | refine k_sl ?_ | refine k_part ?_ | refine k_noPart ?_ | refine k_int ?_ | refine k_dict0 ?_ | refine k_isN ?_ | refine k_notN ?_
  | refine k_nonT ?_ | refine k_nonF ?_ | refine k_refT ?_ | refine k_refF ?_ | refine k_blT ?_ | refine k_blF ?_ | refine k_strT ?_ | refine k_strF ?_ | refine k_ifT ?_ | refine k_ifF ?_ | refine k_ifnT ?_ | refine k_ifnF ?_)
local macro_rules | `(tactic| walk_at "s2") => `(tactic| first
  | refine k_powc (a := 10) (b := 61) (c := 10000000000000000000000000000000000000000000000000000000000000) (by decide +kernel) (cpow (by decide) (by decide) (by decide)) ?_
  | refine k_powc (a := 10) (b := 60) (c := 1000000000000000000000000000000000000000000000000000000000000) (by decide +kernel) (cpow (by decide) (by decide) (by decide)) ?_
  | refine k_powc (a := 10) (b := 12) (c := 1000000000000) (by decide +kernel) (cpow (by decide) (by decide) (by decide)) ?_
  | refine k_powc (a := 10) (b := 5) (c := 100000) (by decide +kernel) (cpow (by decide) (by decide) (by decide)) ?_
  | refine k_powc (a := 10) (b := 6) (c := 1000000) (by decide +kernel) (cpow (by decide) (by decide) (by decide)) ?_
  | refine k_powc (a := 10) (b := 9) (c := 1000000000) (by decide +kernel) (cpow (by decide) (by decide) (by decide)) ?_
  | refine k_powc (a := 10) (b := 20) (c := 100000000000000000000) (by decide +kernel) (cpow (by decide) (by decide) (by decide)) ?_
  | refine k_powc (a := 10) (b := 50) (c := 100000000000000000000000000000000000000000000000000) (by decide +kernel) (cpow (by decide) (by decide) (by decide)) ?_
  | refine k_powc (a := 10) (b := 58) (c := 10000000000000000000000000000000000000000000000000000000000) (by decide +kernel) (cpow (by decide) (by decide) (by decide)) ?_
  | refine k_mod (by first | decide | omega) ?_
  | refine k_div (by first | decide | omega) (by first | decide +kernel | exact k_log (by omega)) ?_)
local macro_rules | `(tactic| walk_at "go") => `(tactic| repeat (first | with_reducible walk_at "s1" | with_reducible walk_at "s2"))
local macro_rules | `(tactic| walk_at "up") => `(tactic| first | assumption | (refine up_same (by assumption) ?_; walk_at "up") | (refine up_but (by assumption) (by first | assumption | (apply Ne.symm; assumption)) ?_; walk_at "up"))
local macro_rules | `(tactic| walk_at "ut") => `(tactic| first | assumption | exact SqT.of (by assumption) | (refine seqT_same (by assumption) ?_; walk_at "ut"))
local macro_rules | `(tactic| walk_at "ul") => `(tactic| first | assumption | exact SqL.of (by assumption) | (refine seqL_same (by assumption) ?_; walk_at "ul"))
local macro_rules | `(tactic| walk_at "n") => `(tactic| first | with_reducible walk_at "s1" | with_reducible walk_at "s2")
local macro_rules | `(tactic| walk_at "lk") => `(tactic| first | exact lk1 | (apply lkn; (decide +kernel); walk_at "lk"))
local macro_rules | `(tactic| walk_at "lz") => `(tactic| first | exact lk0 | (apply lkz; (decide +kernel); walk_at "lz"))
local macro_rules | `(tactic| walk_at "pf") => `(tactic| first | rfl | (rw [pfn]; (walk_at "pf"); (decide +kernel)) | (rw [pf1]; walk_at "pf") | (rw [pf0]; walk_at "pf"))
local macro_rules | `(tactic| walk_at "pl") => `(tactic| first | (simp only [List.length_cons, List.length_nil]; done) | (simp only [List.length_cons, List.length_nil]; decide) | exact Nat.lt_of_lt_of_le pfl0 (by decide) | exact Nat.lt_of_lt_of_le (pfl pfl0) (by decide) | exact Nat.lt_of_lt_of_le (pfl (pfl pfl0)) (by decide) | exact Nat.lt_of_lt_of_le (pfl (pfl (pfl pfl0))) (by decide) | exact Nat.lt_of_lt_of_le (pfl (pfl (pfl (pfl pfl0)))) (by decide) | exact Nat.lt_of_lt_of_le (pfl (pfl (pfl (pfl (pfl pfl0))))) (by decide) | exact Nat.lt_of_lt_of_le (pfl (pfl (pfl (pfl (pfl (pfl pfl0)))))) (by decide) | exact Nat.lt_of_lt_of_le (pfl (pfl (pfl (pfl (pfl (pfl (pfl pfl0))))))) (by decide) | exact Nat.lt_of_lt_of_le (pfl (pfl (pfl (pfl (pfl (pfl (pfl (pfl pfl0)))))))) (by decide) | exact Nat.lt_of_lt_of_le (pfl (pfl (pfl (pfl (pfl (pfl (pfl (pfl (pfl pfl0))))))))) (by decide) | (simp; done))
local macro_rules | `(tactic| walk_at "st") => `(tactic| repeat (first | with_reducible refine k_next ?_ | with_reducible refine k_seq ?_))
namespace Lw
open PySem PySem.Spec PyProof.Rows L2 Gx
def top (i : Nat) : Stmt := PySem.Challenge.pw_surecount_k43_ballots_as_told.main.body.getD i (.Pass ⟨0, 0, 0, 0⟩)
abbrev s_in_common : Stmt := top 6
theorem sc_in_common : FnScope ["a", "b"] ["a", "b"] (defScope s_in_common) := ⟨rfl, rfl, rfl, by decide +kernel, rfl, by decide +kernel, by decide +kernel⟩
abbrev s_lowest : Stmt := top 7
theorem sc_lowest : FnScope ["a", "b", "divisor"] ["a", "b"] (defScope s_lowest) := ⟨rfl, rfl, rfl, by decide +kernel, rfl, by decide +kernel, by decide +kernel⟩
abbrev s_plus : Stmt := top 8
theorem sc_plus : FnScope ["x", "y"] ["x", "y"] (defScope s_plus) := ⟨rfl, rfl, rfl, by decide +kernel, rfl, by decide +kernel, by decide +kernel⟩
abbrev s_minus : Stmt := top 9
theorem sc_minus : FnScope ["x", "y"] ["x", "y"] (defScope s_minus) := ⟨rfl, rfl, rfl, by decide +kernel, rfl, by decide +kernel, by decide +kernel⟩
abbrev s_times : Stmt := top 10
theorem sc_times : FnScope ["x", "y"] ["x", "y"] (defScope s_times) := ⟨rfl, rfl, rfl, by decide +kernel, rfl, by decide +kernel, by decide +kernel⟩
abbrev s_over : Stmt := top 11
theorem sc_over : FnScope ["x", "y"] ["x", "y"] (defScope s_over) := ⟨rfl, rfl, rfl, by decide +kernel, rfl, by decide +kernel, by decide +kernel⟩
abbrev s_total : Stmt := top 12
theorem sc_total : FnScope ["some", "found", "x"] ["some"] (defScope s_total) := ⟨rfl, rfl, rfl, by decide +kernel, rfl, by decide +kernel, by decide +kernel⟩
abbrev s_below : Stmt := top 13
theorem sc_below : FnScope ["x", "y"] ["x", "y"] (defScope s_below) := ⟨rfl, rfl, rfl, by decide +kernel, rfl, by decide +kernel, by decide +kernel⟩
abbrev s_Way___init__ : Stmt := inClass (top 18) 0
theorem sc_Way___init__ : FnScope ["self", "claim"] ["self", "claim"] (defScope s_Way___init__) := ⟨rfl, rfl, rfl, by decide +kernel, rfl, by decide +kernel, by decide +kernel⟩
abbrev s_Comparing___init__ : Stmt := inClass (top 19) 0
theorem sc_Comparing___init__ : FnScope ["self", "claim", "marks", "mean", "margin", "mark"] ["self", "claim", "marks"] (defScope s_Comparing___init__) := ⟨rfl, rfl, rfl, by decide +kernel, rfl, by decide +kernel, by decide +kernel⟩
abbrev s_Comparing_value : Stmt := inClass (top 19) 1
theorem sc_Comparing_value : FnScope ["self", "number", "mark", "lost", "part"] ["self", "number", "mark"] (defScope s_Comparing_value) := ⟨rfl, rfl, rfl, by decide +kernel, rfl, by decide +kernel, by decide +kernel⟩
abbrev s_Comparing_top : Stmt := inClass (top 19) 2
theorem sc_Comparing_top : FnScope ["self"] ["self"] (defScope s_Comparing_top) := ⟨rfl, rfl, rfl, by decide +kernel, rfl, by decide +kernel, by decide +kernel⟩
abbrev s_Claim_value : Stmt := inClass (top 24) 0
theorem sc_Claim_value : FnScope ["self", "mark"] ["self", "mark"] (defScope s_Claim_value) := ⟨rfl, rfl, rfl, by decide +kernel, rfl, by decide +kernel, by decide +kernel⟩
abbrev s_Claim_value_of : Stmt := inClass (top 24) 1
theorem sc_Claim_value_of : FnScope ["self", "mark"] ["self", "mark"] (defScope s_Claim_value_of) := ⟨rfl, rfl, rfl, by decide +kernel, rfl, by decide +kernel, by decide +kernel⟩
abbrev s_Claim_greatest : Stmt := inClass (top 24) 2
theorem sc_Claim_greatest : FnScope ["self"] ["self"] (defScope s_Claim_greatest) := ⟨rfl, rfl, rfl, by decide +kernel, rfl, by decide +kernel, by decide +kernel⟩
abbrev s_Claim_holds : Stmt := inClass (top 24) 3
theorem sc_Claim_holds : FnScope ["self", "marks", "mark"] ["self", "marks"] (defScope s_Claim_holds) := ⟨rfl, rfl, rfl, by decide +kernel, rfl, by decide +kernel, by decide +kernel⟩
abbrev s_Beats___init__ : Stmt := inClass (top 25) 0
theorem sc_Beats___init__ : FnScope ["self", "one", "other"] ["self", "one", "other"] (defScope s_Beats___init__) := ⟨rfl, rfl, rfl, by decide +kernel, rfl, by decide +kernel, by decide +kernel⟩
abbrev s_Beats_value_of : Stmt := inClass (top 25) 1
theorem sc_Beats_value_of : FnScope ["self", "mark"] ["self", "mark"] (defScope s_Beats_value_of) := ⟨rfl, rfl, rfl, by decide +kernel, rfl, by decide +kernel, by decide +kernel⟩
abbrev s_Beats_greatest : Stmt := inClass (top 25) 2
theorem sc_Beats_greatest : FnScope ["self"] ["self"] (defScope s_Beats_greatest) := ⟨rfl, rfl, rfl, by decide +kernel, rfl, by decide +kernel, by decide +kernel⟩
abbrev s_Over___init__ : Stmt := inClass (top 26) 0
theorem sc_Over___init__ : FnScope ["self", "name", "share"] ["self", "name", "share"] (defScope s_Over___init__) := ⟨rfl, rfl, rfl, by decide +kernel, rfl, by decide +kernel, by decide +kernel⟩
abbrev s_Over_value_of : Stmt := inClass (top 26) 1
theorem sc_Over_value_of : FnScope ["self", "mark"] ["self", "mark"] (defScope s_Over_value_of) := ⟨rfl, rfl, rfl, by decide +kernel, rfl, by decide +kernel, by decide +kernel⟩
abbrev s_Over_greatest : Stmt := inClass (top 26) 2
theorem sc_Over_greatest : FnScope ["self"] ["self"] (defScope s_Over_greatest) := ⟨rfl, rfl, rfl, by decide +kernel, rfl, by decide +kernel, by decide +kernel⟩
abbrev s_Under___init__ : Stmt := inClass (top 27) 0
theorem sc_Under___init__ : FnScope ["self", "name", "share"] ["self", "name", "share"] (defScope s_Under___init__) := ⟨rfl, rfl, rfl, by decide +kernel, rfl, by decide +kernel, by decide +kernel⟩
abbrev s_Under_value_of : Stmt := inClass (top 27) 1
theorem sc_Under_value_of : FnScope ["self", "mark"] ["self", "mark"] (defScope s_Under_value_of) := ⟨rfl, rfl, rfl, by decide +kernel, rfl, by decide +kernel, by decide +kernel⟩
abbrev s_Under_greatest : Stmt := inClass (top 27) 2
theorem sc_Under_greatest : FnScope ["self"] ["self"] (defScope s_Under_greatest) := ⟨rfl, rfl, rfl, by decide +kernel, rfl, by decide +kernel, by decide +kernel⟩
abbrev s__law_at : Stmt := top 29
theorem sc__law_at : FnScope ["_law_script", "_law_k"] ["_law_script", "_law_k"] (defScope s__law_at) := ⟨rfl, rfl, rfl, by decide +kernel, rfl, by decide +kernel, by decide +kernel⟩
abbrev s__law_mix : Stmt := top 30
theorem sc__law_mix : FnScope ["_law_cell", "_law_k", "_law_number", "_law_j"] ["_law_cell", "_law_k"] (defScope s__law_mix) := ⟨rfl, rfl, rfl, by decide +kernel, rfl, by decide +kernel, by decide +kernel⟩
abbrev s__law_names : Stmt := top 31
theorem sc__law_names : FnScope ["_law_cell", "_law_many", "_law_letters", "_law_size", "_law_base", "_law_spot", "_law_first", "_law_step", "_law_k"] ["_law_cell", "_law_many"] (defScope s__law_names) := ⟨rfl, rfl, rfl, by decide +kernel, rfl, by decide +kernel, by decide +kernel⟩
abbrev s__law_lowest : Stmt := top 32
theorem sc__law_lowest : FnScope ["_law_a", "_law_b", "_law_one", "_law_other"] ["_law_a", "_law_b"] (defScope s__law_lowest) := ⟨rfl, rfl, rfl, by decide +kernel, rfl, by decide +kernel, by decide +kernel⟩
abbrev s__law_plus : Stmt := top 33
theorem sc__law_plus : FnScope ["_law_x", "_law_y"] ["_law_x", "_law_y"] (defScope s__law_plus) := ⟨rfl, rfl, rfl, by decide +kernel, rfl, by decide +kernel, by decide +kernel⟩
abbrev s__law_times : Stmt := top 34
theorem sc__law_times : FnScope ["_law_x", "_law_y"] ["_law_x", "_law_y"] (defScope s__law_times) := ⟨rfl, rfl, rfl, by decide +kernel, rfl, by decide +kernel, by decide +kernel⟩
abbrev s__law_greatest : Stmt := top 36
theorem sc__law_greatest : FnScope ["_law_claim_here", "_law_a", "_law_b"] ["_law_claim_here"] (defScope s__law_greatest) := ⟨rfl, rfl, rfl, by decide +kernel, rfl, by decide +kernel, by decide +kernel⟩
abbrev s__law_value : Stmt := top 37
theorem sc__law_value : FnScope ["_law_claim_here", "_law_mark"] ["_law_claim_here", "_law_mark"] (defScope s__law_value) := ⟨rfl, rfl, rfl, by decide +kernel, rfl, by decide +kernel, by decide +kernel⟩
abbrev s__law_all : Stmt := top 38
theorem sc__law_all : FnScope ["_law_claim_here", "_law_marks_here", "_law_whole", "_law_mark"] ["_law_claim_here", "_law_marks_here"] (defScope s__law_all) := ⟨rfl, rfl, rfl, by decide +kernel, rfl, by decide +kernel, by decide +kernel⟩
abbrev s__law_is_so : Stmt := top 39
theorem sc__law_is_so : FnScope ["_law_claim_here", "_law_marks_here", "_law_whole"] ["_law_claim_here", "_law_marks_here"] (defScope s__law_is_so) := ⟨rfl, rfl, rfl, by decide +kernel, rfl, by decide +kernel, by decide +kernel⟩
abbrev s__law_share : Stmt := top 40
theorem sc__law_share : FnScope ["_law_cell", "_law_b"] ["_law_cell"] (defScope s__law_share) := ⟨rfl, rfl, rfl, by decide +kernel, rfl, by decide +kernel, by decide +kernel⟩
abbrev s__law_claim : Stmt := top 41
theorem sc__law_claim : FnScope ["_law_cell", "_law_names_here", "_law_kind", "_law_first"] ["_law_cell", "_law_names_here"] (defScope s__law_claim) := ⟨rfl, rfl, rfl, by decide +kernel, rfl, by decide +kernel, by decide +kernel⟩
abbrev s__law_made : Stmt := top 42
theorem sc__law_made : FnScope ["_law_claim_here"] ["_law_claim_here"] (defScope s__law_made) := ⟨rfl, rfl, rfl, by decide +kernel, rfl, by decide +kernel, by decide +kernel⟩
abbrev s__law_marks : Stmt := top 43
theorem sc__law_marks : FnScope ["_law_script", "_law_start", "_law_many", "_law_pool", "_law_marks_here", "_law_k", "_law_cell"] ["_law_script", "_law_start", "_law_many", "_law_pool"] (defScope s__law_marks) := ⟨rfl, rfl, rfl, by decide +kernel, rfl, by decide +kernel, by decide +kernel⟩
abbrev s__law_helped : Stmt := top 44
theorem sc__law_helped : FnScope ["_law_claim_here", "_law_marks_here", "_law_names_here", "_law_good", "_law_k", "_law_name"] ["_law_claim_here", "_law_marks_here", "_law_names_here"] (defScope s__law_helped) := ⟨rfl, rfl, rfl, by decide +kernel, rfl, by decide +kernel, by decide +kernel⟩
abbrev s__law_no_greater : Stmt := top 45
theorem sc__law_no_greater : FnScope ["_law_one", "_law_other"] ["_law_one", "_law_other"] (defScope s__law_no_greater) := ⟨rfl, rfl, rfl, by decide +kernel, rfl, by decide +kernel, by decide +kernel⟩
abbrev s_law : Stmt := top 46
theorem sc_law : FnScope ["_law_script", "_law_names_here", "_law_claim_here", "_law_many", "_law_pool", "_law_told", "_law_way", "_law_one", "_law_met", "_law_k", "_law_mark", "_law_lacks", "_law_found"] ["_law_script"] (defScope s_law) := ⟨rfl, rfl, rfl, by decide +kernel, rfl, by decide +kernel, by decide +kernel⟩
abbrev FnP (K : PySem.W.Frag) (x q : Str) (st : Stmt) (f : Addr) (fd : FuncData) : Prop := FunD K x q (defArgs st) (defBody st) (defScope st) [] [] f fd
structure Txt (K : PySem.W.Frag) (mg : Str → Option Value) : Prop where
  n_abs : mg "abs" = none
  n_len : mg "len" = none
  n_list : mg "list" = none
  n_max : mg "max" = none
  n_range : mg "range" = none
  n_tuple : mg "tuple" = none
  c_HALF : ∃ u, mg "HALF" = some u ∧ RelV (.ref (He.ga K "HALF")) u
  t_HALF : ∀ H, SqT K H (He.ga K "HALF") [V.int 1, V.int 2]
  c_NOUGHT_claims : ∃ u, mg "NOUGHT_claims" = some u ∧ RelV (.ref (He.ga K "NOUGHT_claims")) u
  t_NOUGHT_claims : ∀ H, SqT K H (He.ga K "NOUGHT_claims") [V.int 0, V.int 1]
  c_NOUGHT_ways : ∃ u, mg "NOUGHT_ways" = some u ∧ RelV (.ref (He.ga K "NOUGHT_ways")) u
  t_NOUGHT_ways : ∀ H, SqT K H (He.ga K "NOUGHT_ways") [V.int 0, V.int 1]
  c_NoFraction : ∃ u, mg "NoFraction" = some u ∧ RelV (.ref (He.ga K "NoFraction")) u
  c_NoMargin : ∃ u, mg "NoMargin" = some u ∧ RelV (.ref (He.ga K "NoMargin")) u
  c_ONE_claims : ∃ u, mg "ONE_claims" = some u ∧ RelV (.ref (He.ga K "ONE_claims")) u
  t_ONE_claims : ∀ H, SqT K H (He.ga K "ONE_claims") [V.int 1, V.int 1]
  c_ONE_ways : ∃ u, mg "ONE_ways" = some u ∧ RelV (.ref (He.ga K "ONE_ways")) u
  t_ONE_ways : ∀ H, SqT K H (He.ga K "ONE_ways") [V.int 1, V.int 1]
  c_TWO : ∃ u, mg "TWO" = some u ∧ RelV (.ref (He.ga K "TWO")) u
  t_TWO : ∀ H, SqT K H (He.ga K "TWO") [V.int 2, V.int 1]
  cl_Under : Cls K (He.ga K "Under")
  f_Under_name : NoAttr K (He.ga K "Under") "name"
  f_Under_share : NoAttr K (He.ga K "Under") "share"
  cl_Over : Cls K (He.ga K "Over")
  f_Over_name : NoAttr K (He.ga K "Over") "name"
  f_Over_share : NoAttr K (He.ga K "Over") "share"
  cl_Beats : Cls K (He.ga K "Beats")
  f_Beats_one : NoAttr K (He.ga K "Beats") "one"
  f_Beats_other : NoAttr K (He.ga K "Beats") "other"
  cl_Claim : Cls K (He.ga K "Claim")
  cl_Way : Cls K (He.ga K "Way")
  f_Way_claim : NoAttr K (He.ga K "Way") "claim"
  cl_Comparing : Cls K (He.ga K "Comparing")
  f_Comparing_told : NoAttr K (He.ga K "Comparing") "told"
  f_Comparing_scale : NoAttr K (He.ga K "Comparing") "scale"
  f_Comparing_claim : NoAttr K (He.ga K "Comparing") "claim"
  me_Under_greatest : Meth K (He.ga K "Under") "greatest" (He.ma K (He.ga K "Under") "greatest")
  me_Over_greatest : Meth K (He.ga K "Over") "greatest" (He.ma K (He.ga K "Over") "greatest")
  me_Beats_greatest : Meth K (He.ga K "Beats") "greatest" (He.ma K (He.ga K "Beats") "greatest")
  me_Claim_greatest : Meth K (He.ga K "Claim") "greatest" (He.ma K (He.ga K "Claim") "greatest")
  me_Under_value : Meth K (He.ga K "Under") "value" (He.ma K (He.ga K "Claim") "value")
  me_Over_value : Meth K (He.ga K "Over") "value" (He.ma K (He.ga K "Claim") "value")
  me_Beats_value : Meth K (He.ga K "Beats") "value" (He.ma K (He.ga K "Claim") "value")
  me_Claim_value : Meth K (He.ga K "Claim") "value" (He.ma K (He.ga K "Claim") "value")
  me_Under_holds : Meth K (He.ga K "Under") "holds" (He.ma K (He.ga K "Claim") "holds")
  me_Over_holds : Meth K (He.ga K "Over") "holds" (He.ma K (He.ga K "Claim") "holds")
  me_Beats_holds : Meth K (He.ga K "Beats") "holds" (He.ma K (He.ga K "Claim") "holds")
  me_Claim_holds : Meth K (He.ga K "Claim") "holds" (He.ma K (He.ga K "Claim") "holds")
  su_Way___init__ : ClX.CRead K (He.ga K "Way") (.type "type") ∧ PySem.W.findCls K (.ref (He.ga K "Way")) (.type "type") "__init__" = some (.val (.ref (He.ma K (He.ga K "Way") "__init__"))) ∧ PySem.W.keepIn K (.ref (He.ma K (He.ga K "Way") "__init__")) = true
  gs_Way___init__ : mg "Way" = some (.ref (He.ga K "Way"))
  me_Under_value_of : Meth K (He.ga K "Under") "value_of" (He.ma K (He.ga K "Under") "value_of")
  me_Over_value_of : Meth K (He.ga K "Over") "value_of" (He.ma K (He.ga K "Over") "value_of")
  me_Beats_value_of : Meth K (He.ga K "Beats") "value_of" (He.ma K (He.ga K "Beats") "value_of")
  me_Claim_value_of : Meth K (He.ga K "Claim") "value_of" (He.ma K (He.ga K "Claim") "value_of")
  mk_Under : Mk K (He.ga K "Under") (He.ma K (He.ga K "Under") "__init__")
  gk_Under : mg "Under" = some (.ref (He.ga K "Under"))
  mk_Over : Mk K (He.ga K "Over") (He.ma K (He.ga K "Over") "__init__")
  gk_Over : mg "Over" = some (.ref (He.ga K "Over"))
  mk_Beats : Mk K (He.ga K "Beats") (He.ma K (He.ga K "Beats") "__init__")
  gk_Beats : mg "Beats" = some (.ref (He.ga K "Beats"))
  me_Comparing_value : Meth K (He.ga K "Comparing") "value" (He.ma K (He.ga K "Comparing") "value")
  me_Comparing_top : Meth K (He.ga K "Comparing") "top" (He.ma K (He.ga K "Comparing") "top")
  mk_Comparing : Mk K (He.ga K "Comparing") (He.ma K (He.ga K "Comparing") "__init__")
  gk_Comparing : mg "Comparing" = some (.ref (He.ga K "Comparing"))
  g_NoFraction : mg "NoFraction" = some (.ref (He.ga K "NoFraction"))
  g_NoMargin : mg "NoMargin" = some (.ref (He.ga K "NoMargin"))
  x_NoFraction : PySem.W.excIn K (He.ga K "NoFraction") He.veBase "ValueError.__new__" = true ∧ PySem.W.keepIn K (.ref (He.ga K "NoFraction")) = true ∧ PySem.W.subIn K (.ref (He.ga K "NoFraction")) (.type "BaseException") = some true ∧ PySem.W.typeIn K (.ref (He.ga K "NoFraction")) = some (.type "type")
  x_NoMargin : PySem.W.excIn K (He.ga K "NoMargin") He.veBase "ValueError.__new__" = true ∧ PySem.W.keepIn K (.ref (He.ga K "NoMargin")) = true ∧ PySem.W.subIn K (.ref (He.ga K "NoMargin")) (.type "BaseException") = some true ∧ PySem.W.typeIn K (.ref (He.ga K "NoMargin")) = some (.type "type")
end Lw
namespace Lw
open PySem PySem.Spec PyProof.Rows L2 Gx
def d_in_common : He.DefD := ⟨("in_common", none), "in_common", "in_common", defArgs s_in_common, defBody s_in_common, defScope s_in_common, [], []⟩
def d_lowest : He.DefD := ⟨("lowest", none), "lowest", "lowest", defArgs s_lowest, defBody s_lowest, defScope s_lowest, [], []⟩
def d_plus : He.DefD := ⟨("plus", none), "plus", "plus", defArgs s_plus, defBody s_plus, defScope s_plus, [], []⟩
def d_minus : He.DefD := ⟨("minus", none), "minus", "minus", defArgs s_minus, defBody s_minus, defScope s_minus, [], []⟩
def d_times : He.DefD := ⟨("times", none), "times", "times", defArgs s_times, defBody s_times, defScope s_times, [], []⟩
def d_over : He.DefD := ⟨("over", none), "over", "over", defArgs s_over, defBody s_over, defScope s_over, [], []⟩
def d_total : He.DefD := ⟨("total", none), "total", "total", defArgs s_total, defBody s_total, defScope s_total, [], []⟩
def d_below : He.DefD := ⟨("below", none), "below", "below", defArgs s_below, defBody s_below, defScope s_below, [], []⟩
def d_Way___init__ : He.DefD := ⟨("Way", some "__init__"), "__init__", "Way.__init__", defArgs s_Way___init__, defBody s_Way___init__, defScope s_Way___init__, [], []⟩
def d_Comparing___init__ : He.DefD := ⟨("Comparing", some "__init__"), "__init__", "Comparing.__init__", defArgs s_Comparing___init__, defBody s_Comparing___init__, defScope s_Comparing___init__, [], []⟩
def d_Comparing_value : He.DefD := ⟨("Comparing", some "value"), "value", "Comparing.value", defArgs s_Comparing_value, defBody s_Comparing_value, defScope s_Comparing_value, [], []⟩
def d_Comparing_top : He.DefD := ⟨("Comparing", some "top"), "top", "Comparing.top", defArgs s_Comparing_top, defBody s_Comparing_top, defScope s_Comparing_top, [], []⟩
def d_Claim_value : He.DefD := ⟨("Claim", some "value"), "value", "Claim.value", defArgs s_Claim_value, defBody s_Claim_value, defScope s_Claim_value, [], []⟩
def d_Claim_value_of : He.DefD := ⟨("Claim", some "value_of"), "value_of", "Claim.value_of", defArgs s_Claim_value_of, defBody s_Claim_value_of, defScope s_Claim_value_of, [], []⟩
def d_Claim_greatest : He.DefD := ⟨("Claim", some "greatest"), "greatest", "Claim.greatest", defArgs s_Claim_greatest, defBody s_Claim_greatest, defScope s_Claim_greatest, [], []⟩
def d_Claim_holds : He.DefD := ⟨("Claim", some "holds"), "holds", "Claim.holds", defArgs s_Claim_holds, defBody s_Claim_holds, defScope s_Claim_holds, [], []⟩
def d_Beats___init__ : He.DefD := ⟨("Beats", some "__init__"), "__init__", "Beats.__init__", defArgs s_Beats___init__, defBody s_Beats___init__, defScope s_Beats___init__, [], []⟩
def d_Beats_value_of : He.DefD := ⟨("Beats", some "value_of"), "value_of", "Beats.value_of", defArgs s_Beats_value_of, defBody s_Beats_value_of, defScope s_Beats_value_of, [], []⟩
def d_Beats_greatest : He.DefD := ⟨("Beats", some "greatest"), "greatest", "Beats.greatest", defArgs s_Beats_greatest, defBody s_Beats_greatest, defScope s_Beats_greatest, [], []⟩
def d_Over___init__ : He.DefD := ⟨("Over", some "__init__"), "__init__", "Over.__init__", defArgs s_Over___init__, defBody s_Over___init__, defScope s_Over___init__, [], []⟩
def d_Over_value_of : He.DefD := ⟨("Over", some "value_of"), "value_of", "Over.value_of", defArgs s_Over_value_of, defBody s_Over_value_of, defScope s_Over_value_of, [], []⟩
def d_Over_greatest : He.DefD := ⟨("Over", some "greatest"), "greatest", "Over.greatest", defArgs s_Over_greatest, defBody s_Over_greatest, defScope s_Over_greatest, [], []⟩
def d_Under___init__ : He.DefD := ⟨("Under", some "__init__"), "__init__", "Under.__init__", defArgs s_Under___init__, defBody s_Under___init__, defScope s_Under___init__, [], []⟩
def d_Under_value_of : He.DefD := ⟨("Under", some "value_of"), "value_of", "Under.value_of", defArgs s_Under_value_of, defBody s_Under_value_of, defScope s_Under_value_of, [], []⟩
def d_Under_greatest : He.DefD := ⟨("Under", some "greatest"), "greatest", "Under.greatest", defArgs s_Under_greatest, defBody s_Under_greatest, defScope s_Under_greatest, [], []⟩
def d__law_at : He.DefD := ⟨("_law_at", none), "_law_at", "_law_at", defArgs s__law_at, defBody s__law_at, defScope s__law_at, [], []⟩
def d__law_mix : He.DefD := ⟨("_law_mix", none), "_law_mix", "_law_mix", defArgs s__law_mix, defBody s__law_mix, defScope s__law_mix, [], []⟩
def d__law_names : He.DefD := ⟨("_law_names", none), "_law_names", "_law_names", defArgs s__law_names, defBody s__law_names, defScope s__law_names, [], []⟩
def d__law_lowest : He.DefD := ⟨("_law_lowest", none), "_law_lowest", "_law_lowest", defArgs s__law_lowest, defBody s__law_lowest, defScope s__law_lowest, [], []⟩
def d__law_plus : He.DefD := ⟨("_law_plus", none), "_law_plus", "_law_plus", defArgs s__law_plus, defBody s__law_plus, defScope s__law_plus, [], []⟩
def d__law_times : He.DefD := ⟨("_law_times", none), "_law_times", "_law_times", defArgs s__law_times, defBody s__law_times, defScope s__law_times, [], []⟩
def d__law_greatest : He.DefD := ⟨("_law_greatest", none), "_law_greatest", "_law_greatest", defArgs s__law_greatest, defBody s__law_greatest, defScope s__law_greatest, [], []⟩
def d__law_value : He.DefD := ⟨("_law_value", none), "_law_value", "_law_value", defArgs s__law_value, defBody s__law_value, defScope s__law_value, [], []⟩
def d__law_all : He.DefD := ⟨("_law_all", none), "_law_all", "_law_all", defArgs s__law_all, defBody s__law_all, defScope s__law_all, [], []⟩
def d__law_is_so : He.DefD := ⟨("_law_is_so", none), "_law_is_so", "_law_is_so", defArgs s__law_is_so, defBody s__law_is_so, defScope s__law_is_so, [], []⟩
def d__law_share : He.DefD := ⟨("_law_share", none), "_law_share", "_law_share", defArgs s__law_share, defBody s__law_share, defScope s__law_share, [], []⟩
def d__law_claim : He.DefD := ⟨("_law_claim", none), "_law_claim", "_law_claim", defArgs s__law_claim, defBody s__law_claim, defScope s__law_claim, [], []⟩
def d__law_made : He.DefD := ⟨("_law_made", none), "_law_made", "_law_made", defArgs s__law_made, defBody s__law_made, defScope s__law_made, [], []⟩
def d__law_marks : He.DefD := ⟨("_law_marks", none), "_law_marks", "_law_marks", defArgs s__law_marks, defBody s__law_marks, defScope s__law_marks, [], []⟩
def d__law_helped : He.DefD := ⟨("_law_helped", none), "_law_helped", "_law_helped", defArgs s__law_helped, defBody s__law_helped, defScope s__law_helped, [], []⟩
def d__law_no_greater : He.DefD := ⟨("_law_no_greater", none), "_law_no_greater", "_law_no_greater", defArgs s__law_no_greater, defBody s__law_no_greater, defScope s__law_no_greater, [], []⟩
def d_law : He.DefD := ⟨("law", none), "law", "law", defArgs s_law, defBody s_law, defScope s_law, [], []⟩
def fn : List He.DefD := [d_in_common, d_lowest, d_plus, d_minus, d_times, d_over, d_total, d_below, d_Way___init__, d_Comparing___init__, d_Comparing_value, d_Comparing_top, d_Claim_value, d_Claim_value_of, d_Claim_greatest, d_Claim_holds, d_Beats___init__, d_Beats_value_of, d_Beats_greatest, d_Over___init__, d_Over_value_of, d_Over_greatest, d_Under___init__, d_Under_value_of, d_Under_greatest, d__law_at, d__law_mix, d__law_names, d__law_lowest, d__law_plus, d__law_times, d__law_greatest, d__law_value, d__law_all, d__law_is_so, d__law_share, d__law_claim, d__law_made, d__law_marks, d__law_helped, d__law_no_greater, d_law]
def fa : List He.Fa := [.free "abs", .free "len", .free "list", .free "max", .free "range", .free "tuple", .glo "HALF", .glo "NOUGHT_claims", .glo "NOUGHT_ways", .glo "NoFraction", .glo "NoMargin", .glo "ONE_claims", .glo "ONE_ways", .glo "TWO", .cls "Under", .noat "Under" "name", .noat "Under" "share", .cls "Over", .noat "Over" "name", .noat "Over" "share", .cls "Beats", .noat "Beats" "one", .noat "Beats" "other", .cls "Claim", .cls "Way", .noat "Way" "claim", .cls "Comparing", .noat "Comparing" "told", .noat "Comparing" "scale", .noat "Comparing" "claim", .meth "Under" "greatest", .meth "Over" "greatest", .meth "Beats" "greatest", .meth "Claim" "greatest", .meth "Under" "value", .meth "Over" "value", .meth "Beats" "value", .meth "Claim" "value", .meth "Under" "holds", .meth "Over" "holds", .meth "Beats" "holds", .meth "Claim" "holds", .glo "Way", .meth "Under" "value_of", .meth "Over" "value_of", .meth "Beats" "value_of", .meth "Claim" "value_of", .mkr "Under", .glo "Under", .mkr "Over", .glo "Over", .mkr "Beats", .glo "Beats", .meth "Comparing" "value", .meth "Comparing" "top", .mkr "Comparing", .glo "Comparing", .glo "NoFraction", .glo "NoMargin", .exc "NoFraction", .exc "NoMargin", .glo "in_common", .glo "lowest", .glo "plus", .glo "minus", .glo "times", .glo "over", .glo "total", .glo "below", .glo "_law_at", .glo "_law_mix", .glo "_law_names", .glo "_law_lowest", .glo "_law_plus", .glo "_law_times", .glo "_law_greatest", .glo "_law_value", .glo "_law_all", .glo "_law_is_so", .glo "_law_share", .glo "_law_claim", .glo "_law_made", .glo "_law_marks", .glo "_law_helped", .glo "_law_no_greater", .glo "law"]
abbrev R : PySem.W.OpenRow := PySem.W.OpenLaw.row PySem.Challenge.rw_surecount_k43_ballots_as_told
def exl : List (PySem.W.Frag → Bool) := [fun K => supmB K "Way" "__init__", fun K => decide (He.ma K (He.ga K "Under") "value" = He.ma K (He.ga K "Claim") "value"), fun K => decide (He.ma K (He.ga K "Over") "value" = He.ma K (He.ga K "Claim") "value"), fun K => decide (He.ma K (He.ga K "Beats") "value" = He.ma K (He.ga K "Claim") "value"), fun K => decide (He.ma K (He.ga K "Under") "holds" = He.ma K (He.ga K "Claim") "holds"), fun K => decide (He.ma K (He.ga K "Over") "holds" = He.ma K (He.ga K "Claim") "holds"), fun K => decide (He.ma K (He.ga K "Beats") "holds" = He.ma K (He.ga K "Claim") "holds"), fun K => He.tupB K "HALF" [.int 1, .int 2], fun K => He.tupB K "NOUGHT_claims" [.int 0, .int 1], fun K => He.tupB K "NOUGHT_ways" [.int 0, .int 1], fun K => He.tupB K "ONE_claims" [.int 1, .int 1], fun K => He.tupB K "ONE_ways" [.int 1, .int 1], fun K => He.tupB K "TWO" [.int 2, .int 1]]
def exB (K : PySem.W.Frag) : Bool := exl.all fun f => f K
def reachA : List PySem.Addr := ([3, 6, 4, 21, 31, 44, 56, 65, 72, 79, 86, 93, 100, 107, 114, 115, 116, 117, 148, 181, 184, 185, 186, 229] : List PySem.Addr) ++ ([271, 311, 351, 360, 367, 372, 379, 386, 393, 400, 407, 414, 421, 428, 435, 442, 449, 456, 461, 468, 475, 0, 20, 30] : List PySem.Addr) ++ ([43, 55, 64, 71, 78, 85, 92, 99, 106, 113, 147, 180, 228, 270, 310, 350, 359, 366, 371, 378, 385, 392, 399, 406] : List PySem.Addr) ++ ([413, 420, 427, 434, 441, 448, 455, 460, 467, 474, 15, 16, 17, 18, 19, 29, 32, 42, 54, 59, 60, 61, 62, 63] : List PySem.Addr) ++ ([66, 67, 68, 69, 70, 73, 74, 75, 76, 77, 80, 81, 82, 83, 84, 87, 88, 89, 90, 91, 94, 95, 96, 97] : List PySem.Addr) ++ ([98, 101, 102, 103, 104, 105, 108, 109, 110, 111, 112, 131, 138, 145, 146, 149, 150, 164, 171, 178, 179, 200, 207, 214] : List PySem.Addr) ++ ([219, 226, 227, 230, 231, 247, 254, 261, 268, 269, 287, 294, 301, 308, 309, 327, 334, 341, 348, 349, 354, 355, 356, 357] : List PySem.Addr) ++ ([358, 361, 362, 363, 364, 365, 368, 369, 370, 373, 374, 375, 376, 377, 380, 381, 382, 383, 384, 387, 388, 389, 390, 391] : List PySem.Addr) ++ ([394, 395, 396, 397, 398, 401, 402, 403, 404, 405, 408, 409, 410, 411, 412, 415, 416, 417, 418, 419, 422, 423, 424, 425] : List PySem.Addr) ++ ([426, 429, 430, 431, 432, 433, 436, 437, 438, 439, 440, 443, 444, 445, 446, 447, 450, 451, 452, 453, 454, 457, 458, 459] : List PySem.Addr) ++ ([462, 463, 464, 465, 466, 469, 470, 471, 472, 473, 130, 137, 144, 163, 170, 177, 199, 206, 213, 218, 225, 246, 253, 260] : List PySem.Addr) ++ ([267, 286, 293, 300, 307, 326, 333, 340, 347, 125, 126, 127, 128, 129, 132, 133, 134, 135, 136, 139, 140, 141, 142, 143] : List PySem.Addr) ++ ([160, 161, 162, 165, 166, 167, 168, 169, 172, 173, 174, 175, 176, 194, 195, 196, 197, 198, 201, 202, 203, 204, 205, 208] : List PySem.Addr) ++ ([209, 210, 211, 212, 215, 216, 217, 220, 221, 222, 223, 224, 241, 242, 243, 244, 245, 248, 249, 250, 251, 252, 255, 256] : List PySem.Addr) ++ ([257, 258, 259, 262, 263, 264, 265, 266, 281, 282, 283, 284, 285, 288, 289, 290, 291, 292, 295, 296, 297, 298, 299, 302] : List PySem.Addr) ++ ([303, 304, 305, 306, 321, 322, 323, 324, 325, 328, 329, 330, 331, 332, 335, 336, 337, 338, 339, 342, 343, 344, 345, 346] : List PySem.Addr) ++ ([2] : List PySem.Addr)
abbrev hk : PySem.W.Hook := Gx.hookA reachA fa fn exB
def ob (s : PySem.W.SharedT) : He.AlD × Bool := Gx.obsA reachA fa fn exB (HandSHeadRun.getT s)
theorem ob_eq (s : PySem.W.SharedT) : ob s = hk.obs s.abs := Gx.obsA_eq (HandSHeadRun.getT_eq s)
def loose : List PySem.Str := (["_wall", "in_common", "lowest", "plus", "minus", "times", "over", "total", "below", "_law_at", "_law_mix", "_law_names", "_law_lowest", "_law_plus", "_law_times", "_law_over"] : List PySem.Str) ++ (["_law_greatest", "_law_value", "_law_all", "_law_is_so", "_law_share", "_law_claim", "_law_made", "_law_marks", "_law_helped", "_law_no_greater", "SureError", "NoFraction", "NoMargin", "Way", "Comparing", "Claim"] : List PySem.Str) ++ (["Beats", "Over", "Under", "NOUGHT_ways", "ONE_ways", "TWO", "NOUGHT_claims", "HALF", "ONE_claims"] : List PySem.Str)
def kof (s : PySem.W.SharedT) : PySem.W.Frag := He.frT (HandSHeadRun.getT s) reachA
def exT (s : PySem.W.SharedT) : Bool := exB (kof s)
open PySem PySem.W HandSHeadRun PySem.Calls in
theorem runB (w : World) : ∀ os : OsState, (HandSHeadRun.endF (HandSHeadRun.stepQ (HandSHeadRun.denQ HandSHeadRun.tabQ) R.prog w) 12000 R.prog w os).map (fun s => looksF R.prog (boot_heap w.params) s.abs && (((fa.all fun f => f.ok (kof s)) && fn.all fun d => d.ok (kof s)) && exT s)) = some true := by
  intro os
  kernel_rfl
open PySem PySem.W HandSHeadRun PySem.Calls in
theorem runS (w : World) : ∀ os : OsState, (HandSHeadRun.endF (HandSHeadRun.stepQ (HandSHeadRun.denQ HandSHeadRun.tabQ) R.prog w) 12000 R.prog w os).map (fun s => seenQ (PySem.W.view R.prog [46]) loose (importedModules R.prog.main.body) (fun s => xlAt (PySem.W.view R.prog [46]) [] s && recOk R.toRowW.records s) s.abs) = some (openGood (PySem.W.view R.prog [46]) loose) := by
  intro os
  kernel_rfl
open PySem PySem.W HandSHeadRun PySem.Calls in
theorem runF (w : World) : ∀ os : OsState, (HandSHeadRun.endF (HandSHeadRun.stepQ (HandSHeadRun.denQ HandSHeadRun.tabQ) R.prog w) 12000 R.prog w os).map (fun s => fn.map fun d => He.fnW (kof s) d.at_) = some (fn.map He.DefD.val) := by
  intro os
  kernel_rfl
theorem map3 {α γ ε : Type} {x : Option α} {l : α → Bool} {a b e : α → Bool} {g : α → γ} {h : α → ε} {vg : γ} {vh : ε} (h1 : x.map (fun s => l s && ((a s && b s) && e s)) = some true) (h2 : x.map g = some vg) (h3 : x.map h = some vh) : x.map (fun s => (l s, g s, ((a s && b s, h s), e s))) = some (true, vg, ((true, vh), true)) := by
  cases x with
  | none => cases h1
  | some s =>
    rw [Option.map_some] at h1 h2 h3 ⊢
    have k := Bool.and_eq_true_iff.mp (Option.some.inj h1)
    have k2 := Bool.and_eq_true_iff.mp k.2
    rw [k.1, k2.1, k2.2, Option.some.inj h2, Option.some.inj h3]
theorem run (w : World) : HandSHeadRun.RunEq R (PySem.W.view R.prog [46]) hk ob 12000 loose w := fun os => map3 (runB w os) (runS w os) (runF w os)
end Lw
namespace Dk
open PySem PySem.Spec PyProof.Rows L2
theorem at_map {ns : List Int} {i : Int} (h0 : 0 ≤ i) (h1 : i < ns.length) : ∃ z : Int, atI (ns.map V.int) i = some (.int z) := by
  obtain ⟨n, rfl⟩ : ∃ n : Nat, i = (n : Int) := ⟨i.toNat, by omega⟩
  have hl : n < ns.length := by omega
  exact ⟨ns[n], atI_nat (by simp [hl])⟩
theorem dp_all {K : PySem.W.Frag} {H : Hp} : ∀ ns : List Int, DpAll K H (ns.map V.int) (ns.map PyData.int)
  | [] => .nil
  | n :: r => .cons (.int n) (dp_all r)
theorem dp_ints {K : PySem.W.Frag} {H : Hp} {a : Addr} {ns : List Int} (h : SqL K H a (ns.map V.int)) : Dp K H (.ref a) (.list (ns.map PyData.int)) := .lst h (dp_all ns)
theorem shaped_ints (ns : List Int) : SeqAt.shaped (.list (ns.map PyData.int)) = true := by
  have h : ∀ l : List Int, PyData.canLayAll0 (l.map PyData.int) = true ∧ PyData.depthAll (l.map PyData.int) = 0 := fun l => by
    induction l with
    | nil => exact ⟨by simp [PyData.canLayAll0], by simp [PyData.depthAll]⟩
    | cons n r ih => exact ⟨by simp [PyData.canLayAll0, PyData.canLay0, ih.1], by simp [PyData.depthAll, PyData.depth, ih.2]⟩
  obtain ⟨h1, h2⟩ := h ns
  simp [SeqAt.shaped, PyData.canLay0, PyData.depth, h1, h2]
theorem eqv_nil (ns : List Int) : (!PyData.eqv (.list (ns.map PyData.int)) (.list [])) = !ns.isEmpty := by
  cases ns <;> simp [PyData.eqv, PyData.eqvAll]
theorem last (ds : List Int) (h : 0 < ds.length) : ∃ es e, ds = es ++ [e] := ⟨ds.dropLast, ds.getLast (by intro z; rw [z] at h; exact absurd h (by decide)), (List.dropLast_concat_getLast _).symm⟩
theorem last2 (ds : List Int) (h : 1 < ds.length) : ∃ es e2 e1, ds = es ++ [e2, e1] := by
  obtain ⟨fs, e1, rfl⟩ := last ds (by omega)
  obtain ⟨es, e2, rfl⟩ := last fs (by simp at h; omega)
  exact ⟨es, e2, e1, by simp⟩
theorem last3 (ds : List Int) (h : 2 < ds.length) : ∃ es e3 e2 e1, ds = es ++ [e3, e2, e1] := by
  obtain ⟨fs, e1, rfl⟩ := last ds (by omega)
  obtain ⟨es, e3, e2, rfl⟩ := last2 fs (by simp at h; omega)
  exact ⟨es, e3, e2, e1, by simp⟩
theorem sub {P : Int → Prop} {es r : List Int} (h : ∀ d ∈ es ++ r, P d) : ∀ d ∈ es, P d := fun d hd => h d (List.mem_append_left _ hd)
theorem shaped_tints (ns : List Int) : SeqAt.shaped (.tuple (ns.map PyData.int)) = true := by
  have h : ∀ l : List Int, PyData.canLayAll0 (l.map PyData.int) = true ∧ PyData.depthAll (l.map PyData.int) = 0 := fun l => by
    induction l with
    | nil => exact ⟨by simp [PyData.canLayAll0], by simp [PyData.depthAll]⟩
    | cons n r ih => exact ⟨by simp [PyData.canLayAll0, PyData.canLay0, ih.1], by simp [PyData.depthAll, PyData.depth, ih.2]⟩
  obtain ⟨h1, h2⟩ := h ns
  simp [SeqAt.shaped, PyData.canLay0, PyData.depth, h1, h2]
theorem emod_le {a b : Int} (h : 0 ≤ a) (hb : 0 < b) : a % b ≤ a := by
  have e := Int.emod_add_mul_ediv a b
  have z := Int.mul_nonneg (Int.le_of_lt hb) (Int.ediv_nonneg h (Int.le_of_lt hb))
  omega
end Dk
namespace Lw
open PySem PySem.Spec PyProof.Rows L2 Gx
/-- a deck: a new list of so many numbers, each from 0 on, of at most 61 figures -/
def Deck (ds : List Int) : Prop := ∀ d ∈ ds, 0 ≤ d ∧ d < 10000000000000000000000000000000000000000000000000000000000000
theorem Deck.last {es : List Int} {e : Int} (h : Deck (es ++ [e])) : Deck es ∧ 0 ≤ e ∧ e < 10000000000000000000000000000000000000000000000000000000000000 := ⟨fun d hd => h d (List.mem_append_left _ hd), h e (by simp)⟩
end Lw
namespace Ct
open PySem PySem.Spec PyProof.Rows L2
theorem to {xs : List V} {k : Nat} (h : k ≤ xs.length) : cutV xs none (some (k : Int)) = xs.take k := by
  unfold cutV
  rw [HT.sIx_none, HT.sIx_nat, Nat.min_eq_left h]
  simp
theorem from_ {xs : List V} {k : Nat} (h : k ≤ xs.length) : cutV xs (some (k : Int)) none = xs.drop k := by
  unfold cutV
  rw [HT.sIx_none, HT.sIx_nat, Nat.min_eq_left h]
  rw [List.take_of_length_le]
  simp
theorem but1 {xs : List V} : cutV xs none (some (-1)) = xs.dropLast := by
  unfold cutV
  rw [HT.sIx_none]
  have e : HT.sIx xs.length xs.length (some (-1)) = xs.length - 1 := by
    unfold HT.sIx
    simp
    omega
  rw [e, List.dropLast_eq_take]
  simp
theorem cutI {ns : List Int} {lo hi : Nat} : ∃ ms : List Int, cutV (ns.map V.int) (some (lo : Int)) (some (hi : Int)) = ms.map V.int ∧ ms.length ≤ hi - lo := by
  refine ⟨(ns.drop (min lo ns.length)).take (min hi ns.length - min lo ns.length), ?_, ?_⟩
  · unfold cutV
    rw [HT.sIx_nat, HT.sIx_nat, List.length_map, List.map_take, List.map_drop]
  · rw [List.length_take, List.length_drop]
    omega
end Ct
namespace Dt
open PySem PySem.Spec PyProof.Rows L2 Gx
/-! shape, with its depth -/
def Sh (k : Nat) (d : PyData) : Prop := d.canLay0 = true ∧ d.depth ≤ k
theorem sh_int {k : Nat} (i : Int) : Sh k (.int i) := ⟨by simp [PyData.canLay0], by simp [PyData.depth]⟩
theorem sh_bl {k : Nat} (b : Bool) : Sh k (.bool b) := ⟨by simp [PyData.canLay0], by simp [PyData.depth]⟩
theorem sh_non {k : Nat} : Sh k .none := ⟨by simp [PyData.canLay0], by simp [PyData.depth]⟩
theorem sh_str {k : Nat} {x : Str} (h : PyData.strOk x = true) : Sh k (.str x) := ⟨by simpa [PyData.canLay0] using h, by simp [PyData.depth]⟩
theorem shAll {k : Nat} : ∀ {ds : List PyData}, (∀ d ∈ ds, Sh k d) → PyData.canLayAll0 ds = true ∧ PyData.depthAll ds ≤ k
  | [], _ => ⟨by simp [PyData.canLayAll0], by simp [PyData.depthAll]⟩
  | d :: ds, h => by
    obtain ⟨h1, h2⟩ := shAll fun x hx => h x (List.mem_cons_of_mem d hx)
    obtain ⟨g1, g2⟩ := h d (List.mem_cons_self ..)
    exact ⟨by simp [PyData.canLayAll0, g1, h1], by simp [PyData.depthAll]; omega⟩
theorem sh_tup {k : Nat} {ds : List PyData} (h : ∀ d ∈ ds, Sh k d) : Sh (k + 1) (.tuple ds) := by
  obtain ⟨h1, h2⟩ := shAll h
  exact ⟨by simpa [PyData.canLay0] using h1, by simp [PyData.depth]; omega⟩
theorem sh_lst {k : Nat} {ds : List PyData} (h : ∀ d ∈ ds, Sh k d) : Sh (k + 1) (.list ds) := by
  obtain ⟨h1, h2⟩ := shAll h
  exact ⟨by simpa [PyData.canLay0] using h1, by simp [PyData.depth]; omega⟩
theorem Sh.mono {k n : Nat} {d : PyData} (h : Sh k d) (e : k ≤ n) : Sh n d := ⟨h.1, Nat.le_trans h.2 e⟩
theorem Sh.ok {k : Nat} {d : PyData} (h : Sh k d) (e : k ≤ 64 := by decide) : SeqAt.shaped d = true := by
  unfold SeqAt.shaped
  rw [h.1, decide_eq_true (Nat.le_trans h.2 e)]
  rfl
theorem refl {k : Nat} {d : PyData} (h : Sh k d) : PyData.eqv d d = true := SeqAt.eqv_refl _ h.1
/-! data taken apart -/
variable {K : PySem.W.Frag} {H : Hp}
theorem tup {v : V} {ds : List PyData} (h : Dp K H v (.tuple ds)) : ∃ p xs, v = .ref p ∧ SqT K H p xs ∧ DpAll K H xs ds := by
  cases h with
  | tup a b => exact ⟨_, _, rfl, a, b⟩
theorem lst {v : V} {ds : List PyData} (h : Dp K H v (.list ds)) : ∃ p xs, v = .ref p ∧ SqL K H p xs ∧ DpAll K H xs ds := by
  cases h with
  | lst a b => exact ⟨_, _, rfl, a, b⟩
theorem int {v : V} {i : Int} (h : Dp K H v (.int i)) : v = .int i := by cases h; rfl
theorem str {v : V} {x : Str} (h : Dp K H v (.str x)) : v = .str x := by cases h; rfl
theorem bl {v : V} {b : Bool} (h : Dp K H v (.bool b)) : v = .bl b := by cases h; rfl
theorem non {v : V} (h : Dp K H v .none) : v = .non := by cases h; rfl
theorem len : ∀ {xs : List V} {ds : List PyData}, DpAll K H xs ds → xs.length = ds.length
  | _, _, .nil => rfl
  | _, _, .cons _ r => congrArg (· + 1) (len r)
theorem at_ : ∀ {xs : List V} {ds : List PyData} {i : Nat} {x : V}, DpAll K H xs ds → xs[i]? = some x → ∃ d, ds[i]? = some d ∧ Dp K H x d
  | _, _, 0, x, .cons (d := d) a r, e => ⟨d, rfl, (Option.some.inj e) ▸ a⟩
  | _, _, i + 1, x, .cons a r, e => at_ (i := i) r e
theorem at2 : ∀ {xs : List V} {ds : List PyData} {i : Nat} {d : PyData}, DpAll K H xs ds → ds[i]? = some d → ∃ x, xs[i]? = some x ∧ Dp K H x d
  | _, _, 0, d, .cons (v := v) a r, e => ⟨v, rfl, (Option.some.inj e) ▸ a⟩
  | _, _, i + 1, d, .cons a r, e => at2 (i := i) r e
theorem cons {x : V} {xs : List V} {d : PyData} {ds : List PyData} (h : DpAll K H (x :: xs) (d :: ds)) : Dp K H x d ∧ DpAll K H xs ds := by
  cases h with
  | cons a b => exact ⟨a, b⟩
theorem pair {v : V} {a b : PyData} (h : Dp K H v (.tuple [a, b])) : ∃ p x y, v = .ref p ∧ SqT K H p [x, y] ∧ Dp K H x a ∧ Dp K H y b := by
  obtain ⟨p, xs, rfl, s, g⟩ := tup h
  cases g with
  | cons h1 g =>
    cases g with
    | cons h2 g =>
      cases g
      exact ⟨p, _, _, rfl, s, h1, h2⟩
theorem app : ∀ {xs : List V} {ds : List PyData} {ys : List V} {es : List PyData}, DpAll K H xs ds → DpAll K H ys es → DpAll K H (xs ++ ys) (ds ++ es)
  | _, _, _, _, .nil, g => g
  | _, _, _, _, .cons a r, g => .cons a (app r g)
theorem take : ∀ {xs : List V} {ds : List PyData} (n : Nat), DpAll K H xs ds → DpAll K H (xs.take n) (ds.take n)
  | _, _, 0, _ => .nil
  | _, _, n + 1, .nil => .nil
  | _, _, n + 1, .cons a r => .cons a (take n r)
theorem drop : ∀ {xs : List V} {ds : List PyData} (n : Nat), DpAll K H xs ds → DpAll K H (xs.drop n) (ds.drop n)
  | _, _, 0, h => h
  | _, _, n + 1, .nil => .nil
  | _, _, n + 1, .cons a r => drop n r
theorem set : ∀ {xs : List V} {ds : List PyData} (n : Nat) {x : V} {d : PyData}, DpAll K H xs ds → Dp K H x d → DpAll K H (xs.set n x) (ds.set n d)
  | _, _, _, _, _, .nil, _ => .nil
  | _, _, 0, _, _, .cons a r, h => .cons h r
  | _, _, n + 1, _, _, .cons a r, h => .cons a (set n r h)
theorem two {x y : V} {a b : PyData} (h1 : Dp K H x a) (h2 : Dp K H y b) : DpAll K H [x, y] [a, b] := .cons h1 (.cons h2 .nil)
theorem intz (ns : List Int) : DpAll K H (ns.map V.int) (ns.map PyData.int) := Dk.dp_all ns
theorem strz : ∀ ns : List Str, DpAll K H (ns.map V.str) (ns.map PyData.str)
  | [] => .nil
  | n :: r => .cons (.str n) (strz r)
theorem of_strs : ∀ {xs : List V} {ns : List Str}, DpAll K H xs (ns.map PyData.str) → xs = ns.map V.str
  | _, [], .nil => rfl
  | _, n :: r, .cons a g => by rw [str a, of_strs g]; rfl
theorem of_ints : ∀ {xs : List V} {ns : List Int}, DpAll K H xs (ns.map PyData.int) → xs = ns.map V.int
  | _, [], .nil => rfl
  | _, n :: r, .cons a g => by rw [int a, of_ints g]; rfl
/-- the list's own data, once more where others are appended -/
theorem snoc {xs : List V} {ds : List PyData} {x : V} {d : PyData} (h : DpAll K H xs ds) (g : Dp K H x d) : DpAll K H (xs ++ [x]) (ds ++ [d]) := app h (.cons g .nil)
theorem noLs_of : ∀ {ds : List PyData}, (∀ d ∈ ds, noL d = true) → noLs ds = true
  | [], _ => by simp [noLs]
  | d :: ds, h => by simp [noLs, h d (List.mem_cons_self ..), noLs_of fun x hx => h x (List.mem_cons_of_mem d hx)]
theorem noL_tup {ds : List PyData} (h : ∀ d ∈ ds, noL d = true) : noL (.tuple ds) = true := by simpa [noL] using noLs_of h
/-! == of data, told -/
theorem eqv_int (a b : Int) : PyData.eqv (.int a) (.int b) = decide (a = b) := by simp [PyData.eqv]; by_cases h : a = b <;> simp [h]
theorem eqv_bl (a b : Bool) : PyData.eqv (.bool a) (.bool b) = decide (a = b) := by cases a <;> cases b <;> simp [PyData.eqv]
end Dt
namespace Dt
open PySem PySem.Spec PyProof.Rows L2 Gx
theorem k_ne {K : PySem.W.Frag} {H : Hp} {Q : VK} {x y : V} {d : PyData} {k : Nat} (hx : Dp K H x d) (hy : Dp K H y d) (s : Sh k d) (q : Q (.bl false) H) (e : k ≤ 64 := by decide) : rNeU K x y H Q := k_neD hx hy (by rw [refl s]; exact q) (s.ok e) (s.ok e)
end Dt
namespace Dt
open PySem PySem.Spec PyProof.Rows L2 Gx
theorem bools {K : PySem.W.Frag} {H : Hp} : ∀ bs : List Bool, DpAll K H (bs.map V.bl) (bs.map PyData.bool)
  | [] => .nil
  | b :: r => .cons (.bl b) (bools r)
theorem sh_bools (bs : List Bool) : Sh 1 (.tuple (bs.map PyData.bool)) := sh_tup fun d hd => by
  obtain ⟨b, _, rfl⟩ := List.mem_map.mp hd
  exact sh_bl b
end Dt
namespace Fr
open PySem PySem.Spec PyProof.Rows L2
/-- a fraction's two parts -/
abbrev fq (q : Rat) : List V := [.int q.num, .int (q.den : Int)]
def fqd (q : Rat) : PyData := .tuple [.int q.num, .int (q.den : Int)]
theorem dp_fq {K : PySem.W.Frag} {H : Hp} {p : Addr} {q : Rat} (h : SqT K H p (fq q)) : Dp K H (.ref p) (fqd q) := .tup h (.cons (.int _) (.cons (.int _) .nil))
theorem shaped_fq (q : Rat) : SeqAt.shaped (fqd q) = true := by simp [SeqAt.shaped, fqd, PyData.canLay0, PyData.canLayAll0, PyData.depth, PyData.depthAll]
theorem eqv_fq (x y : Rat) : PyData.eqv (fqd x) (fqd y) = decide (x = y) := by
  have e : PyData.eqv (fqd x) (fqd y) = (decide (x.num = y.num) && decide (x.den = y.den)) := by
    simp [fqd, PyData.eqv, PyData.eqvAll]
    by_cases h1 : x.num = y.num <;> by_cases h2 : x.den = y.den <;> simp [h1, h2] <;> omega
  rw [e]
  by_cases h : x = y
  · simp [h]
  · have : ¬ (x.num = y.num ∧ x.den = y.den) := fun z => h (Rat.ext z.1 z.2)
    simp [h]
    exact fun z w => this ⟨z, w⟩
/-! ### the greatest divisor -/
theorem gcd_fmod (a b : Int) : Int.gcd b (a.fmod b) = Int.gcd a b := by
  rw [Int.fmod_def, Int.gcd_sub_mul_left_right, Int.gcd_comm]
theorem fmod_nn (a : Int) {b : Int} (h : 0 < b) : 0 ≤ a.fmod b := by
  rw [Int.fmod_eq_emod_of_nonneg a (by omega)]
  exact Int.emod_nonneg _ (by omega)
theorem fmod_less {a b : Int} (h : b ≠ 0) : (a.fmod b).natAbs < b.natAbs := by
  rcases Int.lt_or_lt_of_ne h with c | c
  · have e : a.fmod b = -((-a).fmod (-b)) := by
      rw [Int.fmod_def, Int.fmod_def, Int.neg_fdiv_neg]
      have := Int.neg_mul b (a.fdiv b)
      omega
    have h1 := fmod_nn (-a) (show 0 < -b by omega)
    have h2 := Int.fmod_lt_of_pos (-a) (show 0 < -b by omega)
    omega
  · have h1 := fmod_nn a c
    have h2 := Int.fmod_lt_of_pos a c
    omega
/-- what lowest makes -/
theorem low_num {a b d : Int} (hb : b ≠ 0) (hd : d = if b < 0 then 0 - (Int.gcd a b : Int) else (Int.gcd a b : Int)) : a.fdiv d = (Rat.divInt a b).num := by
  have g0 : (0 : Int) < Int.gcd a b := by have := Int.gcd_pos_of_ne_zero_right a hb; omega
  obtain ⟨k, hk⟩ := Int.gcd_dvd_left a b
  rw [Rat.num_divInt, Int.gcd_comm b a]
  rcases Int.lt_or_lt_of_ne hb with c | c
  · rw [if_pos c] at hd
    rw [Int.sign_eq_neg_one_of_neg c]
    have e1 : a.fdiv d = -k := by
      have : a = d * (-k) := by rw [hd, Int.zero_sub, Int.neg_mul_neg]; exact hk
      rw [this]
      exact Int.mul_fdiv_cancel_left _ (by omega)
    have e2 : -1 * a / (Int.gcd a b : Int) = -k := by
      have : -1 * a = (Int.gcd a b : Int) * (-k) := by rw [Int.mul_neg, ← hk]; omega
      rw [this]
      exact Int.mul_ediv_cancel_left _ (by omega)
    rw [e1, e2]
  · rw [if_neg (by omega)] at hd
    rw [Int.sign_eq_one_of_pos c, Int.one_mul, hd, Int.fdiv_eq_ediv_of_nonneg a (by omega)]
theorem low_den {a b d : Int} (hb : b ≠ 0) (hd : d = if b < 0 then 0 - (Int.gcd a b : Int) else (Int.gcd a b : Int)) : b.fdiv d = ((Rat.divInt a b).den : Int) := by
  have g0 : (0 : Int) < Int.gcd a b := by have := Int.gcd_pos_of_ne_zero_right a hb; omega
  obtain ⟨k, hk⟩ := Int.gcd_dvd_right a b
  have e3 : ((Rat.divInt a b).den : Int) = (b.natAbs : Int) / (Int.gcd a b : Int) := by
    rw [Rat.den_divInt, if_neg hb, Int.gcd_comm b a]
    rfl
  rw [e3]
  rcases Int.lt_or_lt_of_ne hb with c | c
  · rw [if_pos c] at hd
    have e1 : b.fdiv d = -k := by
      have : b = d * (-k) := by rw [hd, Int.zero_sub, Int.neg_mul_neg]; exact hk
      rw [this]
      exact Int.mul_fdiv_cancel_left _ (by omega)
    have e2 : (b.natAbs : Int) / (Int.gcd a b : Int) = -k := by
      have : (b.natAbs : Int) = (Int.gcd a b : Int) * (-k) := by rw [Int.mul_neg, ← hk]; omega
      rw [this]
      exact Int.mul_ediv_cancel_left _ (by omega)
    rw [e1, e2]
  · rw [if_neg (by omega)] at hd
    rw [hd, Int.fdiv_eq_ediv_of_nonneg b (by omega)]
    congr 1
    omega
/-! ### sizes -/
def Sz (n : Nat) (q : Rat) : Prop := q.num.natAbs < 2 ^ n ∧ q.den < 2 ^ n
theorem pw {a b : Nat} (h : a ≤ b) : 2 ^ a ≤ 2 ^ b := Nat.pow_le_pow_right (by decide) h
theorem Sz.mono {m n : Nat} {q : Rat} (h : Sz m q) (l : m ≤ n) : Sz n q := ⟨Nat.lt_of_lt_of_le h.1 (pw l), Nat.lt_of_lt_of_le h.2 (pw l)⟩
theorem divInt_num_le {a b : Int} (hb : b ≠ 0) : (Rat.divInt a b).num.natAbs ≤ a.natAbs := by
  rw [Rat.num_divInt]
  have h : (b.sign * a / (Int.gcd b a : Int)).natAbs ≤ (b.sign * a).natAbs := Int.natAbs_ediv_le_natAbs _ _
  have e : (b.sign * a).natAbs = a.natAbs := by
    rw [Int.natAbs_mul, Int.natAbs_sign_of_ne_zero hb, Nat.one_mul]
  omega
theorem divInt_den_le {a b : Int} (hb : b ≠ 0) : (Rat.divInt a b).den ≤ b.natAbs := by
  rw [Rat.den_divInt, if_neg hb]
  exact Nat.div_le_self _ _
theorem sz_divInt {a b : Int} {n : Nat} (hb : b ≠ 0) (h1 : a.natAbs < 2 ^ n) (h2 : b.natAbs < 2 ^ n) : Sz n (Rat.divInt a b) := ⟨Nat.lt_of_le_of_lt (divInt_num_le hb) h1, Nat.lt_of_le_of_lt (divInt_den_le hb) h2⟩
theorem mul_lt {a b : Int} {m n : Nat} (ha : a.natAbs < 2 ^ m) (hb : b.natAbs < 2 ^ n) : (a * b).natAbs < 2 ^ (m + n) := by
  rw [Int.natAbs_mul, Nat.pow_add]
  exact Nat.mul_lt_mul'' ha hb
theorem add_lt {a b : Int} {m : Nat} (ha : a.natAbs < 2 ^ m) (hb : b.natAbs < 2 ^ m) : (a + b).natAbs < 2 ^ (m + 1) := by
  rw [Nat.pow_succ]
  omega
theorem sub_lt {a b : Int} {m : Nat} (ha : a.natAbs < 2 ^ m) (hb : b.natAbs < 2 ^ m) : (a - b).natAbs < 2 ^ (m + 1) := by
  rw [Nat.pow_succ]
  omega
theorem den_ne (q : Rat) : (q.den : Int) ≠ 0 := by have := q.den_nz; omega
theorem den_pos (q : Rat) : (0 : Int) < (q.den : Int) := by have := q.den_nz; omega
theorem add_eq (x y : Rat) : Rat.divInt (x.num * y.den + y.num * x.den) (x.den * y.den) = x + y := by
  rw [Rat.add_def']
  exact Rat.divInt_ofNat _ (x.den * y.den)
theorem sub_eq (x y : Rat) : Rat.divInt (x.num * y.den - y.num * x.den) (x.den * y.den) = x - y := by
  rw [Rat.sub_def']
  exact Rat.divInt_ofNat _ (x.den * y.den)
theorem mul_eq (x y : Rat) : Rat.divInt (x.num * y.num) (x.den * y.den) = x * y := by
  rw [Rat.mul_def']
  exact Rat.divInt_ofNat _ (x.den * y.den)
theorem div_eq (x y : Rat) : Rat.divInt (x.num * y.den) (x.den * y.num) = x / y := by
  rw [Rat.div_def, Rat.inv_def, ← Rat.divInt_mul_divInt, Rat.num_divInt_den]
theorem Sz.den {n : Nat} {q : Rat} (h : Sz n q) : ((q.den : Int)).natAbs < 2 ^ n := h.2
theorem dd_lt {x y : Rat} {m n : Nat} (hx : Sz m x) (hy : Sz n y) : ((x.den : Int) * (y.den : Int)).natAbs < 2 ^ (m + n) := mul_lt hx.den hy.den
theorem up1 {a : Int} {n : Nat} (h : a.natAbs < 2 ^ n) : a.natAbs < 2 ^ (n + 1) := Nat.lt_of_lt_of_le h (pw (by omega))
theorem nn_lt {x y : Rat} {m n : Nat} (hx : Sz m x) (hy : Sz n y) : (x.num * (y.den : Int) + y.num * (x.den : Int)).natAbs < 2 ^ (m + n + 1) := by
  have h1 := mul_lt hx.1 hy.den
  have h2 := mul_lt hy.1 hx.den
  rw [Nat.add_comm n m] at h2
  exact add_lt h1 h2
theorem ns_lt {x y : Rat} {m n : Nat} (hx : Sz m x) (hy : Sz n y) : (x.num * (y.den : Int) - y.num * (x.den : Int)).natAbs < 2 ^ (m + n + 1) := by
  have h1 := mul_lt hx.1 hy.den
  have h2 := mul_lt hy.1 hx.den
  rw [Nat.add_comm n m] at h2
  exact sub_lt h1 h2
theorem Sz.add {x y : Rat} {m n : Nat} (hx : Sz m x) (hy : Sz n y) : Sz (m + n + 1) (x + y) := by
  rw [← add_eq]
  exact sz_divInt (Int.mul_ne_zero (den_ne x) (den_ne y)) (nn_lt hx hy) (up1 (dd_lt hx hy))
theorem Sz.sub {x y : Rat} {m n : Nat} (hx : Sz m x) (hy : Sz n y) : Sz (m + n + 1) (x - y) := by
  rw [← sub_eq]
  exact sz_divInt (Int.mul_ne_zero (den_ne x) (den_ne y)) (ns_lt hx hy) (up1 (dd_lt hx hy))
theorem Sz.mul {x y : Rat} {m n : Nat} (hx : Sz m x) (hy : Sz n y) : Sz (m + n) (x * y) := by
  rw [← mul_eq]
  exact sz_divInt (Int.mul_ne_zero (den_ne x) (den_ne y)) (mul_lt hx.1 hy.1) (dd_lt hx hy)
theorem num_ne {y : Rat} (h : y ≠ 0) : y.num ≠ 0 := fun z => h (Rat.num_eq_zero.mp z)
theorem Sz.div {x y : Rat} {m n : Nat} (hx : Sz m x) (hy : Sz n y) : Sz (m + n) (x / y) := by
  by_cases h : y = 0
  · rw [h, Rat.div_def, Rat.inv_zero, Rat.mul_zero]
    have h3 : 1 < 2 ^ m := by have := hx.2; have := x.den_nz; omega
    exact ⟨Nat.lt_of_lt_of_le (by decide) (Nat.one_le_two_pow (n := m + n)), Nat.lt_of_lt_of_le h3 (pw (by omega))⟩
  · rw [← div_eq]
    exact sz_divInt (Int.mul_ne_zero (den_ne x) (num_ne h)) (mul_lt hx.1 hy.den) (mul_lt hx.den hy.1)
theorem gcd_small {a b : Int} {n : Nat} (hb : b ≠ 0) (h : b.natAbs < 2 ^ n) : Int.gcd a b < 2 ^ n := Nat.lt_of_le_of_lt (Int.gcd_le_natAbs_right a hb) h
end Fr
namespace Lw
open PySem PySem.Spec PyProof.Rows L2 Gx
/-- a divisor that the division may have -/
def Okd (a b : Int) : Prop := (a.natAbs < 2 ^ 13500 ∧ b.natAbs < 2 ^ 13500) ∨ Int.gcd a b < 2 ^ 9000
theorem Okd.div {a b d : Int} (h : Okd a b) (e : d.natAbs = Int.gcd a b) : Builtin.divisionGoesByPylong a d = false ∧ Builtin.divisionGoesByPylong b d = false := by
  rcases h with ⟨h1, h2⟩ | h
  · exact ⟨noPy_mid h1, noPy_mid h2⟩
  · exact ⟨noPy_low (by rw [e]; exact h), noPy_low (by rw [e]; exact h)⟩
theorem okd_den {a b : Int} {n : Nat} (hb : b ≠ 0) (h : b.natAbs < 2 ^ n) (hn : n ≤ 9000) : Okd a b := .inr (Nat.lt_of_lt_of_le (Fr.gcd_small hb h) (Fr.pw hn))
/-- a great fraction times a small one: what both parts have in common is small -/
theorem okd_mul {x y : Rat} {n : Nat} (hy : y ≠ 0) (sy : Fr.Sz n y) (h : 2 * n ≤ 9000) : Okd (x.num * y.num) ((x.den : Int) * (y.den : Int)) := by
  refine .inr (Nat.lt_of_lt_of_le ?_ (Fr.pw h))
  have e : Int.gcd (x.num * y.num) ((x.den : Int) * (y.den : Int)) = Nat.gcd (x.num.natAbs * y.num.natAbs) (x.den * y.den) := by
    unfold Int.gcd
    rw [Int.natAbs_mul, Int.natAbs_mul, Int.natAbs_natCast, Int.natAbs_natCast]
  rw [e]
  have d := Nat.gcd_mul_right_dvd_mul_gcd (x.num.natAbs * y.num.natAbs) x.den y.den
  have c0 : Nat.gcd (x.num.natAbs * y.num.natAbs) x.den ∣ y.num.natAbs := by
    have cp : Nat.Coprime x.den x.num.natAbs := x.reduced.symm
    have h2 : Nat.Coprime (Nat.gcd (x.num.natAbs * y.num.natAbs) x.den) x.num.natAbs := Nat.Coprime.coprime_dvd_left (Nat.gcd_dvd_right ..) cp
    exact h2.dvd_of_dvd_mul_left (Nat.gcd_dvd_left ..)
  have c1 := Nat.gcd_dvd_right (x.num.natAbs * y.num.natAbs) y.den
  have yn : y.num.natAbs ≠ 0 := fun z => hy (Rat.num_eq_zero.mp (Int.natAbs_eq_zero.mp z))
  have l0 := Nat.le_of_dvd (by omega) c0
  have l1 := Nat.le_of_dvd y.den_pos c1
  have pos : 0 < Nat.gcd (x.num.natAbs * y.num.natAbs) x.den * Nat.gcd (x.num.natAbs * y.num.natAbs) y.den := Nat.mul_pos (Nat.gcd_pos_of_pos_right _ x.den_pos) (Nat.gcd_pos_of_pos_right _ y.den_pos)
  have l2 := Nat.le_of_dvd pos d
  have l3 := Nat.mul_le_mul l0 l1
  have l4 : y.num.natAbs * y.den < 2 ^ n * 2 ^ n := Nat.mul_lt_mul'' sy.1 sy.2
  have e2 : 2 ^ (2 * n) = 2 ^ n * 2 ^ n := by rw [Nat.two_mul, Nat.pow_add]
  omega
end Lw
namespace Lw
open PySem PySem.Spec PyProof.Rows L2 Gx
/-- whether a value is a whole number, by its type -/
def Whole (K : PySem.W.Frag) (H : Hp) (x : V) (b : Bool) : Prop := ∃ (t : Value) (b1 b2 : Bool), TyX K H x t ∧ PySem.W.kitOne K t (.type "int") = some b1 ∧ PySem.W.kitOne K t (.type "bool") = some b2 ∧ b = (b1 && !b2)
theorem Whole.int {K : PySem.W.Frag} {H : Hp} (i : Int) : Whole K H (.int i) true := ⟨.type "int", true, false, .base (.int i), kit_ty (by decide +kernel), kit_ty (by decide +kernel), rfl⟩
theorem Whole.bl {K : PySem.W.Frag} {H : Hp} (b : Bool) : Whole K H (.bl b) false := ⟨.type "bool", true, true, .base (.bl b), kit_ty (by decide +kernel), kit_ty (by decide +kernel), rfl⟩
theorem Whole.str {K : PySem.W.Frag} {H : Hp} (x : Str) : Whole K H (.str x) false := ⟨.type "str", false, false, .base (.str x), kit_ty (by decide +kernel), kit_ty (by decide +kernel), rfl⟩
theorem Whole.non {K : PySem.W.Frag} {H : Hp} : Whole K H .non false := ⟨.type "NoneType", false, false, .base .non, kit_ty (by decide +kernel), kit_ty (by decide +kernel), rfl⟩
theorem Whole.same {K : PySem.W.Frag} {H H' : Hp} (e : Same H H') {x : V} {b : Bool} (h : Whole K H x b) : Whole K H' x b := by
  obtain ⟨t, b1, b2, ht, h⟩ := h
  exact ⟨t, b1, b2, tyx_same e ht, h⟩
theorem Whole.tup {K : PySem.W.Frag} {H : Hp} {p : Addr} {xs : List V} (h : SqT K H p xs) : Whole K H (.ref p) false := ⟨.type "tuple", false, false, ty_tup h, kit_ty (by decide +kernel), kit_ty (by decide +kernel), rfl⟩
theorem Whole.lst {K : PySem.W.Frag} {H : Hp} {p : Addr} {xs : List V} (h : SqL K H p xs) : Whole K H (.ref p) false := ⟨.type "list", false, false, ty_lst h, kit_ty (by decide +kernel), kit_ty (by decide +kernel), rfl⟩
theorem Whole.dict {K : PySem.W.Frag} {H : Hp} {p : Addr} {kvs : List (Key × V)} (h : H p = some (.dK kvs)) : Whole K H (.ref p) false := ⟨.type "dict", false, false, .base (.dK h), kit_ty (by decide +kernel), kit_ty (by decide +kernel), rfl⟩
/-- whether a thing is a fraction -/
inductive IsF (K : PySem.W.Frag) (H : Hp) : V → Bool → Prop
  | kind {x : V} {t : Value} (ht : TyX K H x t) (hk : PySem.W.kitOne K t (.type "tuple") = some false) : IsF K H x false
  | len {p : Addr} {xs : List V} (h : SqT K H p xs) (hl : xs.length ≠ 2) : IsF K H (.ref p) false
  | parts {p : Addr} {u v : V} {bu bv : Bool} (h : SqT K H p [u, v]) (hu : Whole K H u bu) (hv : Whole K H v bv) (hb : (bu && bv) = false) : IsF K H (.ref p) false
  | whole {p : Addr} {c d : Int} (h : SqT K H p [.int c, .int d]) : IsF K H (.ref p) (decide (0 < d) && decide (Int.gcd c d = 1))
theorem IsF.int {K : PySem.W.Frag} {H : Hp} (i : Int) : IsF K H (.int i) false := .kind (.base (.int i)) (kit_ty (by decide +kernel))
theorem IsF.bl {K : PySem.W.Frag} {H : Hp} (b : Bool) : IsF K H (.bl b) false := .kind (.base (.bl b)) (kit_ty (by decide +kernel))
theorem IsF.str {K : PySem.W.Frag} {H : Hp} (x : Str) : IsF K H (.str x) false := .kind (.base (.str x)) (kit_ty (by decide +kernel))
theorem IsF.non {K : PySem.W.Frag} {H : Hp} : IsF K H .non false := .kind (.base .non) (kit_ty (by decide +kernel))
theorem IsF.lst {K : PySem.W.Frag} {H : Hp} {p : Addr} {xs : List V} (h : SqL K H p xs) : IsF K H (.ref p) false := .kind (ty_lst h) (kit_ty (by decide +kernel))
theorem IsF.dict {K : PySem.W.Frag} {H : Hp} {p : Addr} {kvs : List (Key × V)} (h : H p = some (.dK kvs)) : IsF K H (.ref p) false := .kind (.base (.dK h)) (kit_ty (by decide +kernel))
theorem IsF.yes {K : PySem.W.Frag} {H : Hp} {p : Addr} {q : Rat} (h : SqT K H p (Fr.fq q)) : IsF K H (.ref p) true := by
  have e2 : Int.gcd q.num (q.den : Int) = 1 := q.reduced
  have z := IsF.whole h
  rw [decide_eq_true (Fr.den_pos q), decide_eq_true e2] at z
  exact z
theorem all_cons {α : Type} {P : α → Prop} {a : α} {l : List α} (h : P a) (r : ∀ x ∈ l, P x) : ∀ x ∈ a :: l, P x := fun x hx => by
  rcases List.mem_cons.mp hx with e | e
  · rw [e]; exact h
  · exact r x e
theorem at_mem {xs : List V} {i : Int} (h0 : 0 ≤ i) (h1 : i < xs.length) : ∃ v, v ∈ xs ∧ atI xs i = some v := by
  obtain ⟨n, rfl⟩ : ∃ n : Nat, i = (n : Int) := ⟨i.toNat, by omega⟩
  exact ⟨xs[n]'(by omega), List.getElem_mem _, atI_nat (by simp)⟩
end Lw
namespace Lw
open PySem PySem.Spec PyProof.Rows L2 Gx
/-- fractions at some addresses -/
def Fqs (K : PySem.W.Frag) (H : Hp) (vs : List V) (qs : List Rat) : Prop := Paired (fun v q => ∃ p, v = V.ref p ∧ SqT K H p (Fr.fq q)) vs qs
theorem Fqs.same {K : PySem.W.Frag} {H H' : Hp} (e : Same H H') : ∀ {vs : List V} {qs : List Rat}, Fqs K H vs qs → Fqs K H' vs qs
  | _, _, .nil => .nil
  | _, _, .cons ⟨p, h1, h2⟩ r => .cons ⟨p, h1, seqT_same e h2⟩ (Fqs.same e r)
theorem Fqs.get {K : PySem.W.Frag} {H : Hp} : ∀ {vs : List V} {qs : List Rat} {i : Nat} {v : V}, Fqs K H vs qs → vs[i]? = some v → ∃ p q, v = .ref p ∧ qs[i]? = some q ∧ SqT K H p (Fr.fq q)
  | _, _, 0, v, .cons (b := q) ⟨p, h1, h2⟩ r, e => ⟨p, q, (Option.some.inj e).symm.trans h1, rfl, h2⟩
  | _, _, i + 1, v, .cons ⟨p, h1, h2⟩ r, e => Fqs.get (i := i) r e
theorem Fqs.len {K : PySem.W.Frag} {H : Hp} {vs : List V} {qs : List Rat} (h : Fqs K H vs qs) : vs.length = qs.length := Paired.length h
def sum (qs : List Rat) : Rat := qs.foldl (· + ·) 0
def szs (ns : List Nat) : Nat := ns.foldl (fun a n => a + n + 1) 1
theorem szs_snoc (l : List Nat) (n : Nat) : szs (l ++ [n]) = szs l + n + 1 := by simp [szs]
theorem sum_snoc (l : List Rat) (q : Rat) : sum (l ++ [q]) = sum l + q := by simp [sum]
theorem szs_take (l : List Nat) (i : Nat) : szs (l.take i) ≤ szs l := by
  have h : ∀ (m : List Nat) (a b : Nat), a ≤ b → a ≤ m.foldl (fun a n => a + n + 1) b := fun m => by
    induction m with
    | nil => intro a b h; exact h
    | cons x r ih => intro a b h; exact ih a _ (show a ≤ b + x + 1 by omega)
  have e : szs l = (l.drop i).foldl (fun a n => a + n + 1) (szs (l.take i)) := by
    unfold szs
    rw [← List.foldl_append, List.take_append_drop]
  rw [e]
  exact h _ _ _ (Nat.le_refl _)
theorem take_snoc {α : Type} {l : List α} {i : Nat} {x : α} (h : l[i]? = some x) : l.take (i + 1) = l.take i ++ [x] := by
  rw [List.take_add_one, h]
  rfl
theorem Paired.get {α β : Type} {F : α → β → Prop} : ∀ {as : List α} {bs : List β} {i : Nat} {a : α}, Paired F as bs → as[i]? = some a → ∃ b, bs[i]? = some b ∧ F a b
  | _, _, 0, a, .cons (b := b) h r, e => ⟨b, rfl, (Option.some.inj e) ▸ h⟩
  | _, _, i + 1, a, .cons h r, e => Paired.get (i := i) r e
theorem Fqs.snoc {K : PySem.W.Frag} {H : Hp} {p : Addr} {q : Rat} (h : SqT K H p (Fr.fq q)) : ∀ {vs : List V} {qs : List Rat}, Fqs K H vs qs → Fqs K H (vs ++ [.ref p]) (qs ++ [q])
  | _, _, .nil => .cons ⟨p, rfl, h⟩ .nil
  | _, _, .cons a r => .cons a (Fqs.snoc h r)
theorem Fqs.put {K : PySem.W.Frag} {H : Hp} {p : Addr} {q : Rat} (h : SqT K H p (Fr.fq q)) : ∀ (k : Nat) {vs : List V} {qs : List Rat}, Fqs K H vs qs → Fqs K H (vs.take k ++ [.ref p] ++ vs.drop k) (qs.take k ++ [q] ++ qs.drop k)
  | 0, _, _, r => .cons ⟨p, rfl, h⟩ r
  | _ + 1, _, _, .nil => .cons ⟨p, rfl, h⟩ .nil
  | k + 1, _, _, .cons a r => .cons a (Fqs.put h k r)
theorem foldl_add (l : List Rat) (a : Rat) : l.foldl (· + ·) a = a + sum l := by
  induction l generalizing a with
  | nil => show a = a + 0; rw [Rat.add_zero]
  | cons x r ih =>
    show r.foldl (· + ·) (a + x) = a + r.foldl (· + ·) (0 + x)
    rw [ih, ih, Rat.zero_add, Rat.add_assoc]
theorem sum_app (l m : List Rat) : sum (l ++ m) = sum l + sum m := by
  show (l ++ m).foldl (· + ·) 0 = _
  rw [List.foldl_append]
  exact foldl_add m _
theorem sum_put (l : List Rat) (k : Nat) (q : Rat) : sum (l.take k ++ [q] ++ l.drop k) = sum l + q := by
  have e : sum l = sum (l.take k) + sum (l.drop k) := by rw [← sum_app, List.take_append_drop]
  rw [sum_app, sum_app, e, show sum [q] = q from Rat.zero_add q, Rat.add_assoc, Rat.add_assoc, Rat.add_comm q]
theorem Fqs.dp {K : PySem.W.Frag} {H : Hp} : ∀ {vs : List V} {qs : List Rat}, Fqs K H vs qs → DpAll K H vs (qs.map Fr.fqd)
  | _, _, .nil => .nil
  | _, _, .cons ⟨p, e, h⟩ r => by
    subst e
    exact .cons (Fr.dp_fq h) (Fqs.dp r)
theorem shaped_fqs (qs : List Rat) : SeqAt.shaped (.list (qs.map Fr.fqd)) = true := by
  have h : ∀ l : List Rat, PyData.canLayAll0 (l.map Fr.fqd) = true ∧ PyData.depthAll (l.map Fr.fqd) ≤ 1 := fun l => by
    induction l with
    | nil => exact ⟨by simp [PyData.canLayAll0], by simp [PyData.depthAll]⟩
    | cons n r ih => exact ⟨by simp [PyData.canLayAll0, PyData.canLay0, Fr.fqd, ih.1], by simp [PyData.depthAll, PyData.depth, Fr.fqd]; have := ih.2; omega⟩
  obtain ⟨h1, h2⟩ := h qs
  have h3 : PyData.depthAll (qs.map Fr.fqd) + 1 ≤ 64 := by omega
  simp [SeqAt.shaped, PyData.canLay0, PyData.depth, h1, h3]
theorem szs_rep (n : Nat) : szs (List.replicate n 200) = 1 + 201 * n := by
  induction n with
  | zero => rfl
  | succ n ih => rw [List.replicate_succ', szs_snoc, ih]; omega
def All200 (qs : List Rat) : Prop := ∀ q ∈ qs, Fr.Sz 200 q
theorem All200.paired : ∀ {qs : List Rat}, All200 qs → Paired (fun q n => Fr.Sz n q) qs (List.replicate qs.length 200)
  | [], _ => .nil
  | q :: r, h => .cons (h q (List.mem_cons_self ..)) (All200.paired fun x hx => h x (List.mem_cons_of_mem _ hx))
end Lw
namespace Lw
open PySem PySem.Spec PyProof.Rows L2 Gx
theorem Fqs.imm {K : PySem.W.Frag} {H H' : Hp} (e : Imm H H') : ∀ {vs : List V} {qs : List Rat}, Fqs K H vs qs → Fqs K H' vs qs
  | _, _, .nil => .nil
  | _, _, .cons ⟨p, h, g⟩ r => .cons ⟨p, h, seqT_imm e g⟩ (Fqs.imm e r)
end Lw
namespace Pl
open PySem PySem.Spec PyProof.Rows L2 Gx
abbrev P := List (Str × Int)
def pd (p : Str × Int) : PyData := .tuple [.str p.1, .int p.2]
def d (pl : P) : PyData := .tuple (pl.map pd)
def tot (pl : P) : Int := (pl.map (·.2)).sum
/-- a name: one to eight small letters -/
def Nm (s : Str) : Prop := 1 ≤ s.cps.size ∧ s.cps.size ≤ 8 ∧ ∀ c ∈ s.cps.toList, 97 ≤ c ∧ c ≤ 122
structure Good (pl : P) : Prop where
  nd : (pl.map (·.1)).Nodup
  nm : ∀ p ∈ pl, Nm p.1
  pos : ∀ p ∈ pl, 0 ≤ p.2
  t1 : 1 ≤ tot pl
  t2 : tot pl ≤ 60
  len : pl.length ≤ 9
def place : P → Int → Option (Str × Int)
  | [], _ => none
  | p :: r, k => if k < p.2 then some (p.1, k) else place r (k - p.2)
def numb : P → Str → Int → Int → Option Int
  | [], _, _, _ => none
  | p :: r, s, k, a => if p.1 = s ∧ 0 ≤ k ∧ k < p.2 then some (a + k) else numb r s k (a + p.2)
def row (p : Str × Int) : List (Str × Int) := (List.range p.2.toNat).map fun (k : Nat) => (p.1, (k : Int))
def places (pl : P) : List (Str × Int) := pl.flatMap row
theorem row_len (p : Str × Int) : (row p).length = p.2.toNat := by simp [row]
theorem tot_cons (p : Str × Int) (r : P) : tot (p :: r) = p.2 + tot r := by simp [tot]
theorem tot_nn : ∀ {pl : P}, (∀ p ∈ pl, 0 ≤ p.2) → 0 ≤ tot pl
  | [], _ => by simp [tot]
  | p :: r, h => by
    rw [tot_cons]
    have := tot_nn fun x hx => h x (List.mem_cons_of_mem p hx)
    have := h p (List.mem_cons_self ..)
    omega
theorem places_len : ∀ {pl : P}, (∀ p ∈ pl, 0 ≤ p.2) → ((places pl).length : Int) = tot pl
  | [], _ => rfl
  | p :: r, h => by
    have e : places (p :: r) = row p ++ places r := rfl
    rw [e, List.length_append, row_len, tot_cons]
    have := places_len fun x hx => h x (List.mem_cons_of_mem p hx)
    have := h p (List.mem_cons_self ..)
    omega
theorem row_at {p : Str × Int} {k : Nat} (h : (k : Int) < p.2) : (row p)[k]? = some (p.1, (k : Int)) := by
  unfold row
  rw [List.getElem?_map, List.getElem?_range (by omega)]
  rfl
theorem place_eq : ∀ {pl : P} {k : Nat}, (∀ p ∈ pl, 0 ≤ p.2) → place pl (k : Int) = (places pl)[k]?
  | [], k, _ => by simp [place, places]
  | p :: r, k, h => by
    have h0 := h p (List.mem_cons_self ..)
    have e : places (p :: r) = row p ++ places r := rfl
    rw [e]
    show (if (k : Int) < p.2 then _ else _) = _
    by_cases c : (k : Int) < p.2
    · rw [if_pos c, List.getElem?_append_left (by rw [row_len]; omega), row_at c]
    · rw [if_neg c, List.getElem?_append_right (by rw [row_len]; omega), row_len, show (k : Int) - p.2 = ((k - p.2.toNat : Nat) : Int) by omega]
      exact place_eq fun x hx => h x (List.mem_cons_of_mem p hx)
theorem mem_row {p q : Str × Int} (h : q ∈ row p) : q.1 = p.1 ∧ 0 ≤ q.2 ∧ q.2 < p.2 := by
  unfold row at h
  obtain ⟨k, hk, rfl⟩ := List.mem_map.mp h
  have := List.mem_range.mp hk
  exact ⟨rfl, by simp, by show (k : Int) < p.2; omega⟩
theorem mem_places : ∀ {pl : P} {q : Str × Int}, q ∈ places pl ↔ ∃ p ∈ pl, q.1 = p.1 ∧ 0 ≤ q.2 ∧ q.2 < p.2
  | pl, q => by
    unfold places
    rw [List.mem_flatMap]
    constructor
    · rintro ⟨p, hp, hq⟩
      exact ⟨p, hp, mem_row hq⟩
    · rintro ⟨p, hp, e, h0, h1⟩
      refine ⟨p, hp, ?_⟩
      unfold row
      rw [List.mem_map]
      refine ⟨q.2.toNat, List.mem_range.mpr (by omega), ?_⟩
      rw [← e, Int.toNat_of_nonneg h0]
theorem numb_none : ∀ {pl : P} {s : Str} {k a : Int}, numb pl s k a = none ↔ (s, k) ∉ places pl
  | [], s, k, a => by simp [numb, places]
  | p :: r, s, k, a => by
    have ih := numb_none (pl := r) (s := s) (k := k) (a := a + p.2)
    show (if _ then _ else _) = none ↔ _
    by_cases c : p.1 = s ∧ 0 ≤ k ∧ k < p.2
    · rw [if_pos c]
      refine ⟨fun z => (by cases z), fun z => (z ?_).elim⟩
      exact mem_places.mpr ⟨p, List.mem_cons_self .., c.1.symm, c.2.1, c.2.2⟩
    · rw [if_neg c, ih, mem_places, mem_places]
      constructor
      · rintro h ⟨x, hx, e⟩
        rcases List.mem_cons.mp hx with q | q
        · subst q; exact c ⟨e.1.symm, e.2.1, e.2.2⟩
        · exact h ⟨x, q, e⟩
      · rintro h ⟨x, hx, e⟩
        exact h ⟨x, List.mem_cons_of_mem _ hx, e⟩
theorem numb_at : ∀ {pl : P} {s : Str} {k a : Int} {i : Nat}, (pl.map (·.1)).Nodup → (∀ p ∈ pl, 0 ≤ p.2) → (places pl)[i]? = some (s, k) → numb pl s k a = some (a + (i : Int))
  | [], s, k, a, i, _, _, h => by simp [places] at h
  | p :: r, s, k, a, i, nd, h0, h => by
    have e : places (p :: r) = row p ++ places r := rfl
    have hp := h0 p (List.mem_cons_self ..)
    rw [List.map_cons, List.nodup_cons] at nd
    rw [e] at h
    show (if _ then _ else _) = _
    by_cases c : i < (row p).length
    · rw [List.getElem?_append_left c] at h
      rw [row_len] at c
      rw [row_at (by omega)] at h
      cases h
      rw [if_pos ⟨rfl, by omega, by omega⟩]
    · rw [List.getElem?_append_right (by omega)] at h
      rw [row_len] at h c
      have hm := mem_places.mp (List.mem_of_getElem? h)
      obtain ⟨x, hx, ex, _, _⟩ := hm
      rw [if_neg (fun z => nd.1 (by rw [z.1, show s = x.1 from ex]; exact List.mem_map_of_mem hx))]
      rw [numb_at nd.2 (fun x hx => h0 x (List.mem_cons_of_mem p hx)) h]
      congr 1
      omega
theorem sum_set : ∀ (cs : List Int) (j : Nat) (v : Int), j < cs.length → (cs.set j v).sum = cs.sum - cs.getD j 0 + v
  | [], j, v, h => by simp at h
  | c :: r, 0, v, h => by simp; omega
  | c :: r, j + 1, v, h => by
    have ih := sum_set r j v (by simpa using h)
    simp at ih ⊢
    omega
theorem sum_nn : ∀ {cs : List Int}, (∀ c ∈ cs, 0 ≤ c) → 0 ≤ cs.sum ∧ ∀ c ∈ cs, c ≤ cs.sum
  | [], _ => ⟨by simp, fun _ h => nomatch h⟩
  | c :: r, h => by
    obtain ⟨h1, h2⟩ := sum_nn fun x hx => h x (List.mem_cons_of_mem c hx)
    have h0 := h c (List.mem_cons_self ..)
    rw [List.sum_cons]
    refine ⟨by omega, fun x hx => ?_⟩
    rcases List.mem_cons.mp hx with e | e
    · rw [e]; omega
    · have := h2 x e; omega
theorem sum_set0 {cs : List Int} (h : ∀ c ∈ cs, 0 ≤ c) (h0 : cs.sum = 0) {j : Nat} (hj : j < cs.length) (v : Int) : (cs.set j v).sum = v := by
  obtain ⟨_, h2⟩ := sum_nn h
  have hm : cs.getD j 0 ∈ cs := by
    rw [show cs.getD j 0 = cs[j] by simp [hj]]
    exact List.getElem_mem hj
  have := h2 _ hm
  have := h _ hm
  rw [sum_set cs j v hj]
  omega
theorem zip_set : ∀ {ns : List Str} {cs : List Int} {j : Nat} {s : Str} (v : Int), ns[j]? = some s → ns.zip (cs.set j v) = (ns.zip cs).set j (s, v)
  | [], _, _, _, _, h => by simp at h
  | n :: r, [], j, s, v, h => by simp
  | n :: r, c :: t, 0, s, v, h => by simp at h; simp [h]
  | n :: r, c :: t, j + 1, s, v, h => by
    have ih := zip_set (cs := t) v (show r[j]? = some s by simpa using h)
    simp [ih]
/-! data -/
theorem noL_d (pl : P) : noL (d pl) = true := Dt.noL_tup fun x hx => by
  obtain ⟨p, _, rfl⟩ := List.mem_map.mp hx
  rfl
theorem Nm.ok {s : Str} (h : Nm s) : PyData.strOk s = true := by
  unfold PyData.strOk
  rw [← Array.all_toList, List.all_eq_true]
  intro c hc
  have := h.2.2 c hc
  simp
  omega
theorem sh_pd0 {k : Nat} {p : Str × Int} (h : PyData.strOk p.1 = true) : Dt.Sh (k + 1) (pd p) := Dt.sh_tup fun x hx => by
  rcases List.mem_cons.mp hx with e | e
  · rw [e]; exact Dt.sh_str h
  · rw [List.mem_singleton.mp e]; exact Dt.sh_int _
theorem ok_app {a b : Str} (h : PyData.strOk a = true) (g : PyData.strOk b = true) : PyData.strOk (a ++ b) = true := by
  unfold PyData.strOk at h g ⊢
  show (a.cps ++ b.cps).all _ = true
  rw [Array.all_append, h, g]
  rfl
theorem sh_pd {k : Nat} {p : Str × Int} (h : Nm p.1) : Dt.Sh (k + 1) (pd p) := Dt.sh_tup fun x hx => by
  rcases List.mem_cons.mp hx with e | e
  · rw [e]; exact Dt.sh_str h.ok
  · rw [List.mem_singleton.mp e]; exact Dt.sh_int _
theorem sh_places {pl : P} (h : ∀ p ∈ pl, Nm p.1) : ∀ q ∈ places pl, Nm q.1 := fun q hq => by
  obtain ⟨p, hp, e, _⟩ := mem_places.mp hq
  rw [e]
  exact h p hp
/-- a piles' tuple at a place -/
theorem at_pd {K : PySem.W.Frag} {H : Hp} {xs : List V} {pl : P} {i : Nat} {x : V} (h : DpAll K H xs (pl.map pd)) (e : xs[i]? = some x) : ∃ p s, pl[i]? = some p ∧ x = .ref s ∧ SqT K H s [.str p.1, .int p.2] := by
  obtain ⟨z, hz, hd⟩ := Dt.at_ h e
  rw [List.getElem?_map] at hz
  cases q : pl[i]? with
  | none => rw [q] at hz; cases hz
  | some p =>
    rw [q] at hz
    cases hz
    obtain ⟨s, u, v, rfl, hs, h1, h2⟩ := Dt.pair hd
    rw [Dt.str h1, Dt.int h2] at hs
    exact ⟨p, s, rfl, rfl, hs⟩
theorem dp_pd {K : PySem.W.Frag} {H : Hp} {s : Addr} {p : Str × Int} (h : SqT K H s [.str p.1, .int p.2]) : Dp K H (.ref s) (pd p) := .tup h (Dt.two (.str _) (.int _))
/-! what a place is -/
inductive IsPl (K : PySem.W.Frag) (H : Hp) : V → Option (Str × Int) → Prop
  | kind {x : V} {t : Value} (ht : TyX K H x t) (hk : PySem.W.kitOne K t (.type "tuple") = some false) : IsPl K H x none
  | len {p : Addr} {xs : List V} (h : SqT K H p xs) (hl : xs.length ≠ 2) : IsPl K H (.ref p) none
  | key {p : Addr} {u v : V} {t : Value} (h : SqT K H p [u, v]) (ht : TyX K H u t) (hk : PySem.W.kitOne K t (.type "str") = some false) : IsPl K H (.ref p) none
  | num {p : Addr} {s : Str} {v : V} (h : SqT K H p [.str s, v]) (hv : Lw.Whole K H v false) : IsPl K H (.ref p) none
  | yes {p : Addr} {s : Str} {k : Int} (h : SqT K H p [.str s, .int k]) : IsPl K H (.ref p) (some (s, k))
theorem IsPl.same {K : PySem.W.Frag} {H H' : Hp} (e : Same H H') {x : V} {o : Option (Str × Int)} (h : IsPl K H x o) : IsPl K H' x o := by
  cases h with
  | kind ht hk => exact .kind (tyx_same e ht) hk
  | len h hl => exact .len (seqT_same e h) hl
  | key h ht hk => exact .key (seqT_same e h) (tyx_same e ht) hk
  | num h hv => exact .num (seqT_same e h) (hv.same e)
  | yes h => exact .yes (seqT_same e h)
/-- a place, its name a text that can be laid -/
def Pq (K : PySem.W.Frag) (H : Hp) (x : V) : Prop := ∃ o, IsPl K H x o ∧ ∀ z, o = some z → PyData.strOk z.1 = true
theorem Pq.same {K : PySem.W.Frag} {H H' : Hp} (e : Same H H') {x : V} (h : Pq K H x) : Pq K H' x := by
  obtain ⟨o, h, g⟩ := h
  exact ⟨o, h.same e, g⟩
theorem Pq.no {K : PySem.W.Frag} {H : Hp} {x : V} (h : IsPl K H x none) : Pq K H x := ⟨none, h, fun _ z => nomatch z⟩
theorem Pq.yes {K : PySem.W.Frag} {H : Hp} {p : Addr} {s : Str} {k : Int} (h : SqT K H p [.str s, .int k]) (g : PyData.strOk s = true) : Pq K H (.ref p) := ⟨_, .yes h, fun z e => by cases e; exact g⟩
theorem eqv_pd (a b : Str × Int) : PyData.eqv (pd a) (pd b) = decide (a = b) := by
  obtain ⟨s, k⟩ := a
  obtain ⟨t, j⟩ := b
  by_cases h : s = t <;> by_cases g : k = j <;> simp [pd, PyData.eqv, PyData.eqvAll, h, g]
end Pl
namespace Pl
open PySem PySem.Spec PyProof.Rows L2 Gx
def abc : Str := "abcdefghijklmnopqrstuvwxyz"
theorem abc_at {i : Int} (h0 : 0 ≤ i) (h1 : i < 26) : atI abc.cps.toList i = some (97 + i.toNat) := by
  obtain ⟨k, rfl⟩ := Int.eq_ofNat_of_zero_le h0
  have h : ∀ k : Fin 26, atI abc.cps.toList ((k.1 : Nat) : Int) = some (97 + ((k.1 : Nat) : Int).toNat) := by decide +kernel
  exact h ⟨k, by omega⟩
def one (c : Nat) : Str := ⟨#[c]⟩
theorem join_ones : ∀ cs : List Nat, Txt.join Str.empty (cs.map one) = ⟨cs.toArray⟩ := fun cs => by
  show Builtin.Str.glued Str.empty (cs.map one) = _
  rw [PySem.StrLaws.glued_eq_join]
  induction cs with
  | nil => rfl
  | cons c r ih =>
    cases r with
    | nil => rfl
    | cons c2 r =>
      rw [List.map_cons, List.map_cons, join_cons_cons, ← List.map_cons, ih]
      show Str.append (Str.append (one c) Str.empty) ⟨_⟩ = _
      simp [Str.append, one, Str.empty]
theorem sum_ones (cs : List Nat) : ((cs.map one).map (·.length)).sum = cs.length := by
  induction cs with
  | nil => rfl
  | cons c r ih => rw [List.map_cons, List.map_cons, List.sum_cons, ih, List.length_cons]; show 1 + r.length = _; omega
/-- a text, one letter of it changed -/
def nm (cs : List Nat) (k : Nat) (c : Nat) : Str := ⟨(cs.set k c).toArray⟩
def Letters (cs : List Nat) : Prop := ∀ c ∈ cs, 97 ≤ c ∧ c ≤ 122
theorem Letters.set {cs : List Nat} (h : Letters cs) (k : Nat) {c : Nat} (hc : 97 ≤ c ∧ c ≤ 122) : Letters (cs.set k c) := fun x hx => by
  rcases List.mem_or_eq_of_mem_set hx with e | e
  · exact h x e
  · rw [e]; exact hc
theorem nm_of {cs : List Nat} (h : Letters cs) (h1 : 1 ≤ cs.length) (h8 : cs.length ≤ 8) : Nm ⟨cs.toArray⟩ := ⟨by simpa using h1, by simpa using h8, fun c hc => h c (by simpa using hc)⟩
theorem nm_inj {cs : List Nat} {k c d : Nat} (hk : k < cs.length) (h : nm cs k c = nm cs k d) : c = d := by
  unfold nm at h
  have h2 : cs.set k c = cs.set k d := by simpa using h
  have h3 := congrArg (fun l => l[k]?) h2
  simpa [hk] using h3
/-- so many names, one after another -/
def some_ (cs : List Nat) (k : Nat) (c0 : Int) (m : Nat) : List Str := (List.range m).map fun (j : Nat) => nm cs k (97 + ((c0 + (j : Int)) % 26).toNat)
theorem some_len (cs : List Nat) (k : Nat) (c0 : Int) (m : Nat) : (some_ cs k c0 m).length = m := by simp [some_]
theorem some_succ (cs : List Nat) (k : Nat) (c0 : Int) (m : Nat) : some_ cs k c0 (m + 1) = some_ cs k c0 m ++ [nm cs k (97 + ((c0 + (m : Int)) % 26).toNat)] := by simp [some_, List.range_succ]
theorem some_nd {cs : List Nat} {k : Nat} (hk : k < cs.length) (c0 : Int) {m : Nat} (hm : m ≤ 9) : (some_ cs k c0 m).Nodup := by
  unfold some_
  refine List.pairwise_map.mpr (List.Pairwise.imp_of_mem ?_ List.pairwise_lt_range)
  intro a b ha hb hab e
  have := nm_inj hk e
  have := List.mem_range.mp ha
  have := List.mem_range.mp hb
  omega
theorem some_nm {cs : List Nat} {k : Nat} (h : Letters cs) (h1 : 1 ≤ cs.length) (h8 : cs.length ≤ 8) (c0 : Int) (m : Nat) : ∀ s ∈ some_ cs k c0 m, Nm s := fun s hs => by
  obtain ⟨j, _, rfl⟩ := List.mem_map.mp hs
  exact nm_of (h.set k (by omega)) (by simpa using h1) (by simpa using h8)
theorem some_size {cs : List Nat} {k : Nat} {c0 : Int} {m : Nat} : ∀ s ∈ some_ cs k c0 m, s.cps.size = cs.length := fun s hs => by
  obtain ⟨j, _, rfl⟩ := List.mem_map.mp hs
  simp [nm]
/-- a text's front -/
theorem cut_front {s : Str} {k : Nat} (h : k ≤ s.cps.size) : cutS s none (some (k : Int)) = ⟨(s.cps.toList.take k).toArray⟩ := by
  unfold cutS
  rw [HT.sIx_none, HT.sIx_nat, Nat.min_eq_left (show k ≤ s.length from h)]
  rfl
def fr (s : Str) (k : Nat) : Str := ⟨(s.cps.toList.take (k + 1)).toArray⟩
theorem fr_size {s : Str} {k : Nat} (h : k < s.cps.size) : (fr s k).cps.size = k + 1 := by
  simp [fr]
  omega
theorem fr_nm {s : Str} {k : Nat} (h : Nm s) (hk : k < s.cps.size) : Nm (fr s k) := by
  refine ⟨by rw [fr_size hk]; omega, by rw [fr_size hk]; have := h.2.1; omega, fun c hc => h.2.2 c ?_⟩
  have : c ∈ s.cps.toList.take (k + 1) := by simpa [fr] using hc
  exact List.mem_of_mem_take this
theorem fr_all {s : Str} (h : s.cps.size = 8) : fr s 7 = s := by
  cases s with
  | mk a =>
    unfold fr
    congr 1
    have : a.toList.length = 8 := by simpa using h
    show (a.toList.take 8).toArray = a
    rw [List.take_of_length_le (by omega)]
/-- the fronts of the first, then the others -/
theorem fronts_nd {s : Str} {r : List Str} (h : s.cps.size = 8) (hr : ∀ x ∈ r, x.cps.size = 8) (nd : (s :: r).Nodup) : ((List.range 8).map (fr s) ++ r).Nodup := by
  have nd2 := List.nodup_cons.mp nd
  refine List.pairwise_append.mpr ⟨?_, nd2.2, ?_⟩
  · refine List.pairwise_map.mpr (List.Pairwise.imp_of_mem ?_ List.pairwise_lt_range)
    intro a b ha hb hab e
    have := List.mem_range.mp ha
    have := List.mem_range.mp hb
    have e2 : (fr s a).cps.size = (fr s b).cps.size := congrArg (fun x : Str => x.cps.size) e
    rw [fr_size (by omega), fr_size (by omega)] at e2
    omega
  · intro a ha b hb e
    obtain ⟨j, hj, rfl⟩ := List.mem_map.mp ha
    have := List.mem_range.mp hj
    have e2 : (fr s j).cps.size = b.cps.size := congrArg (fun x : Str => x.cps.size) e
    rw [fr_size (by omega), hr b hb] at e2
    obtain rfl : j = 7 := by omega
    rw [fr_all h] at e
    exact nd2.1 (e ▸ hb)
end Pl
namespace Pl
open PySem PySem.Spec PyProof.Rows L2 Gx
/-- a text with a letter put in -/
def nm2 (cs : List Nat) (k : Nat) (c : Nat) : Str := ⟨(cs.take k ++ c :: cs.drop k).toArray⟩
def some2 (cs : List Nat) (k : Nat) (c0 st : Int) (m : Nat) : List Str := (List.range m).map fun (j : Nat) => nm2 cs k (97 + ((c0 + (j : Int) * st) % 26).toNat)
theorem some2_succ (cs : List Nat) (k : Nat) (c0 st : Int) (m : Nat) : some2 cs k c0 st (m + 1) = some2 cs k c0 st m ++ [nm2 cs k (97 + ((c0 + (m : Int) * st) % 26).toNat)] := by simp [some2, List.range_succ]
theorem nm2_inj {cs : List Nat} {k c d : Nat} (h : nm2 cs k c = nm2 cs k d) : c = d := by
  unfold nm2 at h
  have h2 : cs.take k ++ c :: cs.drop k = cs.take k ++ d :: cs.drop k := by simpa using h
  have h3 := List.append_cancel_left h2
  exact (List.cons.inj h3).1
theorem some2_nd {cs : List Nat} {k : Nat} (hk : k ≤ cs.length) (c0 : Int) {st : Int} (hs : 1 ≤ st ∧ st ≤ 3) {m : Nat} (hm : m ≤ 8) : (some2 cs k c0 st m).Nodup := by
  unfold some2
  refine List.pairwise_map.mpr (List.Pairwise.imp_of_mem ?_ List.pairwise_lt_range)
  intro a b ha hb hab e
  have := nm2_inj e
  have := List.mem_range.mp ha
  have := List.mem_range.mp hb
  have h3 : st = 1 ∨ st = 2 ∨ st = 3 := by omega
  rcases h3 with rfl | rfl | rfl <;> omega
theorem some2_nm {cs : List Nat} {k : Nat} (h : Letters cs) (h8 : cs.length ≤ 7) (c0 st : Int) (m : Nat) : ∀ s ∈ some2 cs k c0 st m, Nm s := fun s hs => by
  obtain ⟨j, _, rfl⟩ := List.mem_map.mp hs
  unfold nm2
  refine nm_of (fun c hc => ?_) (by simp; omega) (by simp; omega)
  rcases List.mem_append.mp hc with e | e
  · exact h c (List.mem_of_mem_take e)
  · rcases List.mem_cons.mp e with e | e
    · rw [e]; omega
    · exact h c (List.mem_of_mem_drop e)
theorem cut_back {s : Str} {k : Nat} (h : k ≤ s.cps.size) : cutS s (some (k : Int)) none = ⟨(s.cps.toList.drop k).toArray⟩ := by
  unfold cutS
  rw [HT.sIx_none, HT.sIx_nat, Nat.min_eq_left (show k ≤ s.length from h)]
  show (⟨((s.cps.toList.drop k).take (s.length - k)).toArray⟩ : Str) = _
  rw [List.take_of_length_le (by show _ ≤ s.cps.size - k; simp)]
theorem nm2_eq {cs : List Nat} {k c : Nat} (h : k ≤ cs.length) : ((⟨((⟨cs.toArray⟩ : Str).cps.toList.take k).toArray⟩ : Str) ++ (⟨#[c]⟩ : Str)) ++ cutS ⟨cs.toArray⟩ (some (k : Int)) none = nm2 cs k c := by
  rw [cut_back (by simpa using h)]
  unfold nm2
  show (⟨(_ ++ _) ++ _⟩ : Str) = _
  simp
end Pl
namespace Cm
open PySem PySem.Spec PyProof.Rows L2 Gx
/-- a claim -/
inductive C
  | claim
  | beats (o t : Str)
  | over (n : Str) (s : Rat)
  | under (n : Str) (s : Rat)
def greatest : C → Rat
  | .claim => 1/2
  | .beats _ _ => 1
  | .over _ s => (1/2) / s
  | .under _ s => (1/2) / (1 - s)
def valueOf : C → Option Str → Rat
  | .claim, _ => 1/2
  | .beats o t, m => if m = some o then 1 else if m = some t then 0 else 1/2
  | .over n s, m => if m = none ∨ m = some (Str.ofString "") then 1/2 else if m = some n then greatest (.over n s) else 0
  | .under n s, m => if m = none ∨ m = some (Str.ofString "") then 1/2 else if m = some n then 0 else greatest (.under n s)
def value (c : C) (m : Option Str) : Rat := if m = some (Str.ofString "?") then 0 else valueOf c m
def Ok (n : Nat) : C → Prop
  | .over _ s => 0 < s ∧ s < 1 ∧ Fr.Sz n s
  | .under _ s => 0 < s ∧ s < 1 ∧ Fr.Sz n s
  | _ => True
def At (K : PySem.W.Frag) (H : Hp) (a : Addr) : C → Prop
  | .claim => ∃ dx, H a = some (.ins (He.ga K "Claim") dx [])
  | .beats o t => ∃ dx, H a = some (.ins (He.ga K "Beats") dx [("one", .str o), ("other", .str t)])
  | .over n s => ∃ dx q, H a = some (.ins (He.ga K "Over") dx [("name", .str n), ("share", .ref q)]) ∧ SqT K H q (Fr.fq s)
  | .under n s => ∃ dx q, H a = some (.ins (He.ga K "Under") dx [("name", .str n), ("share", .ref q)]) ∧ SqT K H q (Fr.fq s)
theorem At.same {K : PySem.W.Frag} {H H' : Hp} (e : Same H H') {a : Addr} : ∀ {c : C}, At K H a c → At K H' a c
  | .claim, ⟨dx, h⟩ => ⟨dx, e _ _ h⟩
  | .beats _ _, ⟨dx, h⟩ => ⟨dx, e _ _ h⟩
  | .over _ _, ⟨dx, q, h, g⟩ => ⟨dx, q, e _ _ h, seqT_same e g⟩
  | .under _ _, ⟨dx, q, h, g⟩ => ⟨dx, q, e _ _ h, seqT_same e g⟩
theorem ins_lst {C dx : Addr} {fs : List (Str × V)} {xs : List V} : HO.ins C dx fs ≠ HO.lst xs := fun z => by cases z
theorem At.but {K : PySem.W.Frag} {H H' : Hp} {l : Addr} {ys : List V} (b : But l H H') (hl : H l = some (.lst ys)) {a : Addr} : ∀ {c : C}, At K H a c → At K H' a c
  | .claim, ⟨dx, h⟩ => ⟨dx, b _ _ (ne_of h hl ins_lst) h⟩
  | .beats _ _, ⟨dx, h⟩ => ⟨dx, b _ _ (ne_of h hl ins_lst) h⟩
  | .over _ _, ⟨dx, q, h, g⟩ => ⟨dx, q, b _ _ (ne_of h hl ins_lst) h, seqT_but b hl g⟩
  | .under _ _, ⟨dx, q, h, g⟩ => ⟨dx, q, b _ _ (ne_of h hl ins_lst) h, seqT_but b hl g⟩
/-- a mark: a text, or None -/
def mv : Option Str → V
  | none => .non
  | some s => .str s
theorem k_eqM {K : PySem.W.Frag} {H : Hp} {Q : VK} {m : Option Str} {s : Str} (q : Q (.bl (decide (m = some s))) H) : rEqU K (mv m) (.str s) H Q := by
  cases m with
  | none => exact k_eqS rfl (by rw [show decide (mv none = .str s) = decide ((none : Option Str) = some s) by simp [mv]]; exact q)
  | some t => exact k_eqT (by rw [show decide (t = s) = decide (some t = some s) by by_cases h : t = s <;> simp [h]]; exact q)
theorem k_neM {K : PySem.W.Frag} {H : Hp} {Q : VK} {m : Option Str} {s : Str} (q : Q (.bl (!decide (m = some s))) H) : rNeU K (mv m) (.str s) H Q := by
  cases m with
  | none => exact k_neS rfl (by rw [show decide (mv none = .str s) = decide ((none : Option Str) = some s) by simp [mv]]; exact q)
  | some t => exact k_neT (by rw [show decide (t = s) = decide (some t = some s) by by_cases h : t = s <;> simp [h]]; exact q)
theorem dec_non (m : Option Str) : decide (mv m = V.non) = decide (m = none) := by
  cases m <;> simp [mv]
theorem fq0 : Fr.fq 0 = [.int 0, .int 1] := rfl
theorem fq1 : Fr.fq 1 = [.int 1, .int 1] := rfl
theorem fqh : Fr.fq (1/2) = [.int 1, .int 2] := by
  have e1 : (1/2 : Rat).num = 1 := by decide +kernel
  have e2 : (1/2 : Rat).den = 2 := by decide +kernel
  show [V.int (1/2 : Rat).num, V.int ((1/2 : Rat).den : Int)] = _
  rw [e1, e2]
  rfl
theorem sz0 {n : Nat} : Fr.Sz (n + 2) 0 := ⟨by show (0 : Int).natAbs < _; exact Nat.two_pow_pos _, by show 1 < 2 ^ (n + 2); have := Nat.two_pow_pos n; rw [Nat.pow_add]; omega⟩
theorem sz1 {n : Nat} : Fr.Sz (n + 2) 1 := ⟨by show 1 < 2 ^ (n + 2); have := Nat.two_pow_pos n; rw [Nat.pow_add]; omega, by show 1 < 2 ^ (n + 2); have := Nat.two_pow_pos n; rw [Nat.pow_add]; omega⟩
theorem szh {n : Nat} : Fr.Sz (n + 2) (1/2) := by
  have e1 : (1/2 : Rat).num = 1 := by decide +kernel
  have e2 : (1/2 : Rat).den = 2 := by decide +kernel
  have := Nat.two_pow_pos n
  refine ⟨?_, ?_⟩
  · rw [e1, Nat.pow_add]; show 1 < _; omega
  · rw [e2, Nat.pow_add]; omega
theorem ne1 {s : Rat} (h : s < 1) : 1 - s ≠ 0 := fun z => by
  have e : s = 1 := by grind
  rw [e] at h
  exact absurd h (by decide)
theorem ne0 {s : Rat} (h : 0 < s) : s ≠ 0 := fun z => by rw [z] at h; exact absurd h (by decide)
theorem sz_greatest {n : Nat} : ∀ {c : C}, Ok n c → Fr.Sz (n + 5) (greatest c)
  | .claim, _ => (szh (n := n)).mono (by omega)
  | .beats _ _, _ => (sz1 (n := n)).mono (by omega)
  | .over _ s, h => (Fr.Sz.div (m := 2) (szh (n := 0)) h.2.2).mono (by omega)
  | .under _ s, h => (Fr.Sz.div (m := 2) (szh (n := 0)) (Fr.Sz.sub (m := 2) (sz1 (n := 0)) h.2.2)).mono (by omega)
theorem sz_valueOf {n : Nat} (c : C) (h : Ok n c) (m : Option Str) : Fr.Sz (n + 5) (valueOf c m) := by
  have g := sz_greatest h
  have a0 : Fr.Sz (n + 5) 0 := (sz0 (n := n)).mono (by omega)
  have a1 : Fr.Sz (n + 5) 1 := (sz1 (n := n)).mono (by omega)
  have ah : Fr.Sz (n + 5) (1/2) := (szh (n := n)).mono (by omega)
  cases c with
  | claim => exact ah
  | beats o t =>
    show Fr.Sz (n + 5) (if m = some o then 1 else if m = some t then 0 else 1/2)
    split
    · exact a1
    · split
      · exact a0
      · exact ah
  | over k s =>
    show Fr.Sz (n + 5) (if m = none ∨ m = some (Str.ofString "") then 1/2 else if m = some k then greatest (.over k s) else 0)
    split
    · exact ah
    · split
      · exact g
      · exact a0
  | under k s =>
    show Fr.Sz (n + 5) (if m = none ∨ m = some (Str.ofString "") then 1/2 else if m = some k then 0 else greatest (.under k s))
    split
    · exact ah
    · split
      · exact a0
      · exact g
theorem sz_value {n : Nat} (c : C) (h : Ok n c) (m : Option Str) : Fr.Sz (n + 5) (value c m) := by
  unfold value
  split
  · exact (sz0 (n := n)).mono (by omega)
  · exact sz_valueOf c h m
/-! shares -/
theorem num_pos {s : Rat} (h : 0 < s) : 0 < s.num := by
  have := (Rat.lt_iff 0 s).mp h
  have e : (0 : Rat).num * (s.den : Int) = 0 := by rw [show (0 : Rat).num = 0 from rfl, Int.zero_mul]
  have e2 : s.num * ((0 : Rat).den : Int) = s.num := by rw [show (0 : Rat).den = 1 from rfl]; omega
  rw [e, e2] at this
  exact this
theorem num_lt {s : Rat} (h : s < 1) : s.num < (s.den : Int) := by
  have := (Rat.lt_iff s 1).mp h
  have e : s.num * ((1 : Rat).den : Int) = s.num := by rw [show (1 : Rat).den = 1 from rfl]; omega
  have e2 : (1 : Rat).num * (s.den : Int) = (s.den : Int) := by rw [show (1 : Rat).num = 1 from rfl]; omega
  rw [e, e2] at this
  exact this
theorem share_pos {a b : Int} (ha : 1 ≤ a) (hb : a < b) : 0 < Rat.divInt a b ∧ Rat.divInt a b < 1 := by
  constructor
  · have e : Rat.divInt a b = (a : Rat) / (b : Rat) := Rat.divInt_eq_div a b
    rw [e, Rat.lt_div_iff (by exact_mod_cast (show (0 : Int) < b by omega)), Rat.zero_mul]
    exact_mod_cast (show (0 : Int) < a by omega)
  · have e : Rat.divInt a b = (a : Rat) / (b : Rat) := Rat.divInt_eq_div a b
    rw [e, Rat.div_lt_iff (by exact_mod_cast (show (0 : Int) < b by omega)), Rat.one_mul]
    exact_mod_cast hb
theorem half_num : (1/2 : Rat).num = 1 := by decide +kernel
theorem half_den : (1/2 : Rat).den = 2 := by decide +kernel
theorem half_over (s : Rat) : Rat.divInt (s.den : Int) (2 * s.num) = (1/2) / s := by
  rw [← Fr.div_eq, half_num, half_den, Int.one_mul]
  rfl
theorem one_sub (s : Rat) : Rat.divInt ((s.den : Int) - s.num) (s.den : Int) = 1 - s := by
  rw [← Fr.sub_eq]
  show _ = Rat.divInt (1 * (s.den : Int) - s.num * 1) (1 * (s.den : Int))
  rw [Int.one_mul, Int.mul_one]
theorem half_under (s : Rat) : Rat.divInt (s.den : Int) (2 * ((s.den : Int) - s.num)) = (1/2) / (1 - s) := by
  rw [← one_sub s]
  have e : (1/2 : Rat) = Rat.divInt 1 2 := by decide +kernel
  rw [e, Rat.div_def, Rat.inv_divInt, Rat.divInt_mul_divInt, Int.one_mul]
/-! marks among names -/
theorem flat_mv (m : Option Str) : flatV (mv m) = true := by cases m <;> rfl
theorem flat_strs (ns : List Str) : (ns.map V.str).all flatV = true := by simp [flatV]
theorem in_mv (m : Option Str) : ∀ ns : List Str, inV (mv m) (ns.map V.str) = decide (∃ n ∈ ns, m = some n) := fun ns => by
  unfold inV
  induction ns with
  | nil => simp
  | cons a r ih =>
    rw [List.map_cons, List.any_cons, ih]
    cases m with
    | none => simp [mv, eqV]
    | some t =>
      have e : eqV (V.str a) (mv (some t)) = decide (a = t) := by
        show (a == t) = _
        by_cases h : a = t
        · simp [h]
        · rw [decide_eq_false h, beq_eq_false_iff_ne.mpr h]
      rw [e]
      by_cases h : a = t
      · simp [h]
      · have h2 : ¬ t = a := fun z => h z.symm
        simp [h, h2]
/-! a claim's method, whatever its class -/
def pick {α : Type} (c : C) (a b d e : α) : α := match c with
  | .claim => a
  | .beats _ _ => b
  | .over _ _ => d
  | .under _ _ => e
theorem pick_same {α : Type} (c : C) (a : α) : pick c a a a a = a := by cases c <;> rfl
theorem k_m4 {K : PySem.W.Frag} {σ : L2.St} {H : Hp} {Q : VK} {ta : TE} {t : TA} {m : Str} {sp1 sp2 sp3 sp4 : Sp} {E : L2.St → XK} {a : Addr} {c : C} (hev : ∀ Q : VK, Q (.ref a) H → ta σ H Q) (hc : At K H a c) (q : t σ H fun vs H2 => (pick c sp1 sp2 sp3 sp4) (.ref a :: vs) H2 Q (E σ))
    (h1 : (m == (Str.ofString "one")) = false := by decide +kernel) (h2 : (m == (Str.ofString "other")) = false := by decide +kernel) (h3 : (m == (Str.ofString "name")) = false := by decide +kernel) (h4 : (m == (Str.ofString "share")) = false := by decide +kernel) :
    tOr2 (tMethS (He.ga K "Claim") m sp1 E ta t) (tOr2 (tMethS (He.ga K "Beats") m sp2 E ta t) (tOr2 (tMethS (He.ga K "Over") m sp3 E ta t) (tMethS (He.ga K "Under") m sp4 E ta t))) σ H Q := by
  cases c with
  | claim =>
    obtain ⟨dx, hi⟩ := hc
    exact k_o1 (k_meth (hev _ (k_methx hi lk0 q)))
  | beats o u =>
    obtain ⟨dx, hi⟩ := hc
    exact k_o2 (k_o1 (k_meth (hev _ (k_methx hi (lkz h1 (lkz h2 lk0)) q))))
  | over n s =>
    obtain ⟨dx, p, hi, _⟩ := hc
    exact k_o2 (k_o2 (k_o1 (k_meth (hev _ (k_methx hi (lkz h3 (lkz h4 lk0)) q)))))
  | under n s =>
    obtain ⟨dx, p, hi, _⟩ := hc
    exact k_o2 (k_o2 (k_o2 (k_meth (hev _ (k_methx hi (lkz h3 (lkz h4 lk0)) q)))))
end Cm
namespace Cm
open PySem PySem.Spec PyProof.Rows L2 Gx
/-- a claim as the law tells it: a tuple -/
def Ct (K : PySem.W.Frag) (H : Hp) (p : Addr) : C → Prop
  | .claim => False
  | .beats o t => SqT K H p [.str (Str.ofString "beats"), .str o, .str t]
  | .over n s => ∃ q, SqT K H p [.str (Str.ofString "over"), .str n, .ref q] ∧ SqT K H q (Fr.fq s)
  | .under n s => ∃ q, SqT K H p [.str (Str.ofString "under"), .str n, .ref q] ∧ SqT K H q (Fr.fq s)
theorem Ct.same {K : PySem.W.Frag} {H H' : Hp} (e : Same H H') {p : Addr} : ∀ {c : C}, Ct K H p c → Ct K H' p c
  | .beats _ _, h => seqT_same e h
  | .over _ _, ⟨q, h, g⟩ => ⟨q, seqT_same e h, seqT_same e g⟩
  | .under _ _, ⟨q, h, g⟩ => ⟨q, seqT_same e h, seqT_same e g⟩
theorem Ct.but {K : PySem.W.Frag} {H H' : Hp} {l : Addr} {ys : List V} (b : But l H H') (hl : H l = some (.lst ys)) {p : Addr} : ∀ {c : C}, Ct K H p c → Ct K H' p c
  | .beats _ _, h => seqT_but b hl h
  | .over _ _, ⟨q, h, g⟩ => ⟨q, seqT_but b hl h, seqT_but b hl g⟩
  | .under _ _, ⟨q, h, g⟩ => ⟨q, seqT_but b hl h, seqT_but b hl g⟩
/-- of two names that are unlike -/
def Un : C → Prop
  | .beats o t => o ≠ t
  | _ => True
/-- of these names -/
def Of (ns : List Str) : C → Prop
  | .claim => True
  | .beats o t => o ∈ ns ∧ t ∈ ns
  | .over n _ => n ∈ ns
  | .under n _ => n ∈ ns
def kindOf : C → Str
  | .claim => Str.ofString ""
  | .beats _ _ => Str.ofString "beats"
  | .over _ _ => Str.ofString "over"
  | .under _ _ => Str.ofString "under"
/-- the kind stands ahead, a name behind it -/
theorem Ct.at0 {K : PySem.W.Frag} {H : Hp} {p : Addr} : ∀ {c : C}, Ct K H p c → ∃ xs, SqT K H p xs ∧ atI xs 0 = some (.str (kindOf c))
  | .beats _ _, h => ⟨_, h, rfl⟩
  | .over _ _, ⟨q, h, g⟩ => ⟨_, h, rfl⟩
  | .under _ _, ⟨q, h, g⟩ => ⟨_, h, rfl⟩
theorem d_bo : decide (Str.ofString "beats" = Str.ofString "over") = false := by decide +kernel
theorem d_ob : decide (Str.ofString "over" = Str.ofString "beats") = false := by decide +kernel
theorem d_ub : decide (Str.ofString "under" = Str.ofString "beats") = false := by decide +kernel
theorem d_uo : decide (Str.ofString "under" = Str.ofString "over") = false := by decide +kernel
theorem d_bb : decide (Str.ofString "beats" = Str.ofString "beats") = true := by decide +kernel
theorem d_oo : decide (Str.ofString "over" = Str.ofString "over") = true := by decide +kernel
theorem cval_over (n : Str) (s : Rat) (m : Option Str) (h : ¬ (m = none ∨ m = some (Str.ofString ""))) : valueOf (.over n s) m = if m = some n then (1/2) / s else 0 := if_neg h
theorem cval_under (n : Str) (s : Rat) (m : Option Str) (h : ¬ (m = none ∨ m = some (Str.ofString ""))) : valueOf (.under n s) m = if m = some n then 0 else (1/2) / (1 - s) := if_neg h
/-- another place, further on -/
theorem other_place {f r : Int} {n : Nat} (hf : 0 ≤ f ∧ f < n) (hr : 0 ≤ r ∧ r < (n : Int) - 1) : 0 ≤ (f + 1 + r) % (n : Int) ∧ (f + 1 + r) % (n : Int) < n ∧ (f + 1 + r) % (n : Int) ≠ f := by
  have h0 := Int.emod_nonneg (f + 1 + r) (show (n : Int) ≠ 0 by omega)
  have h1 := Int.emod_lt_of_pos (f + 1 + r) (show (0 : Int) < n by omega)
  refine ⟨h0, h1, fun e => ?_⟩
  by_cases c : f + 1 + r < n
  · rw [Int.emod_eq_of_lt (by omega) c] at e; omega
  · have e2 : (f + 1 + r) % (n : Int) = f + 1 + r - n := by
      rw [← Int.sub_emod_right, Int.emod_eq_of_lt (by omega) (by omega)]
    omega
theorem two_apart {ns : List Str} (nd : ns.Nodup) {i j : Int} {a b : Str} (h : i ≠ j) (h0 : 0 ≤ i) (h1 : 0 ≤ j) (ha : atI (ns.map V.str) i = some (.str a)) (hb : atI (ns.map V.str) j = some (.str b)) : a ≠ b := fun e => by
  obtain ⟨x, rfl⟩ := Int.eq_ofNat_of_zero_le h0
  obtain ⟨y, rfl⟩ := Int.eq_ofNat_of_zero_le h1
  subst e
  have g : ∀ {k : Nat}, atI (ns.map V.str) (k : Int) = some (.str a) → ns[k]? = some a := fun {k} hk => by
    by_cases c : k < ns.length
    · rw [atI_nat (by rw [List.getElem?_map, List.getElem?_eq_getElem c]; rfl)] at hk
      rw [List.getElem?_eq_getElem c]
      exact congrArg some (V.str.inj (Option.some.inj hk))
    · exfalso
      unfold atI ixN at hk
      simp at hk
      rw [if_neg (by omega)] at hk
      simp at hk
  have g1 := g ha
  have g2 := g hb
  have := (List.getElem?_inj (List.getElem?_eq_some_iff.mp g1).1 nd).mp (g1.trans g2.symm)
  omega
end Cm
namespace Sr
open PySem PySem.Spec PyProof.Rows L2 Gx
/-- a source of numbers: how many were drawn, then the cells -/
def Src (cs : List Int) : Prop := ∃ k r, cs = k :: r ∧ 0 ≤ k ∧ r ≠ [] ∧ r.length ≤ 62
theorem cut1 {xs : List V} : cutV xs (some 1) (some 63) = (xs.drop 1).take 62 := by
  unfold cutV
  rw [show (some (1 : Int)) = some ((1 : Nat) : Int) from rfl, show (some (63 : Int)) = some ((63 : Nat) : Int) from rfl, HT.sIx_nat, HT.sIx_nat]
  by_cases c : 63 ≤ xs.length
  · rw [show min 1 xs.length = 1 by omega, show min 63 xs.length = 63 by omega]
  · by_cases c1 : 1 ≤ xs.length
    · rw [show min 1 xs.length = 1 by omega, show min 63 xs.length = xs.length by omega, List.take_of_length_le (by simp), List.take_of_length_le (by simp; omega)]
    · rw [show xs = [] from List.length_eq_zero_iff.mp (by omega)]
      rfl
theorem cut63 {xs : List V} : cutV xs none (some 63) = xs.take 63 := by
  unfold cutV
  rw [show (some (63 : Int)) = some ((63 : Nat) : Int) from rfl, HT.sIx_nat, HT.sIx_none, List.drop_zero, Nat.sub_zero]
  by_cases c : 63 ≤ xs.length
  · rw [Nat.min_eq_left c]
  · rw [Nat.min_eq_right (by omega), List.take_of_length_le (by omega), List.take_of_length_le (by omega)]
end Sr
namespace Cm
open PySem PySem.Spec PyProof.Rows L2 Gx Lw
theorem Fqs.but {K : PySem.W.Frag} {H H' : Hp} {l : Addr} {ys : List V} (b : But l H H') (hl : H l = some (.lst ys)) : ∀ {vs : List V} {qs : List Rat}, Fqs K H vs qs → Fqs K H' vs qs
  | _, _, .nil => .nil
  | _, _, .cons ⟨p, h1, h2⟩ r => .cons ⟨p, h1, seqT_but b hl h2⟩ (Fqs.but b hl r)
/-- whether a claim holds of marks -/
def holds (c : C) (ms : List (Option Str)) : Prop := (ms.length : Rat) / 2 < Lw.sum (ms.map (value c))
instance (c : C) (ms : List (Option Str)) : Decidable (holds c ms) := inferInstanceAs (Decidable ((ms.length : Rat) / 2 < Lw.sum (ms.map (value c))))
theorem sizes {n : Nat} (c : C) (h : Ok n c) : ∀ ms : List (Option Str), Paired (fun q k => Fr.Sz k q) (ms.map (value c)) (ms.map fun _ => n + 5)
  | [] => .nil
  | m :: r => .cons (sz_value c h m) (sizes c h r)
theorem szs_rep {α : Type} (n : Nat) : ∀ ms : List α, Lw.szs (ms.map fun _ => n + 5) = ms.length * (n + 6) + 1 := fun ms => by
  have h : ∀ (l : List α) (b : Nat), (l.map fun _ => n + 5).foldl (fun a n => a + n + 1) b = b + l.length * (n + 6) := fun l => by
    induction l with
    | nil => intro b; simp
    | cons x r ih =>
      intro b
      rw [List.map_cons, List.foldl_cons, ih, List.length_cons, Nat.succ_mul]
      omega
  unfold Lw.szs
  rw [h]
  omega
theorem half_of (n : Nat) : Rat.divInt (n : Int) 2 = (n : Rat) / 2 := by
  rw [Rat.divInt_eq_div]
  rfl
end Cm
namespace Lw
open PySem PySem.Spec PyProof.Rows L2 Gx
theorem Fqs.but {K : PySem.W.Frag} {H H' : Hp} {l : Addr} {ys : List V} (b : But l H H') (hl : H l = some (.lst ys)) {vs : List V} {qs : List Rat} (a : Fqs K H vs qs) : Fqs K H' vs qs := Cm.Fqs.but b hl a
end Lw
namespace Cm
open PySem PySem.Spec PyProof.Rows L2 Gx
/-- what a dealt mark may be -/
def Mk (ns : List Str) (b : Bool) (m : Option Str) : Prop := (∃ n ∈ ns, m = some n) ∨ m = some (Str.ofString "") ∨ m = none ∨ (b = true ∧ m = some (Str.ofString "?"))
theorem strs_mv (ns : List Str) : ns.map V.str = (ns.map some).map mv := by rw [List.map_map]; rfl
theorem mk_names {ns : List Str} {b : Bool} : ∀ m ∈ ns.map some, Mk ns b m := fun m hm => by
  obtain ⟨n, hn, rfl⟩ := List.mem_map.mp hm
  exact .inl ⟨n, hn, rfl⟩
theorem all_app {α : Type} {P : α → Prop} {a b : List α} (h : ∀ x ∈ a, P x) (g : ∀ x ∈ b, P x) : ∀ x ∈ a ++ b, P x := fun x hx => (List.mem_append.mp hx).elim (h x) (g x)
theorem all_take {α : Type} {P : α → Prop} {a : List α} {n : Nat} (h : ∀ x ∈ a, P x) : ∀ x ∈ a.take n, P x := fun x hx => h x (List.mem_of_mem_take hx)
theorem all_drop {α : Type} {P : α → Prop} {a : List α} {n : Nat} (h : ∀ x ∈ a, P x) : ∀ x ∈ a.drop n, P x := fun x hx => h x (List.mem_of_mem_drop hx)
theorem get_map {α : Type} {f : α → V} {xs : List α} {j : Nat} {x : V} (h : (xs.map f)[j]? = some x) : ∃ a, xs[j]? = some a ∧ x = f a := by
  rw [List.getElem?_map] at h
  cases e : xs[j]? with
  | none => rw [e] at h; cases h
  | some m => rw [e] at h; exact ⟨m, rfl, (Option.some.inj h).symm⟩
theorem at_map {α : Type} {f : α → V} {xs : List α} {i : Int} (h0 : 0 ≤ i) (h1 : i < xs.length) : ∃ a, a ∈ xs ∧ atI (xs.map f) i = some (f a) := by
  obtain ⟨n, rfl⟩ := Int.eq_ofNat_of_zero_le h0
  exact ⟨xs[n]'(by omega), List.getElem_mem _, atI_nat (by rw [List.getElem?_map, List.getElem?_eq_getElem (by omega)]; rfl)⟩
end Cm
namespace Cm
open PySem PySem.Spec PyProof.Rows L2 Gx
/-! more about values -/
theorem half_nn : (0 : Rat) ≤ 1/2 := by decide +kernel
theorem one_nn : (0 : Rat) ≤ 1 := by decide +kernel
theorem half_le {s : Rat} (h0 : 0 < s) (h1 : s < 1) : (1/2 : Rat) ≤ (1/2) / s := by
  refine Rat.not_lt.mp fun z => ?_
  rw [Rat.div_lt_iff h0] at z
  have := Rat.mul_le_mul_of_nonneg_left (Rat.le_of_lt h1) half_nn
  rw [Rat.mul_one] at this
  exact absurd (Std.lt_of_lt_of_le z this) (Rat.lt_irrefl)
theorem sub_pos {s : Rat} (h1 : s < 1) : 0 < 1 - s ∧ (0 < s → 1 - s < 1) := by
  constructor
  · grind
  · intro h; grind
theorem val_nn {n : Nat} (c : C) (h : Ok n c) (m : Option Str) : 0 ≤ value c m ∧ value c m ≤ greatest c := by
  have g : 0 ≤ greatest c ∧ (1/2 : Rat) ≤ greatest c := by
    cases c with
    | claim => exact ⟨half_nn, Rat.le_refl⟩
    | beats o t => exact ⟨one_nn, show (1/2 : Rat) ≤ 1 by decide +kernel⟩
    | over k s => have := half_le h.1 h.2.1; exact ⟨Rat.le_trans half_nn this, this⟩
    | under k s =>
      obtain ⟨p1, p2⟩ := sub_pos h.2.1
      have := half_le p1 (p2 h.1)
      exact ⟨Rat.le_trans half_nn this, this⟩
  have z : (0 : Rat) ≤ 0 ∧ (0 : Rat) ≤ greatest c := ⟨Rat.le_refl, g.1⟩
  unfold value
  split
  · exact z
  · cases c with
    | claim => exact ⟨half_nn, g.2⟩
    | beats o t =>
      show 0 ≤ (if m = some o then 1 else if m = some t then 0 else 1/2) ∧ (if m = some o then 1 else if m = some t then 0 else 1/2) ≤ _
      split
      · exact ⟨one_nn, Rat.le_refl⟩
      · split
        · exact z
        · exact ⟨half_nn, g.2⟩
    | over k s =>
      show 0 ≤ (if m = none ∨ m = some (Str.ofString "") then 1/2 else if m = some k then greatest (.over k s) else 0) ∧ (if m = none ∨ m = some (Str.ofString "") then 1/2 else if m = some k then greatest (.over k s) else 0) ≤ _
      split
      · exact ⟨half_nn, g.2⟩
      · split
        · exact ⟨g.1, Rat.le_refl⟩
        · exact z
    | under k s =>
      show 0 ≤ (if m = none ∨ m = some (Str.ofString "") then 1/2 else if m = some k then 0 else greatest (.under k s)) ∧ (if m = none ∨ m = some (Str.ofString "") then 1/2 else if m = some k then 0 else greatest (.under k s)) ≤ _
      split
      · exact ⟨half_nn, g.2⟩
      · split
        · exact z
        · exact ⟨g.1, Rat.le_refl⟩
theorem value_q (c : C) : value c (some (Str.ofString "?")) = 0 := if_pos rfl
theorem sum_add : ∀ (qs : List Rat) (a : Rat), qs.foldl (· + ·) a = a + qs.foldl (· + ·) 0
  | [], a => by simp [Rat.add_zero]
  | q :: r, a => by
    rw [List.foldl_cons, List.foldl_cons, sum_add r (a + q), sum_add r (0 + q)]
    grind
theorem sum_cons (q : Rat) (r : List Rat) : Lw.sum (q :: r) = q + Lw.sum r := by
  unfold Lw.sum
  rw [List.foldl_cons, sum_add, Rat.zero_add]
/-- each mark either the same, or one said in place of one that lacks -/
def Said (m m' : Option Str) : Prop := m' = m ∨ m = some (Str.ofString "?")
theorem sum_said {n : Nat} (c : C) (h : Ok n c) : ∀ {ms ms' : List (Option Str)}, PySem.Paired Said ms ms' → Lw.sum (ms.map (value c)) ≤ Lw.sum (ms'.map (value c))
  | _, _, .nil => Rat.le_refl
  | _, _, .cons (a := a) (b := b) p r => by
    rw [List.map_cons, List.map_cons, sum_cons, sum_cons]
    have i := sum_said c h r
    have q : value c a ≤ value c b := by
      rcases p with e | e
      · rw [e]; exact Rat.le_refl
      · rw [e, value_q]; exact (val_nn c h b).1
    grind
theorem holds_said {n : Nat} (c : C) (h : Ok n c) {ms ms' : List (Option Str)} (p : PySem.Paired Said ms ms') (g : holds c ms) : holds c ms' := by
  have e := PySem.Paired.length p
  unfold holds at *
  rw [← e]
  exact Std.lt_of_lt_of_le g (sum_said c h p)
theorem holds_more {c : C} {ms : List (Option Str)} (g : holds c (ms ++ [some (Str.ofString "?")])) : holds c ms := by
  unfold holds at *
  rw [List.map_append, List.length_append] at g
  have e : Lw.sum (ms.map (value c) ++ [value c (some (Str.ofString "?"))]) = Lw.sum (ms.map (value c)) := by
    rw [Lw.sum_snoc, value_q, Rat.add_zero]
  rw [show [some (Str.ofString "?")].map (value c) = [value c (some (Str.ofString "?"))] from rfl, e] at g
  have l : ((ms.length : Rat)) / 2 ≤ ((ms.length + [some (Str.ofString "?")].length : Nat) : Rat) / 2 := by
    show ((ms.length : Rat)) / 2 ≤ ((ms.length + 1 : Nat) : Rat) / 2
    have : ((ms.length + 1 : Nat) : Rat) = (ms.length : Rat) + 1 := by exact_mod_cast rfl
    rw [this]
    grind
  exact Std.lt_of_le_of_lt l g
theorem paired_snoc {α β : Type} {F : α → β → Prop} : ∀ {as : List α} {bs : List β} {a : α} {b : β}, PySem.Paired F as bs → F a b → PySem.Paired F (as ++ [a]) (bs ++ [b])
  | _, _, _, _, .nil, h => .cons h .nil
  | _, _, _, _, .cons x r, h => .cons x (paired_snoc r h)
end Cm
namespace Wy
open PySem PySem.Spec PyProof.Rows L2 Gx
theorem fqn (n : Nat) : Fr.fq (n : Rat) = [.int (n : Int), .int 1] := rfl
theorem fq2 : Fr.fq 2 = [.int 2, .int 1] := rfl
theorem szn {n k : Nat} (h : n < 2 ^ k) (hk : 1 ≤ k) : Fr.Sz k (n : Rat) := ⟨by show ((n : Rat).num).natAbs < _; rw [show (n : Rat).num = (n : Int) from rfl]; omega, by show (1 : Nat) < 2 ^ k; exact Nat.one_lt_two_pow (by omega)⟩
theorem sz2 : Fr.Sz 3 2 := ⟨by decide, by decide⟩
theorem n_ne {n : Nat} (h : 1 ≤ n) : (n : Rat) ≠ 0 := fun e => by
  have : (n : Rat) = ((0 : Nat) : Rat) := e
  have := Rat.natCast_inj.mp this
  omega
/-- the mean of a record's values, and what a value is divided by -/
def mean (c : Cm.C) (ms : List (Option Str)) : Rat := Lw.sum (ms.map (Cm.value c)) / (ms.length : Rat)
def scale (c : Cm.C) (ms : List (Option Str)) : Rat := 2 - (2 * mean c ms - 1) / Cm.greatest c
theorem half_le_g {n : Nat} {c : Cm.C} (h : Cm.Ok n c) : (1/2 : Rat) ≤ Cm.greatest c := by
  cases c with
  | claim => exact Rat.le_refl
  | beats o t => exact show (1/2 : Rat) ≤ 1 by decide +kernel
  | over k s => exact Cm.half_le h.1 h.2.1
  | under k s =>
    obtain ⟨p1, p2⟩ := Cm.sub_pos h.2.1
    exact Cm.half_le p1 (p2 h.1)
theorem g_pos {n : Nat} {c : Cm.C} (h : Cm.Ok n c) : 0 < Cm.greatest c := Std.lt_of_lt_of_le (show (0 : Rat) < 1/2 by decide +kernel) (half_le_g h)
theorem g_ne {n : Nat} {c : Cm.C} (h : Cm.Ok n c) : Cm.greatest c ≠ 0 := fun e => by have := g_pos h; rw [e] at this; exact absurd this Rat.lt_irrefl
theorem fqs_butI {K : PySem.W.Frag} {H H' : Hp} {l C dx : Addr} {fs : List (Str × V)} (e : But l H H') (hl : H l = some (.ins C dx fs)) : ∀ {vs : List V} {qs : List Rat}, Lw.Fqs K H vs qs → Lw.Fqs K H' vs qs
  | _, _, .nil => .nil
  | _, _, .cons ⟨p, h1, h2⟩ r => .cons ⟨p, h1, seqT_butI e hl h2⟩ (fqs_butI e hl r)
end Wy
namespace Wy
open PySem PySem.Spec PyProof.Rows L2 Gx
theorem num_den (s : Rat) : s * (s.den : Rat) = (s.num : Rat) := by
  have e : s = (s.num : Rat) / (s.den : Rat) := by
    have h := Rat.num_divInt_den s
    rw [Rat.divInt_eq_div] at h
    exact h.symm
  have hd : (s.den : Rat) ≠ 0 := fun z => by
    have z2 : (s.den : Rat) = ((0 : Nat) : Rat) := z
    exact s.den_nz (by exact_mod_cast z2)
  calc s * (s.den : Rat) = (s.num : Rat) / (s.den : Rat) * (s.den : Rat) := by rw [← e]
    _ = (s.num : Rat) := Rat.div_mul_cancel hd
theorem den_pos (s : Rat) : (0 : Rat) < (s.den : Rat) := by exact_mod_cast Nat.pos_of_ne_zero s.den_nz
theorem int_lt {a b : Int} : ((a : Rat) < (b : Rat)) ↔ a < b := by exact_mod_cast Iff.rfl
theorem half_lt {n : Nat} {q : Rat} : (n : Rat) / 2 < q ↔ (n : Int) * (q.den : Int) < 2 * q.num := by
  have e1 : (n : Rat) * (q.den : Rat) = (((n : Int) * (q.den : Int) : Int) : Rat) := by rw [Rat.intCast_mul]; rfl
  have e2 : 2 * q * (q.den : Rat) = ((2 * q.num : Int) : Rat) := by rw [Rat.mul_assoc, num_den, Rat.intCast_mul]; rfl
  rw [← int_lt, ← e1, ← e2, Rat.mul_lt_mul_right (den_pos q)]
  constructor
  · intro h; grind
  · intro h; grind
theorem dp_bls {K : PySem.W.Frag} {H : Hp} : ∀ bs : List Bool, DpAll K H (bs.map V.bl) (bs.map PyData.bool)
  | [] => .nil
  | b :: r => .cons (.bl b) (dp_bls r)
theorem sum_snoc {c : Cm.C} {ms : List (Option Str)} {i : Nat} {m : Option Str} (h : ms[i]? = some m) : Lw.sum ((ms.take (i + 1)).map (Cm.value c)) = Lw.sum ((ms.take i).map (Cm.value c)) + Cm.value c m := by
  rw [Lw.take_snoc h, List.map_append]
  exact Lw.sum_snoc _ _
end Wy
namespace Wy
open PySem PySem.Spec PyProof.Rows L2 Gx
/-- a whole number less a fraction: lowest already -/
theorem sub_parts (k : Int) (x : Rat) : ((k : Rat) - x).num = k * (x.den : Int) - x.num ∧ (((k : Rat) - x).den : Int) = (x.den : Int) := by
  have e : (k : Rat) - x = Rat.divInt (k * (x.den : Int) - x.num) (x.den : Int) := by
    rw [← Fr.sub_eq (k : Rat) x]
    show Rat.divInt (k * (x.den : Int) - x.num * 1) (1 * (x.den : Int)) = _
    rw [Int.mul_one, Int.one_mul]
  have hd := Fr.den_pos x
  have g : Int.gcd (x.den : Int) (k * (x.den : Int) - x.num) = 1 := by
    have h1 : Int.gcd (x.den : Int) (x.num - (x.den : Int) * k) = Int.gcd (x.den : Int) x.num := by rw [Int.gcd_sub_mul_left_right]
    have h2 : k * (x.den : Int) - x.num = -(x.num - (x.den : Int) * k) := by rw [Int.mul_comm]; omega
    rw [h2, Int.gcd_neg, h1, Int.gcd_comm]
    exact x.reduced
  have ed : Rat.den (Rat.divInt (k * (x.den : Int) - x.num) (x.den : Int)) = x.den := by
    rw [Rat.den_divInt, if_neg (by omega), g]
    simp
  refine ⟨?_, by rw [e, ed]⟩
  rw [e, Rat.num_divInt, g, Int.sign_eq_one_of_pos hd]
  simp
theorem fq_sub (k : Int) (x : Rat) : Fr.fq ((k : Rat) - x) = [.int (k * (x.den : Int) - x.num), .int (x.den : Int)] := by
  obtain ⟨h1, h2⟩ := sub_parts k x
  show [V.int _, V.int _] = _
  rw [h1, h2]
theorem sum_le {n : Nat} {c : Cm.C} (h : Cm.Ok n c) : ∀ ms : List (Option Str), Lw.sum (ms.map (Cm.value c)) ≤ (ms.length : Rat) * Cm.greatest c
  | [] => by
    show (0 : Rat) ≤ ((0 : Nat) : Rat) * _
    rw [show ((0 : Nat) : Rat) = 0 from rfl, Rat.zero_mul]
    exact Rat.le_refl
  | m :: r => by
    have ih := sum_le h r
    have v := (Cm.val_nn c h m).2
    rw [List.map_cons, Cm.sum_cons, List.length_cons]
    have e : ((r.length + 1 : Nat) : Rat) = (r.length : Rat) + 1 := by exact_mod_cast rfl
    rw [e]
    grind
theorem n_pos {n : Nat} (h : 1 ≤ n) : (0 : Rat) < (n : Rat) := by exact_mod_cast h
theorem mean_le {n : Nat} {c : Cm.C} (h : Cm.Ok n c) {ms : List (Option Str)} (l : 1 ≤ ms.length) : mean c ms ≤ Cm.greatest c := by
  unfold mean
  refine Rat.not_lt.mp fun z => ?_
  rw [Rat.lt_div_iff (n_pos l)] at z
  have := sum_le h ms
  rw [Rat.mul_comm] at this
  exact absurd (Std.lt_of_lt_of_le z this) Rat.lt_irrefl
theorem scale_pos {n : Nat} {c : Cm.C} (h : Cm.Ok n c) {ms : List (Option Str)} (l : 1 ≤ ms.length) : 0 < scale c ms := by
  have g := g_pos h
  have m := mean_le h l
  have z : (2 * mean c ms - 1) / Cm.greatest c < 2 := by
    rw [Rat.div_lt_iff g]
    grind
  unfold scale
  grind
theorem scale_ne {n : Nat} {c : Cm.C} (h : Cm.Ok n c) {ms : List (Option Str)} (l : 1 ≤ ms.length) : scale c ms ≠ 0 := fun e => by
  have := scale_pos h l
  rw [e] at this
  exact absurd this Rat.lt_irrefl
/-- a ballot's value, compared with its record -/
def cmp (c : Cm.C) (ms : List (Option Str)) (t m : Option Str) : Rat := (1 - (Cm.value c t - Cm.value c m) / Cm.greatest c) / scale c ms
theorem two_cast : ((2 : Int) : Rat) = 2 := rfl
theorem one_cast : ((1 : Int) : Rat) = 1 := rfl
theorem same_cmp (c : Cm.C) (ms : List (Option Str)) (t : Option Str) : cmp c ms t t = 1 / scale c ms := by
  unfold cmp
  rw [show Cm.value c t - Cm.value c t = 0 by grind, Rat.div_def 0, Rat.zero_mul]
  rw [show (1 : Rat) - 0 = 1 by decide +kernel]
/-- twice the mean, less 1 -/
theorem margin_eq (c : Cm.C) {ms : List (Option Str)} (l : 1 ≤ ms.length) : Rat.divInt (2 * (Lw.sum (ms.map (Cm.value c))).num - (ms.length : Int) * ((Lw.sum (ms.map (Cm.value c))).den : Int)) ((ms.length : Int) * ((Lw.sum (ms.map (Cm.value c))).den : Int)) = 2 * mean c ms - 1 := by
  unfold mean
  generalize Lw.sum (ms.map (Cm.value c)) = q
  have hn := n_ne l
  have hd : (q.den : Rat) ≠ 0 := fun z => by have := den_pos q; rw [z] at this; exact absurd this Rat.lt_irrefl
  rw [Rat.divInt_eq_div]
  have e1 : ((2 * q.num - (ms.length : Int) * (q.den : Int) : Int) : Rat) = 2 * (q * (q.den : Rat)) - (ms.length : Rat) * (q.den : Rat) := by
    rw [num_den, Rat.intCast_sub, Rat.intCast_mul, Rat.intCast_mul]; rfl
  have e2 : (((ms.length : Int) * (q.den : Int) : Int) : Rat) = (ms.length : Rat) * (q.den : Rat) := by rw [Rat.intCast_mul]; rfl
  rw [e1, e2]
  have hnd : (ms.length : Rat) * (q.den : Rat) ≠ 0 := fun z => by
    rcases Rat.mul_eq_zero.mp z with h | h
    · exact hn h
    · exact hd h
  have e3 : q / (ms.length : Rat) * (ms.length : Rat) = q := Rat.div_mul_cancel hn
  have e4 : 2 * (q * (q.den : Rat)) - (ms.length : Rat) * (q.den : Rat) = (2 * (q / (ms.length : Rat)) - 1) * ((ms.length : Rat) * (q.den : Rat)) := by grind
  rw [e4, Rat.mul_div_cancel hnd]
end Wy
namespace Wy
open PySem PySem.Spec PyProof.Rows L2 Gx
theorem half_less {s : Rat} (h0 : 0 < s) (h1 : s < 1) : (1/2 : Rat) < (1/2) / s := by
  rw [Rat.lt_div_iff h0]
  grind
theorem sum_all {c : Cm.C} {g : Option Str} : ∀ {ms : List (Option Str)}, (∀ m ∈ ms, m = g) → Lw.sum (ms.map (Cm.value c)) = (ms.length : Rat) * Cm.value c g
  | [], _ => by
    show (0 : Rat) = ((0 : Nat) : Rat) * _
    rw [show ((0 : Nat) : Rat) = 0 from rfl, Rat.zero_mul]
  | m :: r, h => by
    rw [List.map_cons, Cm.sum_cons, sum_all fun x hx => h x (List.mem_cons_of_mem _ hx), h m (List.mem_cons_self ..), List.length_cons]
    have e : ((r.length + 1 : Nat) : Rat) = (r.length : Rat) + 1 := by exact_mod_cast rfl
    rw [e]
    grind
theorem holds_all {c : Cm.C} {g : Option Str} (h : 1/2 < Cm.value c g) {ms : List (Option Str)} (l : 1 ≤ ms.length) (a : ∀ m ∈ ms, m = g) : Cm.holds c ms := by
  unfold Cm.holds
  rw [sum_all a]
  have p := n_pos l
  have := Rat.mul_lt_mul_of_pos_left h p
  rw [Rat.div_def, show (2 : Rat)⁻¹ = 1/2 by decide +kernel]
  exact this
theorem nm_q {n : Str} (h : Pl.Nm n) : n ≠ Str.ofString "?" := fun e => by
  rw [e] at h
  have := h.2.2 63 (by decide +kernel)
  omega
theorem nm_e {n : Str} (h : Pl.Nm n) : n ≠ Str.ofString "" := fun e => by
  rw [e] at h
  have : (Str.ofString "").cps.size = 0 := by decide +kernel
  have := h.1
  omega
theorem val_name {c : Cm.C} {g : Str} (h : Pl.Nm g) : Cm.value c (some g) = Cm.valueOf c (some g) := if_neg fun e => nm_q h (Option.some.inj e)
theorem good_beats {o t : Str} (h : Pl.Nm o) : 1/2 < Cm.value (.beats o t) (some o) := by
  rw [val_name h, show Cm.valueOf (.beats o t) (some o) = 1 from if_pos rfl]
  decide +kernel
theorem good_over {k : Str} {s : Rat} (h : Pl.Nm k) (h0 : 0 < s) (h1 : s < 1) : 1/2 < Cm.value (.over k s) (some k) := by
  rw [val_name h, Cm.cval_over k s (some k) (fun z => z.elim (fun e => nomatch e) fun e => nm_e h (Option.some.inj e)), if_pos rfl]
  exact half_less h0 h1
theorem good_under {k g : Str} {s : Rat} (h : Pl.Nm g) (n : g ≠ k) (h0 : 0 < s) (h1 : s < 1) : 1/2 < Cm.value (.under k s) (some g) := by
  obtain ⟨p1, p2⟩ := Cm.sub_pos h1
  rw [val_name h, Cm.cval_under k s (some g) (fun z => z.elim (fun e => nomatch e) fun e => nm_e h (Option.some.inj e)), if_neg (fun e => n (Option.some.inj e))]
  exact half_less p1 (p2 h0)
theorem rep1 {α : Type} (x : α) : ∀ k : Nat, (List.replicate k [x]).flatten = List.replicate k x
  | 0 => rfl
  | k + 1 => by rw [List.replicate_succ, List.flatten_cons, rep1 x k, List.replicate_succ]; rfl
/-- a way that compares -/
def Wa (K : PySem.W.Frag) (H : Hp) (a : Addr) (c : Cm.C) (ms : List (Option Str)) : Prop := ∃ (dx w l r : Addr) (ys : List V), H a = some (.ins (He.ga K "Comparing") dx [("claim", .ref w), ("told", .ref l), ("scale", .ref r)]) ∧ Cm.At K H w c ∧ H l = some (.lst ys) ∧ Lw.Fqs K H ys (ms.map (Cm.value c)) ∧ SqT K H r (Fr.fq (scale c ms)) ∧ Fr.Sz 5000 (scale c ms)
theorem Wa.same {K : PySem.W.Frag} {H H' : Hp} (e : Same H H') {a : Addr} {c : Cm.C} {ms : List (Option Str)} : Wa K H a c ms → Wa K H' a c ms
  | ⟨dx, w, l, r, ys, h1, h2, h3, h4, h5, h6⟩ => ⟨dx, w, l, r, ys, e _ _ h1, h2.same e, e _ _ h3, h4.same e, seqT_same e h5, h6⟩
end Wy
namespace Wy
open PySem PySem.Spec PyProof.Rows L2 Gx
/-- a way of either sort -/
def Wx (K : PySem.W.Frag) (H : Hp) (a : Addr) (b : Bool) (c : Cm.C) (ts : List (Option Str)) : Prop :=
  (b = true ∧ ∃ dx w, H a = some (.ins (He.ga K "Looking") dx [("claim", .ref w)]) ∧ Cm.At K H w c) ∨ (b = false ∧ Wa K H a c ts)
theorem Wx.same {K : PySem.W.Frag} {H H' : Hp} (e : Same H H') {a : Addr} {b : Bool} {c : Cm.C} {ts : List (Option Str)} : Wx K H a b c ts → Wx K H' a b c ts
  | .inl ⟨h, dx, w, h1, h2⟩ => .inl ⟨h, dx, w, e _ _ h1, h2.same e⟩
  | .inr ⟨h, g⟩ => .inr ⟨h, g.same e⟩
theorem k_w2 {K : PySem.W.Frag} {σ : L2.St} {H : Hp} {Q : VK} {ta : TE} {t : TA} {m : Str} {sp1 sp2 : Sp} {E : L2.St → XK} {a : Addr} {b : Bool} {c : Cm.C} {ts : List (Option Str)} (hev : ∀ Q : VK, Q (.ref a) H → ta σ H Q) (hw : Wx K H a b c ts) (q : t σ H fun vs H2 => (if b = true then sp1 else sp2) (.ref a :: vs) H2 Q (E σ))
    (h1 : (m == (Str.ofString "claim")) = false := by decide +kernel) (h2 : (m == (Str.ofString "told")) = false := by decide +kernel) (h3 : (m == (Str.ofString "scale")) = false := by decide +kernel) :
    tOr2 (tMethS (He.ga K "Looking") m sp1 E ta t) (tMethS (He.ga K "Comparing") m sp2 E ta t) σ H Q := by
  rcases hw with ⟨rfl, dx, w, hi, _⟩ | ⟨rfl, dx, w, l, r, ys, hi, _⟩
  · exact k_o1 (k_meth (hev _ (k_methx hi (lkz h1 lk0) q)))
  · exact k_o2 (k_meth (hev _ (k_methx hi (lkz h1 (lkz h2 (lkz h3 lk0))) q)))
end Wy
/-! A dict whose keys are pairs of marks (texts or None): d.setdefault((x, y), z) -/
namespace Kd
open PySem PySem.Spec PyProof.Rows L2 Gx
def mk : Option Str → NestedKey
  | none => .none
  | some s => .text s
theorem mk_inj {a b : Option Str} (h : mk a = mk b) : a = b := by
  cases a <;> cases b
  · rfl
  · cases h
  · cases h
  · exact congrArg some (NestedKey.text.inj h)
def kp (t : Option Str × Option Str) : NestedKey := .tup [mk t.1, mk t.2]
theorem kp_inj {a b : Option Str × Option Str} (h : kp a = kp b) : a = b := by
  obtain ⟨a1, a2⟩ := a
  obtain ⟨b1, b2⟩ := b
  have h1 := NestedKey.tup.inj h
  have h2 := List.cons.inj h1
  have h3 := List.cons.inj h2.2
  exact Prod.ext (mk_inj h2.1) (mk_inj h3.1)
theorem depth_mk (m : Option Str) : (mk m).depth = 0 := by cases m <;> rfl
theorem depth_kp (t : Option Str × Option Str) : (kp t).depth ≤ 8 := by
  show max (mk t.1).depth (max (mk t.2).depth 0) + 1 ≤ 8
  rw [depth_mk, depth_mk]
  decide
/-- a pair of marks, where it stands, where its value stands -/
abbrev Ent := (Option Str × Option Str) × Addr × Addr
def ent (y : Ent) : NestedKey × Addr × Value := (kp y.1, y.2.1, .ref y.2.2)
def KEt (P : Program) (w : World) (d : Addr) (ys : List Ent) : HO := .ext fun h => (d == sysModules) = false ∧ ∃ o es ep, h.get? d = some o ∧ o.ExactDict ∧ o.data = .dict es ep ∧ es.toList = (ys.map ent).map (entryOfKey (nestedKind P w)) ∧ ((ys.map ent).map (·.1)).Nodup
/-- at d stands such a dict -/
def Met (P : Program) (w : World) (H : Hp) (d : Addr) (ys : List Ent) : Prop := (H d = some (.dK []) ∧ ys = [] ∨ H d = some (KEt P w d ys)) ∧ ∀ y ∈ ys, H y.2.1 = some (.tup [Cm.mv y.1.1, Cm.mv y.1.2])
theorem Met.new {P : Program} {w : World} {H : Hp} {d : Addr} (h : H d = some (.dK [])) : Met P w H d [] := ⟨.inl ⟨h, rfl⟩, fun _ z => nomatch z⟩
theorem Met.same {P : Program} {w : World} {H H' : Hp} {d : Addr} {ys : List Ent} (e : Same H H') (m : Met P w H d ys) : Met P w H' d ys :=
  ⟨m.1.imp (fun z => ⟨e _ _ z.1, z.2⟩) (fun z => e _ _ z), fun y hy => e _ _ (m.2 y hy)⟩
theorem Met.ne {P : Program} {w : World} {H : Hp} {d a : Addr} {ys : List Ent} {xs : List V} (m : Met P w H d ys) (h : H a = some (.tup xs)) : a ≠ d := by
  intro e
  subst e
  rcases m.1 with z | z
  · rw [h] at z; cases z.1
  · rw [h] at z; cases z
theorem Met.seqT {P : Program} {w : World} {K : PySem.W.Frag} {H H' : Hp} {d : Addr} {ys : List Ent} (m : Met P w H d ys) (e : But d H H') {a : Addr} {xs : List V} (h : SqT K H a xs) : SqT K H' a xs := by
  rcases h with (h | ⟨o, h⟩) | h
  · exact .inl (.inl (e _ _ (m.ne h) h))
  · refine .inl (.inr ⟨o, e _ _ ?_ h⟩)
    rintro rfl
    rcases m.1 with z | z
    · rw [h] at z; cases z.1
    · rw [h] at z; cases z
  · exact .inr h
section
variable {X : Cx} {pins : List (Addr × Obj)} {σ : L2.St} {H : Hp} {s : Shared}
theorem key_is (I : Inv X pins σ H s) {a : Addr} {t : Option Str × Option Str} (h : H a = some (.tup [Cm.mv t.1, Cm.mv t.2])) : (nestedKind X.prog X.w).is s.heap (kp t) a := by
  obtain ⟨_, its, r, o, h1, h2, n, h3⟩ := (show ObjOk X.prog X.w H s.heap a (.tup [Cm.mv t.1, Cm.mv t.2]) from I.hok a _ h)
  have one : ∀ (m : Option Str) (u : Value), RelV (Cm.mv m) u → NestedIs s.heap (mk m) u := fun m u q => by
    cases m with
    | none => obtain rfl : u = Value.none := q; exact .none
    | some x => obtain ⟨tk, rfl⟩ := (show ∃ tk, u = Value.str x tk from q); exact .text _ _
  cases r with
  | cons r1 r =>
    cases r with
    | cons r2 r =>
      cases r
      exact ⟨.tup h1 h2 h3 (.cons (one _ _ r1) (.cons (one _ _ r2) .nil)), depth_kp t⟩
theorem met_dict (I : Inv X pins σ H s) {d : Addr} {ys : List Ent} (m : Met X.prog X.w H d ys) : (d == sysModules) = false ∧ s.heap.DictOfH (nestedKind X.prog X.w) d (ys.map ent) := by
  rcases m.1 with ⟨h, rfl⟩ | h
  · obtain ⟨_, hd, vs, rel, o, es, ep, eo, exd, hdat, hes, hv⟩ := dk_of I.hok h
    cases rel
    refine ⟨hd, o, es, ep, eo, exd, hdat, ?_, (fun x hx => nomatch hx), List.nodup_nil⟩
    obtain ⟨hp, _⟩ := hv
    cases hq : es.toList with
    | nil => rfl
    | cons x r => rw [hq] at hp; cases hp
  · obtain ⟨⟨hd, o, es, ep, h1, h2, h3, h4, h5⟩, _, _⟩ := (show ObjOk X.prog X.w H s.heap d (KEt X.prog X.w d ys) from I.hok d _ h)
    refine ⟨hd, o, es, ep, h1, h2, h3, h4, fun x hx => ?_, h5⟩
    obtain ⟨y, hy, rfl⟩ := List.mem_map.mp hx
    exact key_is I (m.2 y hy)
theorem at_some {ys : List Ent} {t : Option Str × Option Str} {p : Addr × Value} (h : atKey (ys.map ent) (kp t) = some p) : ∃ y ∈ ys, y.1 = t ∧ p = (y.2.1, .ref y.2.2) := by
  unfold atKey at h
  obtain ⟨x, hx, rfl⟩ := Option.map_eq_some_iff.mp h
  have h1 := List.find?_some hx
  have h2 := List.mem_of_find?_eq_some hx
  obtain ⟨y, hy, rfl⟩ := List.mem_map.mp h2
  exact ⟨y, hy, kp_inj (of_decide_eq_true h1), rfl⟩
theorem at_none {ys : List Ent} {t : Option Str × Option Str} (h : atKey (ys.map ent) (kp t) = none) : ∀ y ∈ ys, y.1 ≠ t := by
  unfold atKey at h
  have h1 := List.find?_eq_none.mp (Option.map_eq_none_iff.mp h)
  intro y hy e
  exact h1 (ent y) (List.mem_map_of_mem hy) (decide_eq_true (by rw [← e]; rfl))
end
def rSetdK (P : Program) (w : World) (d : Addr) (y z : V) (H : Hp) (Q : VK) : Prop := ∃ (a b : Addr) (t : Option Str × Option Str) (ys : List Ent), y = .ref a ∧ z = .ref b ∧ H a = some (.tup [Cm.mv t.1, Cm.mv t.2]) ∧ Met P w H d ys ∧ ys.length < sizeLine ∧
  (∀ y ∈ ys, y.1 = t → Q (.ref y.2.2) H) ∧ ((∀ y ∈ ys, y.1 ≠ t) → ∀ H', But d H H' → Met P w H' d (ys ++ [(t, a, b)]) → Q (.ref b) H')
def tSetdK (P : Program) (w : World) (td ty tx : TE) : TE := fun σ H Q => td σ H fun x H1 => ∃ d ys, x = .ref d ∧ Met P w H1 d ys ∧ ty σ H1 fun y H2 => tx σ H2 fun z H3 => rSetdK P w d y z H3 Q
theorem pe_setdK {P : Program} {w : World} {X : Cx} {k : Nat} {o e f : Expr} {td ty tx : TE} {apos cpos : Pos} (eP : X.prog = P) (eW : X.w = w) (hr : Room k X.A) (ho : PE X o td) (he : PE X e ty) (hf : PE X f tx)
    (m1 : attributeBase o "setdefault" X.env (eval o X.env) = eval o X.env := by rfl)
    (m2 : ((backTo cpos (starEach [e, f] X.env)).all (fun x => !x.1) && (backToKw cpos (keywordEach [] X.env)).all (fun x => x.1.isSome) && decide (([e, f] : List Expr).length + ([] : List Keyword).length + (if ([] : List Keyword).isEmpty then 0 else 1) < 30)) = true := by rfl)
    (m3 : (apos.endLine == cpos.line) = true := by rfl) (m4 : backTo cpos (starEach [e, f] X.env) = [(false, eval e X.env), (false, eval f X.env)] := by rfl) :
    PE X (.Call (.Attribute o "setdefault" apos) [e, f] [] cpos) (tSetdK P w td ty tx) := by
  subst eP
  subst eW
  refine ⟨fun pins s σ H Q I h => ?_⟩
  refine wpAny_Call_method m1 m2 m3 PySem.F.plainAttrs_dict PySem.F.slot_dict_setdefault PySem.F.type_dict_setdefault (thn (ho.run pins s σ H _ I h) fun u s1 ⟨x, H1, I1, rx, d, ys0, ex, hm0, q1⟩ => ?_)
  subst ex
  obtain rfl : u = Value.ref d := rx
  obtain ⟨_, dd0⟩ := met_dict I1 hm0
  refine ⟨dd0.typeIs, fun b q => ?_, ?_⟩
  · cases q
    obtain ⟨ob, _, _, h1, h2, _⟩ := dd0
    exact ⟨ob, h1, h2.2.1⟩
  rw [m4]
  refine Calls.callWith_builtin rfl (Calls.evalArgs_plain (Calls.spliced_cons (thn (he.run pins s1 σ H1 _ I1 q1) fun iv s2 ⟨y, H2, I2, ry, q2⟩ =>
    Calls.spliced_cons (thn (hf.run pins s2 σ H2 _ I2 q2) fun fv s3 ⟨z, H3, I3, rz, a, b, t, ys, ey, ez, hk, hm, hl, q3, q4⟩ => Calls.spliced_nil ?_))))
  subst ey
  subst ez
  obtain rfl : iv = Value.ref a := ry
  obtain rfl : fv = Value.ref b := rz
  obtain ⟨hd, dd⟩ := met_dict I3 hm
  refine call_setdefault_heap (knd := nestedKind X.prog X.w) (k := kp t) (xs := ys.map ent) (hsz := by rw [List.length_map]; omega) (by have := hr.units; show X.A.in1.units + 8 < cLine; rw [Around.in1_units]; omega) (key_is I3 hk) hd dd (fun p hp => ?_) (fun hn h' dd' hs => ?_)
  · obtain ⟨y, hy, et, rfl⟩ := at_some hp
    exact ⟨.ref y.2.2, H3, I3.tok _, rfl, q3 y hy et⟩
  · have hne := at_none hn
    rw [storedH_new hn] at dd'
    have em : ys.map ent ++ [(kp t, a, Value.ref b)] = (ys ++ [(t, a, b)]).map ent := by rw [List.map_append]; rfl
    rw [em] at dd'
    have nad := hm.ne hk
    have mu : Mut (H3 d) := by
      rcases hm.1 with ⟨h, _⟩ | h
      · rw [h]; exact True.intro
      · rw [h]; exact True.intro
    obtain ⟨o, es, ep, e1, e2, e3, e4, _, e6⟩ := dd'
    refine ⟨.ref b, upd H3 d (KEt X.prog X.w d (ys ++ [(t, a, b)])), d_write I3 mu hs ⟨o, e1⟩ ?_, rfl, q4 hne _ But.upd ⟨.inr upd_same, fun y hy => ?_⟩⟩
    · exact ⟨⟨hd, o, es, ep, e1, e2, e3, e4, e6⟩, ⟨o, e1⟩, fun h1 h2 ⟨p1, o', es', ep', x1, x2⟩ st => ⟨p1, o', es', ep', st _ x1, x2⟩⟩
    · rcases List.mem_append.mp hy with h | h
      · rw [upd_ne (hm.ne (hm.2 y h))]
        exact hm.2 y h
      · rw [List.mem_singleton.mp h, upd_ne nad]
        exact hk
theorem k_setdK {P : Program} {w : World} {td ty tx : TE} {σ : L2.St} {H : Hp} {Q : VK} (q : td σ H fun x H1 => ∃ d ys, x = .ref d ∧ Met P w H1 d ys ∧ ty σ H1 fun y H2 => tx σ H2 fun z H3 => rSetdK P w d y z H3 Q) : tSetdK P w td ty tx σ H Q := q
end Kd
namespace Kw
open PySem PySem.Spec PyProof.Rows L2 Gx
theorem two_over (s : Rat) : 2 * (1 / s) = 2 / s := by
  rw [Rat.div_def 1, Rat.div_def 2, Rat.one_mul]
/-- a scale is below 2 where the claim holds -/
theorem scale_lt {n : Nat} {c : Cm.C} (h : Cm.Ok n c) {ms : List (Option Str)} (hh : Cm.holds c ms) (l : 1 ≤ ms.length) : Wy.scale c ms < 2 := by
  have g := Wy.g_pos h
  have hn := Wy.n_pos l
  have hm : (1 / 2 : Rat) < Wy.mean c ms := by
    unfold Wy.mean
    rw [Rat.lt_div_iff hn]
    unfold Cm.holds at hh
    have e : (1 / 2 : Rat) * (ms.length : Rat) = (ms.length : Rat) / 2 := by rw [Rat.div_def (ms.length : Rat), Rat.mul_comm, show (2 : Rat)⁻¹ = 1/2 by decide +kernel]
    rw [e]
    exact hh
  have z : 0 < (2 * Wy.mean c ms - 1) / Cm.greatest c := by
    rw [Rat.lt_div_iff g]
    grind
  unfold Wy.scale
  grind
theorem over_half {n : Nat} {c : Cm.C} (h : Cm.Ok n c) {ms : List (Option Str)} (hh : Cm.holds c ms) (l : 1 ≤ ms.length) : ((1 / Wy.scale c ms).den : Int) < 2 * (1 / Wy.scale c ms).num := by
  have s1 := Wy.scale_pos h l
  have s2 := scale_lt h hh l
  have hq : ((1 : Nat) : Rat) / 2 < 1 / Wy.scale c ms := by
    rw [Rat.lt_div_iff s1]
    show (1 : Rat) / 2 * Wy.scale c ms < 1
    grind
  have := Wy.half_lt.mp hq
  omega
theorem div_mono {s a b : Rat} (h : 0 < s) (e : a ≤ b) : a / s ≤ b / s := by
  refine Rat.not_lt.mp fun z => ?_
  rw [Rat.lt_div_iff h, Rat.div_mul_cancel (fun e => by rw [e] at h; exact absurd h Rat.lt_irrefl)] at z
  exact absurd (Std.lt_of_lt_of_le z e) Rat.lt_irrefl
/-- a lacking ballot is worth least -/
theorem lacks_le {n : Nat} {c : Cm.C} (h : Cm.Ok n c) {ms : List (Option Str)} (l : 1 ≤ ms.length) (t m : Option Str) : Wy.cmp c ms t (some (Str.ofString "?")) ≤ Wy.cmp c ms t m := by
  have s1 := Wy.scale_pos h l
  have g := Wy.g_pos h
  have v := (Cm.val_nn c h m).1
  have v0 : Cm.value c (some (Str.ofString "?")) = 0 := if_pos rfl
  unfold Wy.cmp
  refine div_mono s1 ?_
  rw [v0]
  have := div_mono (a := Cm.value c t - Cm.value c m) (b := Cm.value c t - 0) g (by grind)
  grind
theorem lacks_zero {n : Nat} {c : Cm.C} (h : Cm.Ok n c) (ms : List (Option Str)) {t : Option Str} (e : Cm.value c t = Cm.greatest c) : Wy.cmp c ms t (some (Str.ofString "?")) = 0 := by
  have g := Wy.g_ne h
  have v0 : Cm.value c (some (Str.ofString "?")) = 0 := if_pos rfl
  unfold Wy.cmp
  rw [v0, e, show Cm.greatest c - 0 = Cm.greatest c by grind, show Cm.greatest c / Cm.greatest c = 1 by rw [Rat.div_def, Rat.mul_inv_cancel _ g], show (1 : Rat) - 1 = 0 by decide +kernel, Rat.div_def, Rat.zero_mul]
theorem sz_cmp {c : Cm.C} (h : Cm.Ok 7 c) {ms : List (Option Str)} (s : Fr.Sz 5000 (Wy.scale c ms)) (t m : Option Str) : Fr.Sz 5050 (Wy.cmp c ms t m) := by
  have d := (Cm.sz_value c h t).sub (Cm.sz_value c h m)
  have e := (Cm.sz1 (n := 0)).sub (d.div (Cm.sz_greatest h))
  exact (e.div s).mono (by decide)
end Kw
namespace Lw
open PySem PySem.Spec PyProof.Rows L2 Gx
def sp_in_common (K : PySem.W.Frag) : Sp := fun vs H Q _ => ∃ (a b : Int), vs = [.int a, .int b] ∧ Q (.int (Int.gcd a b : Int)) H
def sp_lowest (K : PySem.W.Frag) : Sp := fun vs H Q E => ∃ (a b : Int), vs = [.int a, .int b] ∧ (b = 0 → E (.ref (He.ga K "NoFraction")) none H) ∧ (b ≠ 0 → Okd a b ∧ ∀ p H', Same H H' → SqT K H' p (Fr.fq (Rat.divInt a b)) → Q (.ref p) H')
def sp_plus (K : PySem.W.Frag) : Sp := fun vs H Q _ => ∃ (p q : Addr) (x y : Rat) (m n : Nat), vs = [.ref p, .ref q] ∧ SqT K H p (Fr.fq x) ∧ SqT K H q (Fr.fq y) ∧ Fr.Sz m x ∧ Fr.Sz n y ∧ m + n ≤ 9000 ∧ ∀ r H', Same H H' → SqT K H' r (Fr.fq (x + y)) → Fr.Sz (m + n + 1) (x + y) → Q (.ref r) H'
def sp_minus (K : PySem.W.Frag) : Sp := fun vs H Q _ => ∃ (p q : Addr) (x y : Rat) (m n : Nat), vs = [.ref p, .ref q] ∧ SqT K H p (Fr.fq x) ∧ SqT K H q (Fr.fq y) ∧ Fr.Sz m x ∧ Fr.Sz n y ∧ m + n ≤ 9000 ∧ ∀ r H', Same H H' → SqT K H' r (Fr.fq (x - y)) → Fr.Sz (m + n + 1) (x - y) → Q (.ref r) H'
def sp_times (K : PySem.W.Frag) : Sp := fun vs H Q _ => ∃ (p q : Addr) (x y : Rat) (m n : Nat), vs = [.ref p, .ref q] ∧ SqT K H p (Fr.fq x) ∧ SqT K H q (Fr.fq y) ∧ Fr.Sz m x ∧ Fr.Sz n y ∧ (m + n ≤ 9000 ∨ (m + n ≤ 1000000 ∧ y ≠ 0 ∧ 2 * n ≤ 9000)) ∧ ∀ r H', Same H H' → SqT K H' r (Fr.fq (x * y)) → Fr.Sz (m + n) (x * y) → Q (.ref r) H'
def sp_over (K : PySem.W.Frag) : Sp := fun vs H Q E => ∃ (p q : Addr) (x y : Rat) (m n : Nat), vs = [.ref p, .ref q] ∧ SqT K H p (Fr.fq x) ∧ SqT K H q (Fr.fq y) ∧ Fr.Sz m x ∧ Fr.Sz n y ∧ m + n ≤ 9000 ∧ (y = 0 → E (.ref (He.ga K "NoFraction")) none H) ∧ (y ≠ 0 → ∀ r H', Same H H' → SqT K H' r (Fr.fq (x / y)) → Fr.Sz (m + n) (x / y) → Q (.ref r) H')
def sp_total (K : PySem.W.Frag) : Sp := fun vs H Q _ => ∃ (a : Addr) (xs : List V) (qs : List Rat) (ns : List Nat), vs = [.ref a] ∧ (SqL K H a xs ∨ SqT K H a xs) ∧ Fqs K H xs qs ∧ Paired (fun q n => Fr.Sz n q) qs ns ∧ szs ns ≤ 9000 ∧
  ∀ r H', Same H H' → SqT K H' r (Fr.fq (sum qs)) → Fr.Sz (szs ns) (sum qs) → Q (.ref r) H'
def sp_below (K : PySem.W.Frag) : Sp := fun vs H Q _ => ∃ (p q : Addr) (x y : Rat) (m n : Nat), vs = [.ref p, .ref q] ∧ SqT K H p (Fr.fq x) ∧ SqT K H q (Fr.fq y) ∧ Fr.Sz m x ∧ Fr.Sz n y ∧ m + n ≤ 134217728 ∧ Q (.bl (decide (x < y))) H
def sp_Way___init__ (K : PySem.W.Frag) : Sp := fun vs H Q _ => ∃ (a C dx : Addr) (u : V), vs = [.ref a, u] ∧ H a = some (.ins C dx []) ∧ Cls K C ∧ NoAttr K C "claim" ∧ ∀ H', But a H H' → H' a = some (.ins C dx [("claim", u)]) → Q .non H'
def sp_Comparing___init__ (K : PySem.W.Frag) : Sp := fun vs H Q E => ∃ (a w p dx : Addr) (c : Cm.C) (ms : List (Option Str)) (n : Nat) (H0 : Hp), vs = [.ref a, .ref w, .ref p] ∧ Same H0 H ∧ H0 a = none ∧ H a = some (.ins (He.ga K "Comparing") dx []) ∧ Cm.At K H0 w c ∧ Cm.Ok n c ∧ n ≤ 50 ∧ SqT K H0 p (ms.map Cm.mv) ∧ 1 ≤ ms.length ∧ ms.length ≤ 62 ∧
  (¬ Cm.holds c ms → ∀ H', Same H0 H' → E (.ref (He.ga K "NoMargin")) none H') ∧
  (Cm.holds c ms → ∀ (l r : Addr) (ys : List V) H', Same H0 H' → H' a = some (.ins (He.ga K "Comparing") dx [("claim", .ref w), ("told", .ref l), ("scale", .ref r)]) → H' l = some (.lst ys) → Fqs K H' ys (ms.map (Cm.value c)) → SqT K H' r (Fr.fq (Wy.scale c ms)) → Fr.Sz 5000 (Wy.scale c ms) → Q .non H')
def sp_Comparing_value (K : PySem.W.Frag) : Sp := fun vs H Q _ => ∃ (a : Addr) (i : Nat) (m t : Option Str) (c : Cm.C) (ms : List (Option Str)) (n : Nat), vs = [.ref a, .int (i : Int), Cm.mv m] ∧ Wy.Wa K H a c ms ∧ ms[i]? = some t ∧ Cm.Ok n c ∧ n ≤ 50 ∧ ∀ p H', Same H H' → SqT K H' p (Fr.fq (Wy.cmp c ms t m)) → Q (.ref p) H'
def sp_Comparing_top (K : PySem.W.Frag) : Sp := fun vs H Q _ => ∃ (a : Addr) (c : Cm.C) (ms : List (Option Str)) (n : Nat), vs = [.ref a] ∧ Wy.Wa K H a c ms ∧ 1 ≤ ms.length ∧ Cm.Ok n c ∧ ∀ p H', Same H H' → SqT K H' p (Fr.fq (2 / Wy.scale c ms)) → Q (.ref p) H'
def sp_Claim_value (K : PySem.W.Frag) : Sp := fun vs H Q _ => ∃ (a : Addr) (m : Option Str) (c : Cm.C) (n : Nat), vs = [.ref a, Cm.mv m] ∧ Cm.At K H a c ∧ Cm.Ok n c ∧ n ≤ 1000 ∧ ∀ p H', Same H H' → SqT K H' p (Fr.fq (Cm.value c m)) → Q (.ref p) H'
def sp_Claim_value_of (K : PySem.W.Frag) : Sp := fun vs H Q _ => ∃ (a : Addr) (m : Option Str) (c : Cm.C) (n : Nat), vs = [.ref a, Cm.mv m] ∧ Cm.At K H a c ∧ Cm.Ok n c ∧ n ≤ 1000 ∧ c = .claim ∧ ∀ p H', Same H H' → SqT K H' p (Fr.fq (Cm.valueOf c m)) → Q (.ref p) H'
def sp_Claim_greatest (K : PySem.W.Frag) : Sp := fun vs H Q _ => ∃ (a : Addr) (c : Cm.C) (n : Nat), vs = [.ref a] ∧ Cm.At K H a c ∧ Cm.Ok n c ∧ n ≤ 1000 ∧ c = .claim ∧ ∀ p H', Same H H' → SqT K H' p (Fr.fq (Cm.greatest c)) → Q (.ref p) H'
def sp_Claim_holds (K : PySem.W.Frag) : Sp := fun vs H Q _ => ∃ (a p : Addr) (c : Cm.C) (ms : List (Option Str)) (n : Nat), vs = [.ref a, .ref p] ∧ Cm.At K H a c ∧ Cm.Ok n c ∧ SqT K H p (ms.map Cm.mv) ∧ n ≤ 1000 ∧ ms.length * (n + 6) + 1 ≤ 8000 ∧
  ∀ H', Same H H' → Q (.bl (decide (Cm.holds c ms))) H'
def sp_Beats___init__ (K : PySem.W.Frag) : Sp := fun vs H Q _ => ∃ (a dx : Addr) (u0 u1 : V), vs = [.ref a, u0, u1] ∧ H a = some (.ins (He.ga K "Beats") dx []) ∧ ∀ H', But a H H' → H' a = some (.ins (He.ga K "Beats") dx [("one", u0), ("other", u1)]) → Q .non H'
def sp_Beats_value_of (K : PySem.W.Frag) : Sp := fun vs H Q _ => ∃ (a : Addr) (m : Option Str) (c : Cm.C) (n : Nat), vs = [.ref a, Cm.mv m] ∧ Cm.At K H a c ∧ Cm.Ok n c ∧ n ≤ 1000 ∧ (∃ o t, c = .beats o t) ∧ ∀ p H', Same H H' → SqT K H' p (Fr.fq (Cm.valueOf c m)) → Q (.ref p) H'
def sp_Beats_greatest (K : PySem.W.Frag) : Sp := fun vs H Q _ => ∃ (a : Addr) (c : Cm.C) (n : Nat), vs = [.ref a] ∧ Cm.At K H a c ∧ Cm.Ok n c ∧ n ≤ 1000 ∧ (∃ o t, c = .beats o t) ∧ ∀ p H', Same H H' → SqT K H' p (Fr.fq (Cm.greatest c)) → Q (.ref p) H'
def sp_Over___init__ (K : PySem.W.Frag) : Sp := fun vs H Q _ => ∃ (a dx : Addr) (u0 u1 : V), vs = [.ref a, u0, u1] ∧ H a = some (.ins (He.ga K "Over") dx []) ∧ ∀ H', But a H H' → H' a = some (.ins (He.ga K "Over") dx [("name", u0), ("share", u1)]) → Q .non H'
def sp_Over_value_of (K : PySem.W.Frag) : Sp := fun vs H Q _ => ∃ (a : Addr) (m : Option Str) (c : Cm.C) (n : Nat), vs = [.ref a, Cm.mv m] ∧ Cm.At K H a c ∧ Cm.Ok n c ∧ n ≤ 1000 ∧ (∃ k s, c = .over k s) ∧ ∀ p H', Same H H' → SqT K H' p (Fr.fq (Cm.valueOf c m)) → Q (.ref p) H'
def sp_Over_greatest (K : PySem.W.Frag) : Sp := fun vs H Q _ => ∃ (a : Addr) (c : Cm.C) (n : Nat), vs = [.ref a] ∧ Cm.At K H a c ∧ Cm.Ok n c ∧ n ≤ 1000 ∧ (∃ k s, c = .over k s) ∧ ∀ p H', Same H H' → SqT K H' p (Fr.fq (Cm.greatest c)) → Q (.ref p) H'
def sp_Under___init__ (K : PySem.W.Frag) : Sp := fun vs H Q _ => ∃ (a dx : Addr) (u0 u1 : V), vs = [.ref a, u0, u1] ∧ H a = some (.ins (He.ga K "Under") dx []) ∧ ∀ H', But a H H' → H' a = some (.ins (He.ga K "Under") dx [("name", u0), ("share", u1)]) → Q .non H'
def sp_Under_value_of (K : PySem.W.Frag) : Sp := fun vs H Q _ => ∃ (a : Addr) (m : Option Str) (c : Cm.C) (n : Nat), vs = [.ref a, Cm.mv m] ∧ Cm.At K H a c ∧ Cm.Ok n c ∧ n ≤ 1000 ∧ (∃ k s, c = .under k s) ∧ ∀ p H', Same H H' → SqT K H' p (Fr.fq (Cm.valueOf c m)) → Q (.ref p) H'
def sp_Under_greatest (K : PySem.W.Frag) : Sp := fun vs H Q _ => ∃ (a : Addr) (c : Cm.C) (n : Nat), vs = [.ref a] ∧ Cm.At K H a c ∧ Cm.Ok n c ∧ n ≤ 1000 ∧ (∃ k s, c = .under k s) ∧ ∀ p H', Same H H' → SqT K H' p (Fr.fq (Cm.greatest c)) → Q (.ref p) H'
def sp__law_at (K : PySem.W.Frag) : Sp := fun vs H Q _ => ∃ (a : Addr) (ns : List Int) (k : Int), vs = [.ref a, .int k] ∧ SqL K H a (ns.map V.int) ∧ ns.length ≤ 63 ∧ 0 ≤ k ∧ k ≤ 100000 ∧ ∀ (r : Int) H', Same H H' → Q (.int r) H'
def sp__law_mix (K : PySem.W.Frag) : Sp := fun vs H Q _ => ∃ (c k : Int), vs = [.int c, .int k] ∧ 0 ≤ k ∧ k ≤ 100000 ∧ ∀ r : Int, 0 ≤ r → r < 2147483647 → Q (.int r) H
def sp__law_names (K : PySem.W.Frag) : Sp := fun vs H Q _ => ∃ (c : Int) (m : Nat), vs = [.int c, .int (m : Int)] ∧ m ≤ 8 ∧
  ∀ (q : Addr) (ns : List Str) H', Same H H' → H q = none → H' q = some (.lst (ns.map V.str)) → ns.length = m → ns.Nodup → (∀ s ∈ ns, Pl.Nm s) → Q (.ref q) H'
def sp__law_lowest (K : PySem.W.Frag) : Sp := fun vs H Q _ => ∃ (a b : Int), vs = [.int a, .int b] ∧ b ≠ 0 ∧ Okd a b ∧ ∀ p H', Same H H' → H p = none → SqT K H' p (Fr.fq (Rat.divInt a b)) → Q (.ref p) H'
def sp__law_plus (K : PySem.W.Frag) : Sp := fun vs H Q _ => ∃ (p q : Addr) (x y : Rat) (m n : Nat), vs = [.ref p, .ref q] ∧ SqT K H p (Fr.fq x) ∧ SqT K H q (Fr.fq y) ∧ Fr.Sz m x ∧ Fr.Sz n y ∧ m + n ≤ 9000 ∧ ∀ r H', Same H H' → H r = none → SqT K H' r (Fr.fq (x + y)) → Fr.Sz (m + n + 1) (x + y) → Q (.ref r) H'
def sp__law_times (K : PySem.W.Frag) : Sp := fun vs H Q _ => ∃ (p q : Addr) (x y : Rat) (m n : Nat), vs = [.ref p, .ref q] ∧ SqT K H p (Fr.fq x) ∧ SqT K H q (Fr.fq y) ∧ Fr.Sz m x ∧ Fr.Sz n y ∧ m + n ≤ 9000 ∧ ∀ r H', Same H H' → H r = none → SqT K H' r (Fr.fq (x * y)) → Fr.Sz (m + n) (x * y) → Q (.ref r) H'
def sp__law_greatest (K : PySem.W.Frag) : Sp := fun vs H Q _ => ∃ (p : Addr) (c : Cm.C) (n : Nat), vs = [.ref p] ∧ Cm.Ct K H p c ∧ Cm.Ok n c ∧ n ≤ 1000 ∧ ∀ r H', Same H H' → SqT K H' r (Fr.fq (Cm.greatest c)) → Q (.ref r) H'
def sp__law_value (K : PySem.W.Frag) : Sp := fun vs H Q _ => ∃ (p : Addr) (m : Option Str) (c : Cm.C) (n : Nat), vs = [.ref p, Cm.mv m] ∧ Cm.Ct K H p c ∧ Cm.Ok n c ∧ Cm.Un c ∧ n ≤ 1000 ∧ ∀ r H', Same H H' → SqT K H' r (Fr.fq (Cm.value c m)) → Q (.ref r) H'
def sp__law_all (K : PySem.W.Frag) : Sp := fun vs H Q _ => ∃ (p l : Addr) (c : Cm.C) (ms : List (Option Str)) (n : Nat), vs = [.ref p, .ref l] ∧ Cm.Ct K H p c ∧ Cm.Ok n c ∧ Cm.Un c ∧ n ≤ 50 ∧ (SqL K H l (ms.map Cm.mv) ∨ SqT K H l (ms.map Cm.mv)) ∧ ms.length ≤ 62 ∧
  ∀ r H', Same H H' → SqT K H' r (Fr.fq (Lw.sum (ms.map (Cm.value c)))) → Fr.Sz 3600 (Lw.sum (ms.map (Cm.value c))) → Q (.ref r) H'
def sp__law_is_so (K : PySem.W.Frag) : Sp := fun vs H Q _ => ∃ (p l : Addr) (c : Cm.C) (ms : List (Option Str)) (n : Nat), vs = [.ref p, .ref l] ∧ Cm.Ct K H p c ∧ Cm.Ok n c ∧ Cm.Un c ∧ n ≤ 50 ∧ (SqL K H l (ms.map Cm.mv) ∨ SqT K H l (ms.map Cm.mv)) ∧ ms.length ≤ 62 ∧
  ∀ H', Same H H' → Q (.bl (decide (Cm.holds c ms))) H'
def sp__law_share (K : PySem.W.Frag) : Sp := fun vs H Q _ => ∃ c : Int, vs = [.int c] ∧ ∀ r (s : Rat) H', Same H H' → SqT K H' r (Fr.fq s) → 0 < s → s < 1 → Fr.Sz 7 s → Q (.ref r) H'
def sp__law_claim (K : PySem.W.Frag) : Sp := fun vs H Q _ => ∃ (z : Int) (l : Addr) (ns : List Str), vs = [.int z, .ref l] ∧ H l = some (.lst (ns.map V.str)) ∧ ns.Nodup ∧ 2 ≤ ns.length ∧ ns.length ≤ 8 ∧
  ∀ p (c : Cm.C) H', Same H H' → Cm.Ct K H' p c → Cm.Ok 7 c → Cm.Un c → Cm.Of ns c → Q (.ref p) H'
def sp__law_made (K : PySem.W.Frag) : Sp := fun vs H Q _ => ∃ (p : Addr) (c : Cm.C), vs = [.ref p] ∧ Cm.Ct K H p c ∧ ∀ a H', Same H H' → H a = none → Cm.At K H' a c → Q (.ref a) H'
def sp__law_marks (K : PySem.W.Frag) : Sp := fun vs H Q _ => ∃ (a l : Addr) (ns : List Int) (st m : Nat) (pool : List (Option Str)), vs = [.ref a, .int (st : Int), .int (m : Int), .ref l] ∧ SqL K H a (ns.map V.int) ∧ ns.length ≤ 63 ∧ st ≤ 30 ∧ m ≤ 62 ∧ H l = some (.lst (pool.map Cm.mv)) ∧ 1 ≤ pool.length ∧ pool.length ≤ 100 ∧
  ∀ q (ms : List (Option Str)) H', Same H H' → H q = none → H' q = some (.lst (ms.map Cm.mv)) → ms.length = m → (∀ x ∈ ms, x ∈ pool) → Q (.ref q) H'
def sp__law_helped (K : PySem.W.Frag) : Sp := fun vs H Q _ => ∃ (p l q : Addr) (c : Cm.C) (ms : List (Option Str)) (nms : List Str) (n : Nat), vs = [.ref p, .ref l, .ref q] ∧ Cm.Ct K H p c ∧ Cm.Ok n c ∧ Cm.Un c ∧ n ≤ 50 ∧ H l = some (.lst (ms.map Cm.mv)) ∧ H q = some (.lst (nms.map V.str)) ∧ Cm.Of nms c ∧ nms.Nodup ∧ 2 ≤ nms.length ∧ nms.length ≤ 8 ∧ (∀ s ∈ nms, Pl.Nm s) ∧ 1 ≤ ms.length ∧ ms.length ≤ 62 ∧
  ∀ r (rs : List (Option Str)) H', Same H H' → H' r = some (.lst (rs.map Cm.mv)) → rs.length = ms.length → Cm.holds c rs → (∀ x ∈ rs, x ∈ ms ∨ ∃ g ∈ nms, x = some g) → Q (.ref r) H'
def sp__law_no_greater (K : PySem.W.Frag) : Sp := fun vs H Q _ => ∃ (p q : Addr) (x y : Rat) (m n : Nat), vs = [.ref p, .ref q] ∧ SqT K H p (Fr.fq x) ∧ SqT K H q (Fr.fq y) ∧ Fr.Sz m x ∧ Fr.Sz n y ∧ m + n ≤ 134217728 ∧ Q (.bl (decide (x ≤ y))) H
theorem joinP {G : Prop} {S X : Hp → Prop} (h1 : (∀ H', S H' → X H') → G) (h2 : ∀ H', S H' → X H') : G := h1 h2
def sp_law (K : PySem.W.Frag) : Sp := fun vs H Q _ => ∃ (a : Addr) (ns : List Int), vs = [.ref a] ∧ SqL K H a (ns.map V.int) ∧ ns.length ≤ 63 ∧ ∀ H', Q (.bl true) H'
end Lw
namespace Lw
open PySem PySem.Spec PyProof.Rows L2 Gx
section
variable {P : Program} {w : World} {K : PySem.W.Frag} {mg : Str → Option Value} {base : Heap} {f : Addr} {fd : FuncData}
theorem ok_in_common (F : FnP K "in_common" "in_common" s_in_common f fd) (T : Txt K mg) : FnOk P w K mg base (L2.CX P w) 1 f fd ["a", "b"] (sp_in_common K) := by
  refine F.ok sc_in_common (fun vs H Q E h => ?_) (fun cdv A outer s H vs Q E hr h => ?_)
  · obtain ⟨a, b, rfl, _⟩ := h; rfl
  · refine ⟨_, (pss_cons (ps_set (i := 0) sc_in_common.nd rfl (Or.inl rfl) (pe_callB call_absU (by rfl) T.n_abs (by decide +kernel) (pa_cons (pv 0) pa_nil))) (pss_cons (ps_set (i := 1) sc_in_common.nd rfl (Or.inl rfl) (pe_callB call_absU (by rfl) T.n_abs (by decide +kernel) (pa_cons (pv 1) pa_nil))) (pss_cons (ps_while (passes_of rfl) (pt_cmpR op_gt (pv 1) pe_int (nomark _)) (pss_one (ps_par (i := 0) (j := 1) (by rfl) sc_in_common.nd rfl rfl (by decide) rfl rfl (pa_cons (pv 1) (pa_cons (pe_op op_modN (pv 0) (pv 1)) pa_nil)) (by rfl)))) (pss_one (ps_ret (pv 0)))))), ?_⟩
    obtain ⟨a, b, rfl, kk⟩ := h
    walk_at "go"
    refine k_while (fun m σ H' => H' = H ∧ ∃ x : Nat, σ = [some (.int (x : Int)), some (.int (m : Int))] ∧ Nat.gcd x m = Int.gcd a b) b.natAbs ⟨rfl, a.natAbs, rfl, rfl⟩ ?_
    rintro m σ H' ⟨rfl, x, rfl, e⟩
    walk_at "go"
    refine k_if (fun c => ?_) (fun c => ?_)
    · refine k_wN ?_
      walk_at "go"
      refine ⟨x % m, Nat.mod_lt _ (by omega), rfl, m, rfl, ?_⟩
      rw [← e, Nat.gcd_comm m, ← Nat.gcd_rec, Nat.gcd_comm]
    · obtain rfl : m = 0 := by omega
      walk_at "go"
      rw [Nat.gcd_zero_right] at e
      rw [e]
      exact kk
end
end Lw
namespace Lw
open PySem PySem.Spec PyProof.Rows L2 Gx
section
variable {P : Program} {w : World} {K : PySem.W.Frag} {mg : Str → Option Value} {base : Heap} {f : Addr} {fd : FuncData}
theorem ok_lowest (F : FnP K "lowest" "lowest" s_lowest f fd) (T : Txt K mg) (c_in_common : Cl P w K mg base 1 "in_common" ["a", "b"] (sp_in_common K)) : FnOk P w K mg base (L2.CX P w) 2 f fd ["a", "b"] (sp_lowest K) := by
  refine F.ok sc_lowest (fun vs H Q E h => ?_) (fun cdv A outer s H vs Q E hr h => ?_)
  · obtain ⟨a, b, rfl, _⟩ := h; rfl
  · refine ⟨_, (pss_cons (ps_if (pt_cmpR (op_eqK (K := K) rfl hr) (pv 1) pe_int (nomark _)) (pss_one (ps_raise rfl (takes_of rfl rfl rfl rfl) (pmk_own PySem.F.excBase_ValueError T.x_NoFraction.1 T.g_NoFraction T.x_NoFraction.2.1 (raises_own T.x_NoFraction.2.2.1 T.x_NoFraction.2.2.2) rfl))) pss_nil) (pss_cons (ps_set (i := 2) sc_lowest.nd rfl (Or.inl rfl) (pcall c_in_common hr (by first | decide | omega) (takes_of rfl rfl rfl rfl) (pa_cons (pv 0) (pa_cons (pv 1) pa_nil)))) (C8.pss_cut (ps_if (pt_cmpR op_lt (pv 1) pe_int (nomark _)) (pss_one (ps_set (i := 2) sc_lowest.nd rfl (Or.inl rfl) (pe_op op_sub pe_int (pv 2)))) pss_nil) (pss_one (ps_ret (pe_tup (pa_cons (pe_op op_fdivG (pv 0) (pv 2)) (pa_cons (pe_op op_fdivG (pv 1) (pv 2)) pa_nil)))))))), ?_⟩
    obtain ⟨a, b, rfl, k0, k1⟩ := h
    walk_at "go"
    refine k_if (fun c => ?_) (fun c => ?_)
    · walk_at "go"
      exact k0 c
    · obtain ⟨hd, k1⟩ := k1 c
      walk_at "go"
      refine ⟨a, b, rfl, ?_⟩
      walk_at "go"
      refine k_cut (fun σ H' => H' = H ∧ ∃ d : Int, d = (if b < 0 then 0 - (Int.gcd a b : Int) else (Int.gcd a b : Int)) ∧ σ = [some (.int a), some (.int b), some (.int d)]) ?_ ?_
      · walk_at "go"
        refine k_if (fun c2 => ?_) (fun c2 => ?_)
        · walk_at "go"
          exact ⟨rfl, _, by rw [if_pos c2], rfl⟩
        · walk_at "go"
          exact ⟨rfl, _, by rw [if_neg c2], rfl⟩
      · rintro σ H' ⟨rfl, d, ed, rfl⟩
        have hg := Int.gcd_pos_of_ne_zero_right a c
        have hn : d.natAbs = Int.gcd a b := by rw [ed]; split <;> omega
        have hz : d ≠ 0 := by omega
        obtain ⟨d1, d2⟩ := hd.div hn
        walk_at "go"
        refine k_I ?_ ⟨hz, d1⟩
        walk_at "go"
        refine k_I ?_ ⟨hz, d2⟩
        walk_at "go"
        refine k_tupx (fun p H2 np s1 hp => ?_) (by simp [sizeLine_eq])
        refine k1 p H2 s1 (SqT.of ?_)
        rw [hp, Fr.low_num c ed, Fr.low_den c ed]
end
end Lw
namespace Lw
open PySem PySem.Spec PyProof.Rows L2 Gx
section
variable {P : Program} {w : World} {K : PySem.W.Frag} {mg : Str → Option Value} {base : Heap} {f : Addr} {fd : FuncData}
theorem ok_plus (F : FnP K "plus" "plus" s_plus f fd) (T : Txt K mg) (c_lowest : Cl P w K mg base 2 "lowest" ["a", "b"] (sp_lowest K)) : FnOk P w K mg base (L2.CX P w) 3 f fd ["x", "y"] (sp_plus K) := by
  refine F.ok sc_plus (fun vs H Q E h => ?_) (fun cdv A outer s H vs Q E hr h => ?_)
  · obtain ⟨p, q, x, y, m, n, rfl, _⟩ := h; rfl
  · refine ⟨_, (pss_one (ps_ret (pcall c_lowest hr (by first | decide | omega) (takes_of rfl rfl rfl rfl) (pa_cons (pe_op (op_addK (K := K) rfl) (pe_op (op_mulK (K := K) rfl) (pe_ix (ix_K (K := K) rfl) (pv 0) pe_int (fun _ _ => rfl)) (pe_ix (ix_K (K := K) rfl) (pv 1) pe_int (fun _ _ => rfl))) (pe_op (op_mulK (K := K) rfl) (pe_ix (ix_K (K := K) rfl) (pv 1) pe_int (fun _ _ => rfl)) (pe_ix (ix_K (K := K) rfl) (pv 0) pe_int (fun _ _ => rfl)))) (pa_cons (pe_op (op_mulK (K := K) rfl) (pe_ix (ix_K (K := K) rfl) (pv 0) pe_int (fun _ _ => rfl)) (pe_ix (ix_K (K := K) rfl) (pv 1) pe_int (fun _ _ => rfl))) pa_nil))))), ?_⟩
    obtain ⟨p, q, x, y, m, n, rfl, hp, hq, sx, sy, hmn, kk⟩ := h
    walk_at "go"
    refine k_ixT hp (v := .int x.num) rfl ?_
    walk_at "go"
    refine k_ixT hq (v := .int (y.den : Int)) rfl ?_
    walk_at "go"
    refine k_mulB sx.1 sy.den (by omega) ?_
    walk_at "go"
    refine k_ixT hq (v := .int y.num) rfl ?_
    walk_at "go"
    refine k_ixT hp (v := .int (x.den : Int)) rfl ?_
    walk_at "go"
    refine k_mulB sy.1 sx.den (by omega) ?_
    walk_at "go"
    refine k_ixT hp (v := .int (x.den : Int)) rfl ?_
    walk_at "go"
    refine k_ixT hq (v := .int (y.den : Int)) rfl ?_
    walk_at "go"
    refine k_mulB sx.den sy.den (by omega) ?_
    walk_at "go"
    have hz : (x.den : Int) * (y.den : Int) ≠ 0 := Int.mul_ne_zero (Fr.den_ne x) (Fr.den_ne y)
    refine ⟨_, _, rfl, fun c => absurd c hz, fun _ => ⟨okd_den hz (Fr.dd_lt sx sy) hmn, fun r H' s1 hr => ?_⟩⟩
    rw [Fr.add_eq x y] at hr
    exact kk r H' s1 hr (sx.add sy)
end
end Lw
namespace Lw
open PySem PySem.Spec PyProof.Rows L2 Gx
section
variable {P : Program} {w : World} {K : PySem.W.Frag} {mg : Str → Option Value} {base : Heap} {f : Addr} {fd : FuncData}
theorem ok_minus (F : FnP K "minus" "minus" s_minus f fd) (T : Txt K mg) (c_lowest : Cl P w K mg base 2 "lowest" ["a", "b"] (sp_lowest K)) : FnOk P w K mg base (L2.CX P w) 3 f fd ["x", "y"] (sp_minus K) := by
  refine F.ok sc_minus (fun vs H Q E h => ?_) (fun cdv A outer s H vs Q E hr h => ?_)
  · obtain ⟨p, q, x, y, m, n, rfl, _⟩ := h; rfl
  · refine ⟨_, (pss_one (ps_ret (pcall c_lowest hr (by first | decide | omega) (takes_of rfl rfl rfl rfl) (pa_cons (pe_op op_sub (pe_op (op_mulK (K := K) rfl) (pe_ix (ix_K (K := K) rfl) (pv 0) pe_int (fun _ _ => rfl)) (pe_ix (ix_K (K := K) rfl) (pv 1) pe_int (fun _ _ => rfl))) (pe_op (op_mulK (K := K) rfl) (pe_ix (ix_K (K := K) rfl) (pv 1) pe_int (fun _ _ => rfl)) (pe_ix (ix_K (K := K) rfl) (pv 0) pe_int (fun _ _ => rfl)))) (pa_cons (pe_op (op_mulK (K := K) rfl) (pe_ix (ix_K (K := K) rfl) (pv 0) pe_int (fun _ _ => rfl)) (pe_ix (ix_K (K := K) rfl) (pv 1) pe_int (fun _ _ => rfl))) pa_nil))))), ?_⟩
    obtain ⟨p, q, x, y, m, n, rfl, hp, hq, sx, sy, hmn, kk⟩ := h
    walk_at "go"
    refine k_ixT hp (v := .int x.num) rfl ?_
    walk_at "go"
    refine k_ixT hq (v := .int (y.den : Int)) rfl ?_
    walk_at "go"
    refine k_mulB sx.1 sy.den (by omega) ?_
    walk_at "go"
    refine k_ixT hq (v := .int y.num) rfl ?_
    walk_at "go"
    refine k_ixT hp (v := .int (x.den : Int)) rfl ?_
    walk_at "go"
    refine k_mulB sy.1 sx.den (by omega) ?_
    walk_at "go"
    refine k_ixT hp (v := .int (x.den : Int)) rfl ?_
    walk_at "go"
    refine k_ixT hq (v := .int (y.den : Int)) rfl ?_
    walk_at "go"
    refine k_mulB sx.den sy.den (by omega) ?_
    walk_at "go"
    have hz : (x.den : Int) * (y.den : Int) ≠ 0 := Int.mul_ne_zero (Fr.den_ne x) (Fr.den_ne y)
    refine ⟨_, _, rfl, fun c => absurd c hz, fun _ => ⟨okd_den hz (Fr.dd_lt sx sy) hmn, fun r H' s1 hr => ?_⟩⟩
    rw [Fr.sub_eq x y] at hr
    exact kk r H' s1 hr (sx.sub sy)
end
end Lw
namespace Lw
open PySem PySem.Spec PyProof.Rows L2 Gx
section
variable {P : Program} {w : World} {K : PySem.W.Frag} {mg : Str → Option Value} {base : Heap} {f : Addr} {fd : FuncData}
theorem ok_times (F : FnP K "times" "times" s_times f fd) (T : Txt K mg) (c_lowest : Cl P w K mg base 2 "lowest" ["a", "b"] (sp_lowest K)) : FnOk P w K mg base (L2.CX P w) 3 f fd ["x", "y"] (sp_times K) := by
  refine F.ok sc_times (fun vs H Q E h => ?_) (fun cdv A outer s H vs Q E hr h => ?_)
  · obtain ⟨p, q, x, y, m, n, rfl, _⟩ := h; rfl
  · refine ⟨_, (pss_one (ps_ret (pcall c_lowest hr (by first | decide | omega) (takes_of rfl rfl rfl rfl) (pa_cons (pe_op (op_mulK (K := K) rfl) (pe_ix (ix_K (K := K) rfl) (pv 0) pe_int (fun _ _ => rfl)) (pe_ix (ix_K (K := K) rfl) (pv 1) pe_int (fun _ _ => rfl))) (pa_cons (pe_op (op_mulK (K := K) rfl) (pe_ix (ix_K (K := K) rfl) (pv 0) pe_int (fun _ _ => rfl)) (pe_ix (ix_K (K := K) rfl) (pv 1) pe_int (fun _ _ => rfl))) pa_nil))))), ?_⟩
    obtain ⟨p, q, x, y, m, n, rfl, hp, hq, sx, sy, hmn, kk⟩ := h
    walk_at "go"
    refine k_ixT hp (v := .int x.num) rfl ?_
    walk_at "go"
    refine k_ixT hq (v := .int y.num) rfl ?_
    walk_at "go"
    refine k_mulB sx.1 sy.1 (by omega) ?_
    walk_at "go"
    refine k_ixT hp (v := .int (x.den : Int)) rfl ?_
    walk_at "go"
    refine k_ixT hq (v := .int (y.den : Int)) rfl ?_
    walk_at "go"
    refine k_mulB sx.den sy.den (by omega) ?_
    walk_at "go"
    have hz : (x.den : Int) * (y.den : Int) ≠ 0 := Int.mul_ne_zero (Fr.den_ne x) (Fr.den_ne y)
    have okd : Okd (x.num * y.num) ((x.den : Int) * (y.den : Int)) := hmn.elim (okd_den hz (Fr.dd_lt sx sy)) fun h => okd_mul h.2.1 sy h.2.2
    refine ⟨_, _, rfl, fun c => absurd c hz, fun _ => ⟨okd, fun r H' s1 hr => ?_⟩⟩
    rw [Fr.mul_eq x y] at hr
    exact kk r H' s1 hr (sx.mul sy)
end
end Lw
namespace Lw
open PySem PySem.Spec PyProof.Rows L2 Gx
section
variable {P : Program} {w : World} {K : PySem.W.Frag} {mg : Str → Option Value} {base : Heap} {f : Addr} {fd : FuncData}
theorem ok_over (F : FnP K "over" "over" s_over f fd) (T : Txt K mg) (c_lowest : Cl P w K mg base 2 "lowest" ["a", "b"] (sp_lowest K)) : FnOk P w K mg base (L2.CX P w) 3 f fd ["x", "y"] (sp_over K) := by
  refine F.ok sc_over (fun vs H Q E h => ?_) (fun cdv A outer s H vs Q E hr h => ?_)
  · obtain ⟨p, q, x, y, m, n, rfl, _⟩ := h; rfl
  · refine ⟨_, (pss_one (ps_ret (pcall c_lowest hr (by first | decide | omega) (takes_of rfl rfl rfl rfl) (pa_cons (pe_op (op_mulK (K := K) rfl) (pe_ix (ix_K (K := K) rfl) (pv 0) pe_int (fun _ _ => rfl)) (pe_ix (ix_K (K := K) rfl) (pv 1) pe_int (fun _ _ => rfl))) (pa_cons (pe_op (op_mulK (K := K) rfl) (pe_ix (ix_K (K := K) rfl) (pv 0) pe_int (fun _ _ => rfl)) (pe_ix (ix_K (K := K) rfl) (pv 1) pe_int (fun _ _ => rfl))) pa_nil))))), ?_⟩
    obtain ⟨p, q, x, y, m, n, rfl, hp, hq, sx, sy, hmn, k0, kk⟩ := h
    walk_at "go"
    refine k_ixT hp (v := .int x.num) rfl ?_
    walk_at "go"
    refine k_ixT hq (v := .int (y.den : Int)) rfl ?_
    walk_at "go"
    refine k_mulB sx.1 sy.den (by omega) ?_
    walk_at "go"
    refine k_ixT hp (v := .int (x.den : Int)) rfl ?_
    walk_at "go"
    refine k_ixT hq (v := .int y.num) rfl ?_
    walk_at "go"
    refine k_mulB sx.den sy.1 (by omega) ?_
    walk_at "go"
    refine ⟨_, _, rfl, fun c => ?_, fun c => ?_⟩
    · refine k0 ?_
      rcases Int.mul_eq_zero.mp c with c | c
      · exact absurd c (Fr.den_ne x)
      · exact Rat.num_eq_zero.mp c
    · have hy : y ≠ 0 := fun z => c (by rw [z]; simp)
      refine ⟨okd_den c (Fr.mul_lt sx.den sy.1) hmn, fun r H' s1 hr => ?_⟩
      rw [Fr.div_eq x y] at hr
      exact kk hy r H' s1 hr (sx.div sy)
end
end Lw
namespace Lw
open PySem PySem.Spec PyProof.Rows L2 Gx
section
variable {P : Program} {w : World} {K : PySem.W.Frag} {mg : Str → Option Value} {base : Heap} {f : Addr} {fd : FuncData}
theorem ok_total (F : FnP K "total" "total" s_total f fd) (T : Txt K mg) (c_plus : Cl P w K mg base 3 "plus" ["x", "y"] (sp_plus K)) : FnOk P w K mg base (L2.CX P w) 4 f fd ["some"] (sp_total K) := by
  refine F.ok sc_total (fun vs H Q E h => ?_) (fun cdv A outer s H vs Q E hr h => ?_)
  · obtain ⟨a, xs, qs, ns, rfl, _⟩ := h; rfl
  · refine ⟨_, (pss_cons (ps_set (i := 1) sc_total.nd rfl (Or.inl rfl) (pe_tup (pa_cons pe_int (pa_cons pe_int pa_nil)))) (pss_cons (ps_for (passes_of rfl) rfl (pi_seqU (pv 0)) (pg_name (i := 2) sc_total.nd rfl (Or.inl rfl)) (pss_one (ps_set (i := 1) sc_total.nd rfl (Or.inl rfl) (pcall c_plus hr (by first | decide | omega) (takes_of rfl rfl rfl rfl) (pa_cons (pv 1) (pa_cons (pv 2) pa_nil)))))) (pss_one (ps_ret (pv 1))))), ?_⟩
    obtain ⟨a, xs, qs, ns, rfl, hS, hq, hz, hn, kk⟩ := h
    walk_at "go"
    refine k_tupx (fun p H1 np s1 hp => ?_) (by simp [sizeLine_eq])
    walk_at "go"
    refine k_loopU (xs := xs) (hS.imp (seqL_same s1) (seqT_same s1)) (fun i σ H' => Same H1 H' ∧ ∃ (r : Addr) (t : Option V), σ = [some (.ref a), some (.ref r), t] ∧ SqT K H' r (Fr.fq (sum (qs.take i))) ∧ Fr.Sz (szs (ns.take i)) (sum (qs.take i)))
      ⟨Same.refl _, p, none, rfl, SqT.of hp, by simp only [List.take_zero]; exact ⟨by decide, by decide⟩⟩ (fun i σ' H' h => h.1) ?_ ?_
    · rintro i x σ H2 hx ⟨s2, r, t, rfl, hr, hsz⟩
      obtain ⟨px, q, rfl, hqi, hpx⟩ := Fqs.get ((hq.same s1).same s2) hx
      obtain ⟨n, hni, hqn⟩ := Paired.get hz hqi
      have hle := szs_take ns (i + 1)
      rw [take_snoc hni, szs_snoc] at hle
      walk_at "go"
      refine ⟨r, px, _, q, szs (ns.take i), n, rfl, hr, hpx, hsz, hqn, by omega, fun r2 H3 s3 hr2 hsz2 => ?_⟩
      walk_at "go"
      refine ⟨s2.trans s3, r2, _, rfl, ?_, ?_⟩
      · rw [take_snoc hqi, sum_snoc]
        exact hr2
      · rw [take_snoc hqi, sum_snoc, take_snoc hni, szs_snoc]
        exact hsz2
    · rintro σ H2 ⟨s2, r, t, rfl, hr, hsz⟩
      have e1 : qs.take xs.length = qs := by rw [hq.len, List.take_length]
      have e2 : ns.take xs.length = ns := by rw [hq.len, Paired.length hz, List.take_length]
      rw [e1] at hr hsz
      rw [e2] at hsz
      walk_at "go"
      exact kk r H2 (s1.trans s2) hr hsz
end
end Lw
namespace Lw
open PySem PySem.Spec PyProof.Rows L2 Gx
section
variable {P : Program} {w : World} {K : PySem.W.Frag} {mg : Str → Option Value} {base : Heap} {f : Addr} {fd : FuncData}
theorem ok_below (F : FnP K "below" "below" s_below f fd) (T : Txt K mg) : FnOk P w K mg base (L2.CX P w) 1 f fd ["x", "y"] (sp_below K) := by
  refine F.ok sc_below (fun vs H Q E h => ?_) (fun cdv A outer s H vs Q E hr h => ?_)
  · obtain ⟨p, q, x, y, m, n, rfl, _⟩ := h; rfl
  · refine ⟨_, (pss_one (ps_ret (pe_cmpR op_lt (pe_op (op_mulK (K := K) rfl) (pe_ix (ix_K (K := K) rfl) (pv 0) pe_int (fun _ _ => rfl)) (pe_ix (ix_K (K := K) rfl) (pv 1) pe_int (fun _ _ => rfl))) (pe_op (op_mulK (K := K) rfl) (pe_ix (ix_K (K := K) rfl) (pv 1) pe_int (fun _ _ => rfl)) (pe_ix (ix_K (K := K) rfl) (pv 0) pe_int (fun _ _ => rfl))) (nomark _)))), ?_⟩
    obtain ⟨p, q, x, y, m, n, rfl, hp, hq, sx, sy, hmn, kk⟩ := h
    walk_at "go"
    refine k_ixT hp (v := .int x.num) rfl ?_
    walk_at "go"
    refine k_ixT hq (v := .int (y.den : Int)) rfl ?_
    walk_at "go"
    refine k_mulB sx.1 sy.den (by omega) ?_
    walk_at "go"
    refine k_ixT hq (v := .int y.num) rfl ?_
    walk_at "go"
    refine k_ixT hp (v := .int (x.den : Int)) rfl ?_
    walk_at "go"
    refine k_mulB sy.1 sx.den (by omega) ?_
    walk_at "go"
    have e : decide (x.num * (y.den : Int) < y.num * (x.den : Int)) = decide (x < y) := by
      by_cases c : x < y
      · rw [decide_eq_true c, decide_eq_true ((Rat.lt_iff x y).mp c)]
      · rw [decide_eq_false c, decide_eq_false (fun z => c ((Rat.lt_iff x y).mpr z))]
    rw [e]
    exact kk
end
end Lw
namespace Lw
open PySem PySem.Spec PyProof.Rows L2 Gx
section
variable {P : Program} {w : World} {K : PySem.W.Frag} {mg : Str → Option Value} {base : Heap} {f : Addr} {fd : FuncData}
theorem ok_Way___init__ (F : FnP K "__init__" "Way.__init__" s_Way___init__ f fd) (T : Txt K mg) : FnOk P w K mg base (L2.CX P w) 1 f fd ["self", "claim"] (sp_Way___init__ K) := by
  refine F.ok sc_Way___init__ (fun vs H Q E h => ?_) (fun cdv A outer s H vs Q E hr h => ?_)
  · obtain ⟨a, C, dx, u, rfl, _⟩ := h; rfl
  · refine ⟨_, (pss_one (ps_fld (pv 0) (pv 1) rfl)), ?_⟩
    obtain ⟨a, C, dx, u, rfl, h0, hc, hn, kk⟩ := h
    walk_at "go"
    refine k_sfldx h0 hc hn (fun H1 b1 h1 => ?_) (by walk_at "pl")
    walk_at "go"
    exact kk H1 b1 (by rw [h1]; walk_at "pf")
end
end Lw
namespace Lw
open PySem PySem.Spec PyProof.Rows L2 Gx
section
variable {P : Program} {w : World} {K : PySem.W.Frag} {mg : Str → Option Value} {base : Heap} {f : Addr} {fd : FuncData}
theorem ok_Comparing___init__ (F : FnP K "__init__" "Comparing.__init__" s_Comparing___init__ f fd) (T : Txt K mg) (c_minus : Cl P w K mg base 3 "minus" ["x", "y"] (sp_minus K)) (c_over : Cl P w K mg base 3 "over" ["x", "y"] (sp_over K)) (m_Under_greatest : MCl P w K mg base 4 "Under" "greatest" ["self"] (sp_Under_greatest K)) (m_Over_greatest : MCl P w K mg base 4 "Over" "greatest" ["self"] (sp_Over_greatest K)) (m_Beats_greatest : MCl P w K mg base 1 "Beats" "greatest" ["self"] (sp_Beats_greatest K)) (m_Claim_greatest : MCl P w K mg base 1 "Claim" "greatest" ["self"] (sp_Claim_greatest K)) (c_times : Cl P w K mg base 3 "times" ["x", "y"] (sp_times K)) (c_total : Cl P w K mg base 4 "total" ["some"] (sp_total K)) (m_Under_value : MCl P w K mg base 6 "Under" "value" ["self", "mark"] (sp_Claim_value K)) (m_Over_value : MCl P w K mg base 6 "Over" "value" ["self", "mark"] (sp_Claim_value K)) (m_Beats_value : MCl P w K mg base 6 "Beats" "value" ["self", "mark"] (sp_Claim_value K)) (m_Claim_value : MCl P w K mg base 6 "Claim" "value" ["self", "mark"] (sp_Claim_value K)) (m_Under_holds : MCl P w K mg base 7 "Under" "holds" ["self", "marks"] (sp_Claim_holds K)) (m_Over_holds : MCl P w K mg base 7 "Over" "holds" ["self", "marks"] (sp_Claim_holds K)) (m_Beats_holds : MCl P w K mg base 7 "Beats" "holds" ["self", "marks"] (sp_Claim_holds K)) (m_Claim_holds : MCl P w K mg base 7 "Claim" "holds" ["self", "marks"] (sp_Claim_holds K)) (s_Way___init__ : SCl P w K mg base 1 "Way" "__init__" ["self", "claim"] (sp_Way___init__ K)) : FnOk P w K mg base (L2.CX P w) 8 f fd ["self", "claim", "marks"] (sp_Comparing___init__ K) := by
  refine F.ok sc_Comparing___init__ (fun vs H Q E h => ?_) (fun cdv A outer s H vs Q E hr h => ?_)
  · obtain ⟨a, w, p, dx, c, ms, n, H0, rfl, _⟩ := h; rfl
  · refine ⟨_, (pss_cons (ps_expr (psup s_Way___init__ hr (by first | decide | omega) (pa_cons (pv 0) (pa_cons (pv 1) pa_nil)))) (pss_cons (ps_if (pt_not (pt_val (pe_or2 (pmeth rfl m_Claim_holds hr (by first | decide | omega) (takes_of rfl rfl rfl rfl) (pv 1) (pa_cons (pv 2) pa_nil)) (pe_or2 (pmeth rfl m_Beats_holds hr (by first | decide | omega) (takes_of rfl rfl rfl rfl) (pv 1) (pa_cons (pv 2) pa_nil)) (pe_or2 (pmeth rfl m_Over_holds hr (by first | decide | omega) (takes_of rfl rfl rfl rfl) (pv 1) (pa_cons (pv 2) pa_nil)) (pmeth rfl m_Under_holds hr (by first | decide | omega) (takes_of rfl rfl rfl rfl) (pv 1) (pa_cons (pv 2) pa_nil))))))) (pss_one (ps_raise rfl (takes_of rfl rfl rfl rfl) (pmk_own PySem.F.excBase_ValueError T.x_NoMargin.1 T.g_NoMargin T.x_NoMargin.2.1 (raises_own T.x_NoMargin.2.2.1 T.x_NoMargin.2.2.2) rfl))) pss_nil) (pss_cons (ps_fld (pv 0) (pe_lc (own := [("mark", 5)]) (g := gName 5) (by rfl) sc_Comparing___init__.nd (pi_seqU (pv 2)) (blkOk_by (own := [("mark", 5)]) (N := ["self", "claim", "marks", "mean", "margin", "mark"]) (sc := defScope s_Comparing___init__) (by decide +kernel)) (fun _ _ _ _ _ => pg_name (i := 5) sc_Comparing___init__.nd rfl (Or.inl rfl)) (fun _ _ _ _ _ => pts_nil) (fun _ _ _ _ _ => (pe_or2 (pmethN rfl m_Claim_value hr (by first | decide | omega) (pv 1) (pa_cons (pv 5) pa_nil)) (pe_or2 (pmethN rfl m_Beats_value hr (by first | decide | omega) (pv 1) (pa_cons (pv 5) pa_nil)) (pe_or2 (pmethN rfl m_Over_value hr (by first | decide | omega) (pv 1) (pa_cons (pv 5) pa_nil)) (pmethN rfl m_Under_value hr (by first | decide | omega) (pv 1) (pa_cons (pv 5) pa_nil))))))) rfl) (pss_cons (ps_set (i := 3) sc_Comparing___init__.nd rfl (Or.inl rfl) (pcall c_over hr (by first | decide | omega) (takes_of rfl rfl rfl rfl) (pa_cons (pcall c_total hr (by first | decide | omega) (takes_of rfl rfl rfl rfl) (pa_cons (pe_fldK (K := K) rfl (pv 0) rfl) pa_nil)) (pa_cons (pe_tup (pa_cons (pe_callB (callK (K := K) (r := rLenU) rfl call_lenU) (by rfl) T.n_len (by decide +kernel) (pa_cons (pv 2) pa_nil)) (pa_cons pe_int pa_nil))) pa_nil)))) (pss_cons (ps_set (i := 4) sc_Comparing___init__.nd rfl (Or.inl rfl) (pcall c_minus hr (by first | decide | omega) (takes_of rfl rfl rfl rfl) (pa_cons (pcall c_times hr (by first | decide | omega) (takes_of rfl rfl rfl rfl) (pa_cons (C8.pe_gc (by rfl) T.c_TWO) (pa_cons (pv 3) pa_nil))) (pa_cons (C8.pe_gc (by rfl) T.c_ONE_ways) pa_nil)))) (pss_one (ps_fld (pv 0) (pcall c_minus hr (by first | decide | omega) (takes_of rfl rfl rfl rfl) (pa_cons (C8.pe_gc (by rfl) T.c_TWO) (pa_cons (pcall c_over hr (by first | decide | omega) (takes_of rfl rfl rfl rfl) (pa_cons (pv 4) (pa_cons (pe_or2 (pmeth0 rfl m_Claim_greatest hr (by first | decide | omega) (takes_of rfl rfl rfl rfl) (pv 1)) (pe_or2 (pmeth0 rfl m_Beats_greatest hr (by first | decide | omega) (takes_of rfl rfl rfl rfl) (pv 1)) (pe_or2 (pmeth0 rfl m_Over_greatest hr (by first | decide | omega) (takes_of rfl rfl rfl rfl) (pv 1)) (pmeth0 rfl m_Under_greatest hr (by first | decide | omega) (takes_of rfl rfl rfl rfl) (pv 1))))) pa_nil))) pa_nil))) rfl))))))), ?_⟩
    obtain ⟨a, w, p, dx, c, ms, n, H0, rfl, s0, na, ha, hc, ok, hn, hp, l1, l2, kE, kk⟩ := h
    have hsz : ms.length * (n + 6) + 1 ≤ 3600 := by
      have : ms.length * (n + 6) ≤ 62 * 56 := Nat.mul_le_mul l2 (by omega)
      omega
    walk_at "go"
    refine ⟨a, _, dx, .ref w, rfl, ha, T.cl_Comparing, T.f_Comparing_claim, fun H1 b1 h1 => ?_⟩
    have s1 := But.same na s0 b1
    walk_at "go"
    refine Cm.k_m4 (a := w) (c := c) (fun Q' h => by walk_at "go"; exact h) (hc.same s1) ?_
    walk_at "go"
    rw [Cm.pick_same]
    refine ⟨w, p, c, ms, n, rfl, hc.same s1, ok, seqT_same s1 hp, by omega, by omega, fun H2 s2 => ?_⟩
    walk_at "go"
    refine k_ifn (fun c1 => ?_) (fun hh => ?_)
    · walk_at "go"
      exact kE c1 H2 (s1.trans s2)
    have h2 := s2 _ _ h1
    have s02 := s1.trans s2
    walk_at "go"
    refine k_lcU (.inr (seqT_same s02 hp)) (fun D i ys H' => Same H2 H' ∧ Fqs K H' ys ((ms.take i).map (Cm.value c)) ∧ ys.length = i) (fun D H' nD sD hD => ⟨sD, .nil, rfl⟩) (fun D i ys H' nD h => h.1) ?_ ?_
    · rintro D i x ys H' nD hx ⟨s, fq, hy⟩ hD
      obtain ⟨m, hm, rfl⟩ := Cm.get_map hx
      have hi := (List.getElem?_eq_some_iff.mp hm).1
      have hc' := hc.same (s02.trans s)
      refine k_lcB rfl ?_
      walk_at "go"
      refine Cm.k_m4 (a := w) (c := c) (fun Q' h => by walk_at "go"; exact h) hc' ?_
      walk_at "go"
      rw [Cm.pick_same]
      refine ⟨w, m, c, n, rfl, hc', ok, by omega, fun p7 H7 s7 h7 => ?_⟩
      have hD7 := s7 _ _ hD
      refine ⟨_, hD7, by rw [sizeLine_eq]; omega, _, ⟨But.same nD (s.trans s7) But.upd, ?_, by simp [hy]⟩, upd_same⟩
      rw [take_snoc hm, List.map_append]
      exact Fqs.snoc (seqT_but But.upd hD7 h7) (Fqs.but But.upd hD7 (fq.same s7))
    rintro D ys H3 nD ⟨s3, fq, hy⟩ hD
    rw [List.length_map, List.take_of_length_le (Nat.le_refl _)] at fq
    rw [List.length_map] at hy
    walk_at "go"
    refine k_sfldx (s3 _ _ h2) T.cl_Comparing T.f_Comparing_told (fun H4 b4 h4 => ?_) (by walk_at "pl")
    replace h4 : H4 a = some (.ins (He.ga K "Comparing") dx [("claim", .ref w), ("told", .ref D)]) := by rw [h4]; walk_at "pf"
    have s4 := But.same na ((s1.trans s2).trans s3) b4
    have naD : D ≠ a := fun e => by subst e; rw [h2] at nD; cases nD
    have hD4 := b4 _ _ naD hD
    have sz := Cm.sizes c ok ms
    have fq4 : Fqs K H4 ys (ms.map (Cm.value c)) := Wy.fqs_butI b4 (s3 _ _ h2) fq
    walk_at "go"
    refine k_fldx h4 T.cl_Comparing T.f_Comparing_told (by walk_at "lk") ?_
    walk_at "go"
    refine ⟨D, ys, _, _, rfl, .inl (SqL.of hD4), fq4, sz, by rw [Cm.szs_rep]; omega, fun r5 H5 s5 hr5 sz5 => ?_⟩
    rw [Cm.szs_rep] at sz5
    walk_at "go"
    refine k_lenT ?_ (seqT_same (s4.trans s5) hp)
    rw [List.length_map]
    walk_at "go"
    refine k_tupx (fun r6 H6 n6 s6 hr6 => ?_) (by simp [sizeLine_eq])
    refine ⟨r5, r6, _, (ms.length : Rat), _, 10, rfl, seqT_same s6 hr5, by rw [Wy.fqn]; exact SqT.of hr6, sz5, Wy.szn (by omega) (by decide), by omega, fun e => absurd e (Wy.n_ne l1), fun _ r7 H7 s7 hr7 sz7 => ?_⟩
    walk_at "go"
    refine ⟨_, r7, 2, _, 3, _, rfl, by rw [Wy.fq2]; exact T.t_TWO H7, hr7, Wy.sz2, sz7, by omega, fun r8 H8 s8 hr8 sz8 => ?_⟩
    walk_at "go"
    refine ⟨r8, _, _, 1, _, 2, rfl, hr8, by rw [Cm.fq1]; exact T.t_ONE_ways H8, sz8, Cm.sz1 (n := 0), by omega, fun r9 H9 s9 hr9 sz9 => ?_⟩
    walk_at "go"
    have s49 : Same H4 H9 := s5.trans (s6.trans (s7.trans (s8.trans s9)))
    have hc9 := hc.same (s4.trans s49)
    have gr : ∀ (Q' : VK) (E' : XK), (∀ p H', Same H9 H' → SqT K H' p (Fr.fq (Cm.greatest c)) → Q' (.ref p) H') → (Cm.pick c (sp_Claim_greatest K) (sp_Beats_greatest K) (sp_Over_greatest K) (sp_Under_greatest K)) [.ref w] H9 Q' E' := fun Q' E' q => by
      cases c with
      | claim => exact ⟨w, _, n, rfl, hc9, ok, by omega, rfl, q⟩
      | beats o t => exact ⟨w, _, n, rfl, hc9, ok, by omega, ⟨o, t, rfl⟩, q⟩
      | over k s => exact ⟨w, _, n, rfl, hc9, ok, by omega, ⟨k, s, rfl⟩, q⟩
      | under k s => exact ⟨w, _, n, rfl, hc9, ok, by omega, ⟨k, s, rfl⟩, q⟩
    refine Cm.k_m4 (a := w) (c := c) (fun Q' h => by walk_at "go"; exact h) hc9 ?_
    walk_at "go"
    refine gr _ _ (fun g H10 s10 hg => ?_)
    walk_at "go"
    refine ⟨r9, g, _, _, _, n + 5, rfl, seqT_same s10 hr9, hg, sz9, Cm.sz_greatest ok, by omega, fun e => absurd e (Wy.g_ne ok), fun _ r11 H11 s11 hr11 sz11 => ?_⟩
    walk_at "go"
    refine ⟨_, r11, 2, _, 3, _, rfl, by rw [Wy.fq2]; exact T.t_TWO H11, hr11, Wy.sz2, sz11, by omega, fun r12 H12 s12 hr12 sz12 => ?_⟩
    walk_at "go"
    have s4c : Same H4 H12 := s49.trans (s10.trans (s11.trans s12))
    refine k_sfldx (s4c _ _ h4) T.cl_Comparing T.f_Comparing_scale (fun H13 b13 h13 => ?_) (by walk_at "pl")
    replace h13 : H13 a = some (.ins (He.ga K "Comparing") dx [("claim", .ref w), ("told", .ref D), ("scale", .ref r12)]) := by rw [h13]; walk_at "pf"
    walk_at "go"
    refine kk hh D r12 ys H13 (But.same na (s4.trans s4c) b13) h13 (b13 _ _ naD (s4c _ _ hD4)) ?_ ?_ (sz12.mono (by omega))
    · exact Wy.fqs_butI b13 (s4c _ _ h4) (fq4.same s4c)
    · exact seqT_butI b13 (s4c _ _ h4) hr12
end
end Lw
namespace Lw
open PySem PySem.Spec PyProof.Rows L2 Gx
section
variable {P : Program} {w : World} {K : PySem.W.Frag} {mg : Str → Option Value} {base : Heap} {f : Addr} {fd : FuncData}
theorem ok_Comparing_value (F : FnP K "value" "Comparing.value" s_Comparing_value f fd) (T : Txt K mg) (c_over : Cl P w K mg base 3 "over" ["x", "y"] (sp_over K)) (c_minus : Cl P w K mg base 3 "minus" ["x", "y"] (sp_minus K)) (m_Under_greatest : MCl P w K mg base 4 "Under" "greatest" ["self"] (sp_Under_greatest K)) (m_Over_greatest : MCl P w K mg base 4 "Over" "greatest" ["self"] (sp_Over_greatest K)) (m_Beats_greatest : MCl P w K mg base 1 "Beats" "greatest" ["self"] (sp_Beats_greatest K)) (m_Claim_greatest : MCl P w K mg base 1 "Claim" "greatest" ["self"] (sp_Claim_greatest K)) (m_Under_value : MCl P w K mg base 6 "Under" "value" ["self", "mark"] (sp_Claim_value K)) (m_Over_value : MCl P w K mg base 6 "Over" "value" ["self", "mark"] (sp_Claim_value K)) (m_Beats_value : MCl P w K mg base 6 "Beats" "value" ["self", "mark"] (sp_Claim_value K)) (m_Claim_value : MCl P w K mg base 6 "Claim" "value" ["self", "mark"] (sp_Claim_value K)) : FnOk P w K mg base (L2.CX P w) 7 f fd ["self", "number", "mark"] (sp_Comparing_value K) := by
  refine F.ok sc_Comparing_value (fun vs H Q E h => ?_) (fun cdv A outer s H vs Q E hr h => ?_)
  · obtain ⟨a, i, m, t, c, ms, n, rfl, _⟩ := h; rfl
  · refine ⟨_, (pss_cons (ps_set (i := 3) sc_Comparing_value.nd rfl (Or.inl rfl) (pcall c_minus hr (by first | decide | omega) (takes_of rfl rfl rfl rfl) (pa_cons (pe_ix (ix_K (K := K) rfl) (pe_fldK (K := K) rfl (pv 0) rfl) (pv 1) (fun _ _ => rfl)) (pa_cons (pe_or2 (pmeth rfl m_Claim_value hr (by first | decide | omega) (takes_of rfl rfl rfl rfl) (pe_fldK (K := K) rfl (pv 0) rfl) (pa_cons (pv 2) pa_nil)) (pe_or2 (pmeth rfl m_Beats_value hr (by first | decide | omega) (takes_of rfl rfl rfl rfl) (pe_fldK (K := K) rfl (pv 0) rfl) (pa_cons (pv 2) pa_nil)) (pe_or2 (pmeth rfl m_Over_value hr (by first | decide | omega) (takes_of rfl rfl rfl rfl) (pe_fldK (K := K) rfl (pv 0) rfl) (pa_cons (pv 2) pa_nil)) (pmeth rfl m_Under_value hr (by first | decide | omega) (takes_of rfl rfl rfl rfl) (pe_fldK (K := K) rfl (pv 0) rfl) (pa_cons (pv 2) pa_nil))))) pa_nil)))) (pss_cons (ps_set (i := 4) sc_Comparing_value.nd rfl (Or.inl rfl) (pcall c_minus hr (by first | decide | omega) (takes_of rfl rfl rfl rfl) (pa_cons (C8.pe_gc (by rfl) T.c_ONE_ways) (pa_cons (pcall c_over hr (by first | decide | omega) (takes_of rfl rfl rfl rfl) (pa_cons (pv 3) (pa_cons (pe_or2 (pmeth0 rfl m_Claim_greatest hr (by first | decide | omega) (takes_of rfl rfl rfl rfl) (pe_fldK (K := K) rfl (pv 0) rfl)) (pe_or2 (pmeth0 rfl m_Beats_greatest hr (by first | decide | omega) (takes_of rfl rfl rfl rfl) (pe_fldK (K := K) rfl (pv 0) rfl)) (pe_or2 (pmeth0 rfl m_Over_greatest hr (by first | decide | omega) (takes_of rfl rfl rfl rfl) (pe_fldK (K := K) rfl (pv 0) rfl)) (pmeth0 rfl m_Under_greatest hr (by first | decide | omega) (takes_of rfl rfl rfl rfl) (pe_fldK (K := K) rfl (pv 0) rfl))))) pa_nil))) pa_nil)))) (pss_one (ps_ret (pcall c_over hr (by first | decide | omega) (takes_of rfl rfl rfl rfl) (pa_cons (pv 4) (pa_cons (pe_fldK (K := K) rfl (pv 0) rfl) pa_nil))))))), ?_⟩
    obtain ⟨a, i, m, t, c, ms, n, rfl, ⟨dx, w, l, r, ys, hi, hc, hl, fq, hr, sr⟩, ht, ok, hn, kk⟩ := h
    have z1 := Cm.sz_value c ok t
    have z2 := Cm.sz_value c ok m
    have gz := Cm.sz_greatest ok
    have hil := (List.getElem?_eq_some_iff.mp ht).1
    have hyl : ys.length = ms.length := by rw [fq.len, List.length_map]
    obtain ⟨y, hy⟩ : ∃ y, ys[i]? = some y := ⟨_, List.getElem?_eq_getElem (by omega)⟩
    obtain ⟨tp, q, rfl, hq, htp⟩ := fq.get hy
    rw [List.getElem?_map, ht] at hq
    obtain rfl : Cm.value c t = q := Option.some.inj hq
    walk_at "go"
    refine k_fldx hi T.cl_Comparing T.f_Comparing_told (by walk_at "lk") ?_
    walk_at "go"
    refine k_ixL (SqL.of hl) (atI_nat hy) ?_
    walk_at "go"
    refine Cm.k_m4 (a := w) (c := c) (fun Q' h => by walk_at "go"; refine k_fldx hi T.cl_Comparing T.f_Comparing_claim (by walk_at "lk") ?_; exact h) hc ?_
    walk_at "go"
    rw [Cm.pick_same]
    refine ⟨w, m, c, n, rfl, hc, ok, by omega, fun r1 H1 s1 hr1 => ?_⟩
    refine ⟨tp, r1, _, _, _, _, rfl, seqT_same s1 htp, hr1, z1, z2, by omega, fun r2 H2 s2 hr2 sz2 => ?_⟩
    walk_at "go"
    have s02 := s1.trans s2
    have hc2 := hc.same s02
    have gr : ∀ (Q' : VK) (E' : XK), (∀ p H', Same H2 H' → SqT K H' p (Fr.fq (Cm.greatest c)) → Q' (.ref p) H') → (Cm.pick c (sp_Claim_greatest K) (sp_Beats_greatest K) (sp_Over_greatest K) (sp_Under_greatest K)) [.ref w] H2 Q' E' := fun Q' E' q => by
      cases c with
      | claim => exact ⟨w, _, n, rfl, hc2, ok, by omega, rfl, q⟩
      | beats o t => exact ⟨w, _, n, rfl, hc2, ok, by omega, ⟨o, t, rfl⟩, q⟩
      | over k s => exact ⟨w, _, n, rfl, hc2, ok, by omega, ⟨k, s, rfl⟩, q⟩
      | under k s => exact ⟨w, _, n, rfl, hc2, ok, by omega, ⟨k, s, rfl⟩, q⟩
    refine Cm.k_m4 (a := w) (c := c) (fun Q' h => by walk_at "go"; refine k_fldx (s02 _ _ hi) T.cl_Comparing T.f_Comparing_claim (by walk_at "lk") ?_; exact h) hc2 ?_
    walk_at "go"
    refine gr _ _ (fun g H3 s3 hg => ?_)
    walk_at "go"
    refine ⟨r2, g, _, _, _, n + 5, rfl, seqT_same s3 hr2, hg, sz2, gz, by omega, fun e => absurd e (Wy.g_ne ok), fun _ r4 H4 s4 hr4 sz4 => ?_⟩
    walk_at "go"
    refine ⟨_, r4, 1, _, 2, _, rfl, by rw [Cm.fq1]; exact T.t_ONE_ways H4, hr4, Cm.sz1 (n := 0), sz4, by omega, fun r5 H5 s5 hr5 sz5 => ?_⟩
    walk_at "go"
    have s05 := s02.trans (s3.trans (s4.trans s5))
    refine k_fldx (s05 _ _ hi) T.cl_Comparing T.f_Comparing_scale (by walk_at "lk") ?_
    walk_at "go"
    refine ⟨r5, r, _, _, _, _, rfl, hr5, seqT_same s05 hr, sz5, sr, by omega, fun e => absurd e (Wy.scale_ne ok (by omega)), fun _ r6 H6 s6 hr6 _ => ?_⟩
    exact kk r6 H6 (s05.trans s6) hr6
end
end Lw
namespace Lw
open PySem PySem.Spec PyProof.Rows L2 Gx
section
variable {P : Program} {w : World} {K : PySem.W.Frag} {mg : Str → Option Value} {base : Heap} {f : Addr} {fd : FuncData}
theorem ok_Comparing_top (F : FnP K "top" "Comparing.top" s_Comparing_top f fd) (T : Txt K mg) (c_over : Cl P w K mg base 3 "over" ["x", "y"] (sp_over K)) : FnOk P w K mg base (L2.CX P w) 4 f fd ["self"] (sp_Comparing_top K) := by
  refine F.ok sc_Comparing_top (fun vs H Q E h => ?_) (fun cdv A outer s H vs Q E hr h => ?_)
  · obtain ⟨a, c, ms, n, rfl, _⟩ := h; rfl
  · refine ⟨_, (pss_one (ps_ret (pcall c_over hr (by first | decide | omega) (takes_of rfl rfl rfl rfl) (pa_cons (C8.pe_gc (by rfl) T.c_TWO) (pa_cons (pe_fldK (K := K) rfl (pv 0) rfl) pa_nil))))), ?_⟩
    obtain ⟨a, c, ms, n, rfl, ⟨dx, w, l, r, ys, hi, hc, hl, fq, hr, sr⟩, m1, ok, kk⟩ := h
    walk_at "go"
    refine k_fldx hi T.cl_Comparing T.f_Comparing_scale (by walk_at "lk") ?_
    walk_at "go"
    refine ⟨_, r, 2, _, 3, _, rfl, by rw [Wy.fq2]; exact T.t_TWO H, hr, Wy.sz2, sr, by omega, fun e => absurd e (Wy.scale_ne ok m1), fun _ r6 H6 s6 hr6 _ => ?_⟩
    exact kk r6 H6 s6 hr6
end
end Lw
namespace Lw
open PySem PySem.Spec PyProof.Rows L2 Gx
section
variable {P : Program} {w : World} {K : PySem.W.Frag} {mg : Str → Option Value} {base : Heap} {f : Addr} {fd : FuncData}
theorem ok_Claim_value (F : FnP K "value" "Claim.value" s_Claim_value f fd) (T : Txt K mg) (m_Under_value_of : MCl P w K mg base 5 "Under" "value_of" ["self", "mark"] (sp_Under_value_of K)) (m_Over_value_of : MCl P w K mg base 5 "Over" "value_of" ["self", "mark"] (sp_Over_value_of K)) (m_Beats_value_of : MCl P w K mg base 1 "Beats" "value_of" ["self", "mark"] (sp_Beats_value_of K)) (m_Claim_value_of : MCl P w K mg base 1 "Claim" "value_of" ["self", "mark"] (sp_Claim_value_of K)) : FnOk P w K mg base (L2.CX P w) 6 f fd ["self", "mark"] (sp_Claim_value K) := by
  refine F.ok sc_Claim_value (fun vs H Q E h => ?_) (fun cdv A outer s H vs Q E hr h => ?_)
  · obtain ⟨a, m, c, n, rfl, _⟩ := h; rfl
  · refine ⟨_, (pss_cons (ps_if (pt_cmpR (op_eqK (K := K) rfl hr) (pv 1) pe_str (nomark _)) (pss_one (ps_ret (C8.pe_gc (by rfl) T.c_NOUGHT_claims))) pss_nil) (pss_one (ps_ret (pe_or2 (pmeth rfl m_Claim_value_of hr (by first | decide | omega) (takes_of rfl rfl rfl rfl) (pv 0) (pa_cons (pv 1) pa_nil)) (pe_or2 (pmeth rfl m_Beats_value_of hr (by first | decide | omega) (takes_of rfl rfl rfl rfl) (pv 0) (pa_cons (pv 1) pa_nil)) (pe_or2 (pmeth rfl m_Over_value_of hr (by first | decide | omega) (takes_of rfl rfl rfl rfl) (pv 0) (pa_cons (pv 1) pa_nil)) (pmeth rfl m_Under_value_of hr (by first | decide | omega) (takes_of rfl rfl rfl rfl) (pv 0) (pa_cons (pv 1) pa_nil)))))))), ?_⟩
    obtain ⟨a, m, c, n, rfl, hc, ok, hn, kk⟩ := h
    walk_at "go"
    refine Cm.k_eqM ?_
    walk_at "go"
    refine k_if (fun c1 => ?_) (fun c1 => ?_)
    · walk_at "go"
      refine kk _ H (Same.refl H) ?_
      rw [show Cm.value c m = 0 from if_pos c1, Cm.fq0]
      exact T.t_NOUGHT_claims H
    · walk_at "go"
      have e : Cm.value c m = Cm.valueOf c m := if_neg c1
      have hc0 := hc
      cases c with
      | claim =>
        obtain ⟨dx, hi⟩ := hc
        refine k_o1 ?_
        walk_at "go"
        refine k_methx hi (by walk_at "lz") ?_
        walk_at "go"
        exact ⟨a, m, _, n, rfl, hc0, ok, hn, rfl, fun p H1 s1 hp => kk p H1 s1 (by rw [e]; exact hp)⟩
      | beats o t =>
        obtain ⟨dx, hi⟩ := hc
        refine k_o2 (k_o1 ?_)
        walk_at "go"
        refine k_methx hi (by walk_at "lz") ?_
        walk_at "go"
        exact ⟨a, m, _, n, rfl, hc0, ok, hn, ⟨o, t, rfl⟩, fun p H1 s1 hp => kk p H1 s1 (by rw [e]; exact hp)⟩
      | over k s =>
        obtain ⟨dx, q, hi, hq⟩ := hc
        refine k_o2 (k_o2 (k_o1 ?_))
        walk_at "go"
        refine k_methx hi (by walk_at "lz") ?_
        walk_at "go"
        exact ⟨a, m, _, n, rfl, hc0, ok, hn, ⟨k, s, rfl⟩, fun p H1 s1 hp => kk p H1 s1 (by rw [e]; exact hp)⟩
      | under k s =>
        obtain ⟨dx, q, hi, hq⟩ := hc
        refine k_o2 (k_o2 (k_o2 ?_))
        walk_at "go"
        refine k_methx hi (by walk_at "lz") ?_
        walk_at "go"
        exact ⟨a, m, _, n, rfl, hc0, ok, hn, ⟨k, s, rfl⟩, fun p H1 s1 hp => kk p H1 s1 (by rw [e]; exact hp)⟩
end
end Lw
namespace Lw
open PySem PySem.Spec PyProof.Rows L2 Gx
section
variable {P : Program} {w : World} {K : PySem.W.Frag} {mg : Str → Option Value} {base : Heap} {f : Addr} {fd : FuncData}
theorem ok_Claim_value_of (F : FnP K "value_of" "Claim.value_of" s_Claim_value_of f fd) (T : Txt K mg) : FnOk P w K mg base (L2.CX P w) 1 f fd ["self", "mark"] (sp_Claim_value_of K) := by
  refine F.ok sc_Claim_value_of (fun vs H Q E h => ?_) (fun cdv A outer s H vs Q E hr h => ?_)
  · obtain ⟨a, m, c, n, rfl, _⟩ := h; rfl
  · refine ⟨_, (pss_one (ps_ret (C8.pe_gc (by rfl) T.c_HALF))), ?_⟩
    obtain ⟨a, m, c, n, rfl, hc, ok, hn, rfl, kk⟩ := h
    walk_at "go"
    refine kk _ H (Same.refl H) ?_
    rw [show Cm.valueOf .claim m = 1/2 from rfl, Cm.fqh]
    exact T.t_HALF H
end
end Lw
namespace Lw
open PySem PySem.Spec PyProof.Rows L2 Gx
section
variable {P : Program} {w : World} {K : PySem.W.Frag} {mg : Str → Option Value} {base : Heap} {f : Addr} {fd : FuncData}
theorem ok_Claim_greatest (F : FnP K "greatest" "Claim.greatest" s_Claim_greatest f fd) (T : Txt K mg) : FnOk P w K mg base (L2.CX P w) 1 f fd ["self"] (sp_Claim_greatest K) := by
  refine F.ok sc_Claim_greatest (fun vs H Q E h => ?_) (fun cdv A outer s H vs Q E hr h => ?_)
  · obtain ⟨a, c, n, rfl, _⟩ := h; rfl
  · refine ⟨_, (pss_one (ps_ret (C8.pe_gc (by rfl) T.c_HALF))), ?_⟩
    obtain ⟨a, c, n, rfl, hc, ok, hn, rfl, kk⟩ := h
    walk_at "go"
    refine kk _ H (Same.refl H) ?_
    rw [show Cm.greatest .claim = 1/2 from rfl, Cm.fqh]
    exact T.t_HALF H
end
end Lw
namespace Lw
open PySem PySem.Spec PyProof.Rows L2 Gx
section
variable {P : Program} {w : World} {K : PySem.W.Frag} {mg : Str → Option Value} {base : Heap} {f : Addr} {fd : FuncData}
theorem ok_Claim_holds (F : FnP K "holds" "Claim.holds" s_Claim_holds f fd) (T : Txt K mg) (c_below : Cl P w K mg base 1 "below" ["x", "y"] (sp_below K)) (c_total : Cl P w K mg base 4 "total" ["some"] (sp_total K)) (m_Under_value : MCl P w K mg base 6 "Under" "value" ["self", "mark"] (sp_Claim_value K)) (m_Over_value : MCl P w K mg base 6 "Over" "value" ["self", "mark"] (sp_Claim_value K)) (m_Beats_value : MCl P w K mg base 6 "Beats" "value" ["self", "mark"] (sp_Claim_value K)) (m_Claim_value : MCl P w K mg base 6 "Claim" "value" ["self", "mark"] (sp_Claim_value K)) (c_lowest : Cl P w K mg base 2 "lowest" ["a", "b"] (sp_lowest K)) : FnOk P w K mg base (L2.CX P w) 7 f fd ["self", "marks"] (sp_Claim_holds K) := by
  refine F.ok sc_Claim_holds (fun vs H Q E h => ?_) (fun cdv A outer s H vs Q E hr h => ?_)
  · obtain ⟨a, p, c, ms, n, rfl, _⟩ := h; rfl
  · refine ⟨_, (pss_one (ps_ret (pcall c_below hr (by first | decide | omega) (takes_of rfl rfl rfl rfl) (pa_cons (pcall c_lowest hr (by first | decide | omega) (takes_of rfl rfl rfl rfl) (pa_cons (pe_callB (callK (K := K) (r := rLenU) rfl call_lenU) (by rfl) T.n_len (by decide +kernel) (pa_cons (pv 1) pa_nil)) (pa_cons pe_int pa_nil))) (pa_cons (pcall c_total hr (by first | decide | omega) (takes_of rfl rfl rfl rfl) (pa_cons (pe_lc (own := [("mark", 2)]) (g := gName 2) (by rfl) sc_Claim_holds.nd (pi_seqU (pv 1)) (blkOk_by (own := [("mark", 2)]) (N := ["self", "marks", "mark"]) (sc := defScope s_Claim_holds) (by decide +kernel)) (fun _ _ _ _ _ => pg_name (i := 2) sc_Claim_holds.nd rfl (Or.inl rfl)) (fun _ _ _ _ _ => pts_nil) (fun _ _ _ _ _ => (pe_or2 (pmethN rfl m_Claim_value hr (by first | decide | omega) (pv 0) (pa_cons (pv 2) pa_nil)) (pe_or2 (pmethN rfl m_Beats_value hr (by first | decide | omega) (pv 0) (pa_cons (pv 2) pa_nil)) (pe_or2 (pmethN rfl m_Over_value hr (by first | decide | omega) (pv 0) (pa_cons (pv 2) pa_nil)) (pmethN rfl m_Under_value hr (by first | decide | omega) (pv 0) (pa_cons (pv 2) pa_nil))))))) pa_nil)) pa_nil))))), ?_⟩
    obtain ⟨a, p, c, ms, n, rfl, hc, ok, hp, hn, hsz, kk⟩ := h
    have hml : ms.length * 6 ≤ 8000 := by
      have : ms.length * 6 ≤ ms.length * (n + 6) := Nat.mul_le_mul_left _ (by omega)
      omega
    walk_at "go"
    refine k_lenT ?_ hp
    walk_at "go"
    rw [List.length_map]
    refine ⟨_, _, rfl, fun z => absurd z (by decide), fun _ => ⟨.inl ⟨?_, by decide⟩, fun p1 H1 s1 h1 => ?_⟩⟩
    · refine Nat.lt_of_lt_of_le (m := 2 ^ 13) (by omega) (Nat.pow_le_pow_right (by decide) (by decide))
    walk_at "go"
    have hp1 := seqT_same s1 hp
    refine k_lcU (.inr hp1) (fun D i ys H' => Same H1 H' ∧ Fqs K H' ys ((ms.take i).map (Cm.value c)) ∧ ys.length = i) (fun D H' nD sD hD => ⟨sD, .nil, rfl⟩) (fun D i ys H' nD h => h.1) ?_ ?_
    · rintro D i x ys H' nD hx ⟨s, fq, hy⟩ hD
      obtain ⟨m, hm, rfl⟩ : ∃ m, ms[i]? = some m ∧ x = Cm.mv m := by
        rw [List.getElem?_map] at hx
        cases e : ms[i]? with
        | none => rw [e] at hx; cases hx
        | some m => rw [e] at hx; exact ⟨m, rfl, (Option.some.inj hx).symm⟩
      have hi := (List.getElem?_eq_some_iff.mp hm).1
      have hc' := hc.same (s1.trans s)
      have fin : ∀ p7 H7, Same H' H7 → SqT K H7 p7 (Fr.fq (Cm.value c m)) → ∃ acc, H7 D = some (.lst acc) ∧ acc.length < sizeLine ∧ ∃ zs, (Same H1 (upd H7 D (.lst (acc ++ [V.ref p7]))) ∧ Fqs K (upd H7 D (.lst (acc ++ [V.ref p7]))) zs ((ms.take (i + 1)).map (Cm.value c)) ∧ zs.length = i + 1) ∧ upd H7 D (.lst (acc ++ [V.ref p7])) D = some (.lst zs) := fun p7 H7 s7 h7 => by
        have hD7 := s7 _ _ hD
        refine ⟨_, hD7, by rw [sizeLine_eq]; omega, _, ⟨But.same nD (s.trans s7) But.upd, ?_, by simp [hy]⟩, upd_same⟩
        rw [take_snoc hm, List.map_append]
        exact Fqs.snoc (seqT_but But.upd hD7 h7) (Fqs.but But.upd hD7 (fq.same s7))
      refine k_lcB rfl ?_
      walk_at "go"
      have hc0 := hc'
      cases c with
      | claim =>
        obtain ⟨dx, hi2⟩ := hc'
        refine k_o1 ?_
        walk_at "go"
        refine k_methx hi2 (by walk_at "lz") ?_
        walk_at "go"
        exact ⟨a, m, _, n, rfl, hc0, ok, hn, fin⟩
      | beats o t =>
        obtain ⟨dx, hi2⟩ := hc'
        refine k_o2 (k_o1 ?_)
        walk_at "go"
        refine k_methx hi2 (by walk_at "lz") ?_
        walk_at "go"
        exact ⟨a, m, _, n, rfl, hc0, ok, hn, fin⟩
      | over k s' =>
        obtain ⟨dx, q, hi2, hq⟩ := hc'
        refine k_o2 (k_o2 (k_o1 ?_))
        walk_at "go"
        refine k_methx hi2 (by walk_at "lz") ?_
        walk_at "go"
        exact ⟨a, m, _, n, rfl, hc0, ok, hn, fin⟩
      | under k s' =>
        obtain ⟨dx, q, hi2, hq⟩ := hc'
        refine k_o2 (k_o2 (k_o2 ?_))
        walk_at "go"
        refine k_methx hi2 (by walk_at "lz") ?_
        walk_at "go"
        exact ⟨a, m, _, n, rfl, hc0, ok, hn, fin⟩
    · rintro D ys H2 nD ⟨s2, fq, hy⟩ hD
      rw [List.length_map, List.take_of_length_le (Nat.le_refl _)] at fq
      rw [List.length_map] at hy
      have sz := Cm.sizes c ok ms
      refine ⟨D, ys, _, _, rfl, .inl (SqL.of hD), fq, sz, by rw [Cm.szs_rep]; omega, fun r H3 s3 hr sz2 => ?_⟩
      walk_at "go"
      refine ⟨p1, r, _, _, 14, _, rfl, seqT_same s3 (seqT_same s2 h1), hr, Fr.sz_divInt (by decide) (by omega) (by decide), sz2, by rw [Cm.szs_rep]; omega, ?_⟩
      walk_at "go"
      have := kk H3 (s1.trans (s2.trans s3))
      rw [show Rat.divInt (ms.length : Int) 2 = (ms.length : Rat) / 2 from Cm.half_of ms.length]
      exact this
end
end Lw
namespace Lw
open PySem PySem.Spec PyProof.Rows L2 Gx
section
variable {P : Program} {w : World} {K : PySem.W.Frag} {mg : Str → Option Value} {base : Heap} {f : Addr} {fd : FuncData}
theorem ok_Beats___init__ (F : FnP K "__init__" "Beats.__init__" s_Beats___init__ f fd) (T : Txt K mg) : FnOk P w K mg base (L2.CX P w) 1 f fd ["self", "one", "other"] (sp_Beats___init__ K) := by
  refine F.ok sc_Beats___init__ (fun vs H Q E h => ?_) (fun cdv A outer s H vs Q E hr h => ?_)
  · obtain ⟨a, dx, u0, u1, rfl, _⟩ := h; rfl
  · refine ⟨_, (pss_cons (ps_fld (pv 0) (pv 1) rfl) (pss_one (ps_fld (pv 0) (pv 2) rfl))), ?_⟩
    obtain ⟨a, dx, u0, u1, rfl, h0, kk⟩ := h
    walk_at "go"
    refine k_sfldx h0 T.cl_Beats T.f_Beats_one (fun H1 b1 h1 => ?_) (by walk_at "pl")
    walk_at "go"
    refine k_sfldx h1 T.cl_Beats T.f_Beats_other (fun H2 b2 h2 => ?_) (by walk_at "pl")
    walk_at "go"
    exact kk H2 (b1.trans b2) (by rw [h2]; walk_at "pf")
end
end Lw
namespace Lw
open PySem PySem.Spec PyProof.Rows L2 Gx
section
variable {P : Program} {w : World} {K : PySem.W.Frag} {mg : Str → Option Value} {base : Heap} {f : Addr} {fd : FuncData}
theorem ok_Beats_value_of (F : FnP K "value_of" "Beats.value_of" s_Beats_value_of f fd) (T : Txt K mg) : FnOk P w K mg base (L2.CX P w) 1 f fd ["self", "mark"] (sp_Beats_value_of K) := by
  refine F.ok sc_Beats_value_of (fun vs H Q E h => ?_) (fun cdv A outer s H vs Q E hr h => ?_)
  · obtain ⟨a, m, c, n, rfl, _⟩ := h; rfl
  · refine ⟨_, (pss_cons (ps_if (pt_cmpR (op_eqK (K := K) rfl hr) (pv 1) (pe_fldK (K := K) rfl (pv 0) rfl) (nomark _)) (pss_one (ps_ret (C8.pe_gc (by rfl) T.c_ONE_claims))) pss_nil) (pss_cons (ps_if (pt_cmpR (op_eqK (K := K) rfl hr) (pv 1) (pe_fldK (K := K) rfl (pv 0) rfl) (nomark _)) (pss_one (ps_ret (C8.pe_gc (by rfl) T.c_NOUGHT_claims))) pss_nil) (pss_one (ps_ret (C8.pe_gc (by rfl) T.c_HALF))))), ?_⟩
    obtain ⟨a, m, c, n, rfl, hc, ok, hn, ⟨o, t, rfl⟩, kk⟩ := h
    obtain ⟨dx, hi⟩ := hc
    have kk : ∀ p H', Same H H' → SqT K H' p (Fr.fq (if m = some o then 1 else if m = some t then 0 else 1/2)) → Q (.ref p) H' := kk
    walk_at "go"
    refine k_fldx hi T.cl_Beats T.f_Beats_one (by walk_at "lk") ?_
    walk_at "go"
    refine Cm.k_eqM ?_
    walk_at "go"
    refine k_if (fun c1 => ?_) (fun c1 => ?_)
    · walk_at "go"
      refine kk _ H (Same.refl H) ?_
      rw [if_pos c1, Cm.fq1]
      exact T.t_ONE_claims H
    · walk_at "go"
      refine k_fldx hi T.cl_Beats T.f_Beats_other (by walk_at "lk") ?_
      walk_at "go"
      refine Cm.k_eqM ?_
      walk_at "go"
      refine k_if (fun c2 => ?_) (fun c2 => ?_)
      · walk_at "go"
        refine kk _ H (Same.refl H) ?_
        rw [if_neg c1, if_pos c2, Cm.fq0]
        exact T.t_NOUGHT_claims H
      · walk_at "go"
        refine kk _ H (Same.refl H) ?_
        rw [if_neg c1, if_neg c2, Cm.fqh]
        exact T.t_HALF H
end
end Lw
namespace Lw
open PySem PySem.Spec PyProof.Rows L2 Gx
section
variable {P : Program} {w : World} {K : PySem.W.Frag} {mg : Str → Option Value} {base : Heap} {f : Addr} {fd : FuncData}
theorem ok_Beats_greatest (F : FnP K "greatest" "Beats.greatest" s_Beats_greatest f fd) (T : Txt K mg) : FnOk P w K mg base (L2.CX P w) 1 f fd ["self"] (sp_Beats_greatest K) := by
  refine F.ok sc_Beats_greatest (fun vs H Q E h => ?_) (fun cdv A outer s H vs Q E hr h => ?_)
  · obtain ⟨a, c, n, rfl, _⟩ := h; rfl
  · refine ⟨_, (pss_one (ps_ret (C8.pe_gc (by rfl) T.c_ONE_claims))), ?_⟩
    obtain ⟨a, c, n, rfl, hc, ok, hn, ⟨o, t, rfl⟩, kk⟩ := h
    walk_at "go"
    refine kk _ H (Same.refl H) ?_
    rw [show Cm.greatest (.beats o t) = 1 from rfl, Cm.fq1]
    exact T.t_ONE_claims H
end
end Lw
namespace Lw
open PySem PySem.Spec PyProof.Rows L2 Gx
section
variable {P : Program} {w : World} {K : PySem.W.Frag} {mg : Str → Option Value} {base : Heap} {f : Addr} {fd : FuncData}
theorem ok_Over___init__ (F : FnP K "__init__" "Over.__init__" s_Over___init__ f fd) (T : Txt K mg) : FnOk P w K mg base (L2.CX P w) 1 f fd ["self", "name", "share"] (sp_Over___init__ K) := by
  refine F.ok sc_Over___init__ (fun vs H Q E h => ?_) (fun cdv A outer s H vs Q E hr h => ?_)
  · obtain ⟨a, dx, u0, u1, rfl, _⟩ := h; rfl
  · refine ⟨_, (pss_cons (ps_fld (pv 0) (pv 1) rfl) (pss_one (ps_fld (pv 0) (pv 2) rfl))), ?_⟩
    obtain ⟨a, dx, u0, u1, rfl, h0, kk⟩ := h
    walk_at "go"
    refine k_sfldx h0 T.cl_Over T.f_Over_name (fun H1 b1 h1 => ?_) (by walk_at "pl")
    walk_at "go"
    refine k_sfldx h1 T.cl_Over T.f_Over_share (fun H2 b2 h2 => ?_) (by walk_at "pl")
    walk_at "go"
    exact kk H2 (b1.trans b2) (by rw [h2]; walk_at "pf")
end
end Lw
namespace Lw
open PySem PySem.Spec PyProof.Rows L2 Gx
section
variable {P : Program} {w : World} {K : PySem.W.Frag} {mg : Str → Option Value} {base : Heap} {f : Addr} {fd : FuncData}
theorem ok_Over_value_of (F : FnP K "value_of" "Over.value_of" s_Over_value_of f fd) (T : Txt K mg) (m_Over_greatest : MCl P w K mg base 4 "Over" "greatest" ["self"] (sp_Over_greatest K)) : FnOk P w K mg base (L2.CX P w) 5 f fd ["self", "mark"] (sp_Over_value_of K) := by
  refine F.ok sc_Over_value_of (fun vs H Q E h => ?_) (fun cdv A outer s H vs Q E hr h => ?_)
  · obtain ⟨a, m, c, n, rfl, _⟩ := h; rfl
  · refine ⟨_, (pss_cons (ps_if (PW.pt (pw_or (pt_cmpR op_isNU (pv 1) pe_non (nomark _)) (pw_or1 (pt_cmpR (op_eqK (K := K) rfl hr) (pv 1) pe_str (nomark _))))) (pss_one (ps_ret (C8.pe_gc (by rfl) T.c_HALF))) pss_nil) (pss_cons (ps_if (pt_cmpR (op_eqK (K := K) rfl hr) (pv 1) (pe_fldK (K := K) rfl (pv 0) rfl) (nomark _)) (pss_one (ps_ret (pmeth0 rfl m_Over_greatest hr (by first | decide | omega) (takes_of rfl rfl rfl rfl) (pv 0)))) pss_nil) (pss_one (ps_ret (C8.pe_gc (by rfl) T.c_NOUGHT_claims))))), ?_⟩
    obtain ⟨a, m, c, n, rfl, hc, ok, hn, ⟨k, s, rfl⟩, kk⟩ := h
    have hc0 := hc
    obtain ⟨dx, q, hi, hq⟩ := hc
    have kk : ∀ p H', Same H H' → SqT K H' p (Fr.fq (if m = none ∨ m = some (Str.ofString "") then 1/2 else if m = some k then Cm.greatest (.over k s) else 0)) → Q (.ref p) H' := kk
    have half : m = none ∨ m = some (Str.ofString "") → Q (.ref (He.ga K "HALF")) H := fun c1 => by
      refine kk _ H (Same.refl H) ?_
      rw [if_pos c1, Cm.fqh]
      exact T.t_HALF H
    walk_at "go"
    rw [Cm.dec_non]
    refine k_if (fun c1 => ?_) (fun c1 => ?_)
    · walk_at "go"
      exact half (.inl c1)
    walk_at "go"
    refine Cm.k_eqM ?_
    walk_at "go"
    refine k_if (fun c2 => ?_) (fun c2 => ?_)
    · walk_at "go"
      exact half (.inr c2)
    walk_at "go"
    refine k_fldx hi T.cl_Over T.f_Over_name (by walk_at "lk") ?_
    walk_at "go"
    refine Cm.k_eqM ?_
    walk_at "go"
    have nn : ¬ (m = none ∨ m = some (Str.ofString "")) := fun z => z.elim c1 c2
    refine k_if (fun c3 => ?_) (fun c3 => ?_)
    · walk_at "go"
      refine k_methx hi (by walk_at "lz") ?_
      walk_at "go"
      refine ⟨a, .over k s, n, rfl, hc0, ok, hn, ⟨k, s, rfl⟩, fun p H1 s1 hp => ?_⟩
      exact kk p H1 s1 (by rw [if_neg nn, if_pos c3]; exact hp)
    · walk_at "go"
      refine kk _ H (Same.refl H) ?_
      rw [if_neg nn, if_neg c3, Cm.fq0]
      exact T.t_NOUGHT_claims H
end
end Lw
namespace Lw
open PySem PySem.Spec PyProof.Rows L2 Gx
section
variable {P : Program} {w : World} {K : PySem.W.Frag} {mg : Str → Option Value} {base : Heap} {f : Addr} {fd : FuncData}
theorem ok_Over_greatest (F : FnP K "greatest" "Over.greatest" s_Over_greatest f fd) (T : Txt K mg) (c_over : Cl P w K mg base 3 "over" ["x", "y"] (sp_over K)) : FnOk P w K mg base (L2.CX P w) 4 f fd ["self"] (sp_Over_greatest K) := by
  refine F.ok sc_Over_greatest (fun vs H Q E h => ?_) (fun cdv A outer s H vs Q E hr h => ?_)
  · obtain ⟨a, c, n, rfl, _⟩ := h; rfl
  · refine ⟨_, (pss_one (ps_ret (pcall c_over hr (by first | decide | omega) (takes_of rfl rfl rfl rfl) (pa_cons (C8.pe_gc (by rfl) T.c_HALF) (pa_cons (pe_fldK (K := K) rfl (pv 0) rfl) pa_nil))))), ?_⟩
    obtain ⟨a, c, n, rfl, hc, ok, hn, ⟨k, s, rfl⟩, kk⟩ := h
    obtain ⟨dx, q, hi, hq⟩ := hc
    walk_at "go"
    refine k_fldx hi T.cl_Over T.f_Over_share (by walk_at "lk") ?_
    walk_at "go"
    refine ⟨_, q, 1/2, s, 2, n, rfl, by rw [Cm.fqh]; exact T.t_HALF H, hq, Cm.szh (n := 0), ok.2.2, by omega, fun e => absurd e (Cm.ne0 ok.1), fun _ r H1 s1 hr _ => ?_⟩
    walk_at "go"
    exact kk r H1 s1 hr
end
end Lw
namespace Lw
open PySem PySem.Spec PyProof.Rows L2 Gx
section
variable {P : Program} {w : World} {K : PySem.W.Frag} {mg : Str → Option Value} {base : Heap} {f : Addr} {fd : FuncData}
theorem ok_Under___init__ (F : FnP K "__init__" "Under.__init__" s_Under___init__ f fd) (T : Txt K mg) : FnOk P w K mg base (L2.CX P w) 1 f fd ["self", "name", "share"] (sp_Under___init__ K) := by
  refine F.ok sc_Under___init__ (fun vs H Q E h => ?_) (fun cdv A outer s H vs Q E hr h => ?_)
  · obtain ⟨a, dx, u0, u1, rfl, _⟩ := h; rfl
  · refine ⟨_, (pss_cons (ps_fld (pv 0) (pv 1) rfl) (pss_one (ps_fld (pv 0) (pv 2) rfl))), ?_⟩
    obtain ⟨a, dx, u0, u1, rfl, h0, kk⟩ := h
    walk_at "go"
    refine k_sfldx h0 T.cl_Under T.f_Under_name (fun H1 b1 h1 => ?_) (by walk_at "pl")
    walk_at "go"
    refine k_sfldx h1 T.cl_Under T.f_Under_share (fun H2 b2 h2 => ?_) (by walk_at "pl")
    walk_at "go"
    exact kk H2 (b1.trans b2) (by rw [h2]; walk_at "pf")
end
end Lw
namespace Lw
open PySem PySem.Spec PyProof.Rows L2 Gx
section
variable {P : Program} {w : World} {K : PySem.W.Frag} {mg : Str → Option Value} {base : Heap} {f : Addr} {fd : FuncData}
theorem ok_Under_value_of (F : FnP K "value_of" "Under.value_of" s_Under_value_of f fd) (T : Txt K mg) (m_Under_greatest : MCl P w K mg base 4 "Under" "greatest" ["self"] (sp_Under_greatest K)) : FnOk P w K mg base (L2.CX P w) 5 f fd ["self", "mark"] (sp_Under_value_of K) := by
  refine F.ok sc_Under_value_of (fun vs H Q E h => ?_) (fun cdv A outer s H vs Q E hr h => ?_)
  · obtain ⟨a, m, c, n, rfl, _⟩ := h; rfl
  · refine ⟨_, (pss_cons (ps_if (PW.pt (pw_or (pt_cmpR op_isNU (pv 1) pe_non (nomark _)) (pw_or1 (pt_cmpR (op_eqK (K := K) rfl hr) (pv 1) pe_str (nomark _))))) (pss_one (ps_ret (C8.pe_gc (by rfl) T.c_HALF))) pss_nil) (pss_cons (ps_if (pt_cmpR (op_eqK (K := K) rfl hr) (pv 1) (pe_fldK (K := K) rfl (pv 0) rfl) (nomark _)) (pss_one (ps_ret (C8.pe_gc (by rfl) T.c_NOUGHT_claims))) pss_nil) (pss_one (ps_ret (pmeth0 rfl m_Under_greatest hr (by first | decide | omega) (takes_of rfl rfl rfl rfl) (pv 0)))))), ?_⟩
    obtain ⟨a, m, c, n, rfl, hc, ok, hn, ⟨k, s, rfl⟩, kk⟩ := h
    have hc0 := hc
    obtain ⟨dx, q, hi, hq⟩ := hc
    have kk : ∀ p H', Same H H' → SqT K H' p (Fr.fq (if m = none ∨ m = some (Str.ofString "") then 1/2 else if m = some k then 0 else Cm.greatest (.under k s))) → Q (.ref p) H' := kk
    have half : m = none ∨ m = some (Str.ofString "") → Q (.ref (He.ga K "HALF")) H := fun c1 => by
      refine kk _ H (Same.refl H) ?_
      rw [if_pos c1, Cm.fqh]
      exact T.t_HALF H
    walk_at "go"
    rw [Cm.dec_non]
    refine k_if (fun c1 => ?_) (fun c1 => ?_)
    · walk_at "go"
      exact half (.inl c1)
    walk_at "go"
    refine Cm.k_eqM ?_
    walk_at "go"
    refine k_if (fun c2 => ?_) (fun c2 => ?_)
    · walk_at "go"
      exact half (.inr c2)
    walk_at "go"
    refine k_fldx hi T.cl_Under T.f_Under_name (by walk_at "lk") ?_
    walk_at "go"
    refine Cm.k_eqM ?_
    walk_at "go"
    have nn : ¬ (m = none ∨ m = some (Str.ofString "")) := fun z => z.elim c1 c2
    refine k_if (fun c3 => ?_) (fun c3 => ?_)
    · walk_at "go"
      refine kk _ H (Same.refl H) ?_
      rw [if_neg nn, if_pos c3, Cm.fq0]
      exact T.t_NOUGHT_claims H
    · walk_at "go"
      refine k_methx hi (by walk_at "lz") ?_
      walk_at "go"
      refine ⟨a, .under k s, n, rfl, hc0, ok, hn, ⟨k, s, rfl⟩, fun p H1 s1 hp => ?_⟩
      exact kk p H1 s1 (by rw [if_neg nn, if_neg c3]; exact hp)
end
end Lw
namespace Lw
open PySem PySem.Spec PyProof.Rows L2 Gx
section
variable {P : Program} {w : World} {K : PySem.W.Frag} {mg : Str → Option Value} {base : Heap} {f : Addr} {fd : FuncData}
theorem ok_Under_greatest (F : FnP K "greatest" "Under.greatest" s_Under_greatest f fd) (T : Txt K mg) (c_over : Cl P w K mg base 3 "over" ["x", "y"] (sp_over K)) (c_minus : Cl P w K mg base 3 "minus" ["x", "y"] (sp_minus K)) : FnOk P w K mg base (L2.CX P w) 4 f fd ["self"] (sp_Under_greatest K) := by
  refine F.ok sc_Under_greatest (fun vs H Q E h => ?_) (fun cdv A outer s H vs Q E hr h => ?_)
  · obtain ⟨a, c, n, rfl, _⟩ := h; rfl
  · refine ⟨_, (pss_one (ps_ret (pcall c_over hr (by first | decide | omega) (takes_of rfl rfl rfl rfl) (pa_cons (C8.pe_gc (by rfl) T.c_HALF) (pa_cons (pcall c_minus hr (by first | decide | omega) (takes_of rfl rfl rfl rfl) (pa_cons (C8.pe_gc (by rfl) T.c_ONE_claims) (pa_cons (pe_fldK (K := K) rfl (pv 0) rfl) pa_nil))) pa_nil))))), ?_⟩
    obtain ⟨a, c, n, rfl, hc, ok, hn, ⟨k, s, rfl⟩, kk⟩ := h
    obtain ⟨dx, q, hi, hq⟩ := hc
    walk_at "go"
    refine k_fldx hi T.cl_Under T.f_Under_share (by walk_at "lk") ?_
    walk_at "go"
    refine ⟨_, q, 1, s, 2, n, rfl, by rw [Cm.fq1]; exact T.t_ONE_claims H, hq, Cm.sz1 (n := 0), ok.2.2, by omega, fun r H1 s1 hr sz => ?_⟩
    walk_at "go"
    refine ⟨_, r, 1/2, 1 - s, 2, 2 + n + 1, rfl, by rw [Cm.fqh]; exact T.t_HALF H1, hr, Cm.szh (n := 0), sz, by omega, fun e => absurd e (Cm.ne1 ok.2.1), fun _ r H2 s2 hr _ => ?_⟩
    walk_at "go"
    exact kk r H2 (s1.trans s2) hr
end
end Lw
namespace Lw
open PySem PySem.Spec PyProof.Rows L2 Gx
section
variable {P : Program} {w : World} {K : PySem.W.Frag} {mg : Str → Option Value} {base : Heap} {f : Addr} {fd : FuncData}
theorem ok__law_at (F : FnP K "_law_at" "_law_at" s__law_at f fd) (T : Txt K mg) : FnOk P w K mg base (L2.CX P w) 1 f fd ["_law_script", "_law_k"] (sp__law_at K) := by
  refine F.ok sc__law_at (fun vs H Q E h => ?_) (fun cdv A outer s H vs Q E hr h => ?_)
  · obtain ⟨a, ns, k, rfl, _⟩ := h; rfl
  · refine ⟨_, (pss_cons (ps_if (pt_cmpR op_lt (pv 1) (pe_callB (callK (K := K) (r := rLenU) rfl call_lenU) (by rfl) T.n_len (by decide +kernel) (pa_cons (pv 0) pa_nil)) (nomark _)) (pss_one (ps_ret (pe_ix (ix_K (K := K) rfl) (pv 0) (pv 1) (fun _ _ => rfl)))) pss_nil) (pss_one (ps_ret (pe_op op_modN (pe_op (op_mulK (K := K) rfl) (pe_op (op_addK (K := K) rfl) (pe_op op_modN (pe_ix (ix_K (K := K) rfl) (pe_op (op_addK (K := K) rfl) (pv 0) (pe_lst (pa_cons pe_int pa_nil))) pe_int (fun _ _ => rfl)) pe_int) pe_int) (pe_op (op_addK (K := K) rfl) (pe_op (op_mulK (K := K) rfl) (pv 1) (pv 1)) pe_int)) pe_int)))), ?_⟩
    obtain ⟨a, ns, k, rfl, hS, hl, k0, k1, kk⟩ := h
    have hlm : (ns.map V.int).length = ns.length := List.length_map ..
    walk_at "go"
    refine k_lenL ?_ hS
    walk_at "go"
    refine k_if (fun c => ?_) (fun c => ?_)
    · walk_at "go"
      obtain ⟨z, hz⟩ := Dk.at_map (ns := ns) k0 (by omega)
      refine k_ixL hS hz ?_
      exact kk _ _ (Same.refl H)
    · walk_at "go"
      refine k_lstx (fun p H1 np s1 hp1 => ?_) (by rw [sizeLine_eq]; simp)
      refine k_addG (seqL_same s1 hS) (SqL.of hp1) (fun q H2 nq s2 hq => ?_) (by rw [sizeLine_eq, hlm]; simp; omega)
      have e : ns.map V.int ++ [V.int 0] = (ns ++ [0]).map V.int := by rw [List.map_append]; rfl
      rw [e] at hq
      obtain ⟨z, hz⟩ := Dk.at_map (ns := ns ++ [0]) (i := 0) (by omega) (by simp)
      refine k_ixL (SqL.of hq) hz ?_
      walk_at "go"
      refine k_mulB (m := 17) (n := 17) (by show k.natAbs < 131072; omega) (by show k.natAbs < 131072; omega) (by decide) ?_
      walk_at "go"
      refine k_mulB (m := 32) (n := 50) (by show (z % 1000003 + 31).natAbs < 4294967296; omega) ?_ (by decide) ?_
      · have : k * k ≤ 100000 * 100000 := Int.mul_le_mul k1 k1 k0 (by omega)
        have h0 : 0 ≤ k * k := Int.mul_nonneg k0 k0
        show (k * k + 40013).natAbs < 1125899906842624
        omega
      · walk_at "go"
        exact kk _ _ (s1.trans s2)
end
end Lw
namespace Lw
open PySem PySem.Spec PyProof.Rows L2 Gx
section
variable {P : Program} {w : World} {K : PySem.W.Frag} {mg : Str → Option Value} {base : Heap} {f : Addr} {fd : FuncData}
theorem ok__law_mix (F : FnP K "_law_mix" "_law_mix" s__law_mix f fd) (T : Txt K mg) : FnOk P w K mg base (L2.CX P w) 1 f fd ["_law_cell", "_law_k"] (sp__law_mix K) := by
  refine F.ok sc__law_mix (fun vs H Q E h => ?_) (fun cdv A outer s H vs Q E hr h => ?_)
  · obtain ⟨c, k, rfl, _⟩ := h; rfl
  · refine ⟨_, (pss_cons (ps_if (pt_cmpR (op_eqK (K := K) rfl hr) (pe_op op_modN (pv 0) pe_int) pe_int (nomark _)) (pss_cons (ps_set (i := 2) sc__law_mix.nd rfl (Or.inl rfl) (pe_op op_fdivG (pv 0) pe_int)) (pss_cons (ps_for (passes_of rfl) rfl (pi_range1 rfl T.n_range (pa_cons (pe_op op_modN (pv 1) pe_int) pa_nil)) (pg_name (i := 3) sc__law_mix.nd rfl (Or.inl rfl)) (pss_one (ps_set (i := 2) sc__law_mix.nd rfl (Or.inl rfl) (pe_op op_fdivG (pv 2) pe_int)))) (pss_one (ps_ret (pe_op op_modN (pv 2) pe_int))))) pss_nil) (pss_cons (ps_set (i := 2) sc__law_mix.nd rfl (Or.inl rfl) (pe_op op_modN (pe_op (op_mulK (K := K) rfl) (pe_op (op_addK (K := K) rfl) (pe_op (op_addK (K := K) rfl) (pe_op op_modN (pv 0) pe_int) (pe_op (op_mulK (K := K) rfl) pe_int (pv 1))) pe_int) pe_int) pe_int)) (pss_one (ps_ret (pe_op op_modN (pe_op (op_mulK (K := K) rfl) (pe_op (op_addK (K := K) rfl) (pv 2) (pv 1)) pe_int) pe_int))))), ?_⟩
    obtain ⟨c, k, rfl, k0, k1, kk⟩ := h
    walk_at "go"
    refine k_if (fun c2 => ?_) (fun c2 => ?_)
    · walk_at "go"
      refine k_rng1 (by omega) ?_
      refine k_loopR (fun _ σ H' => H' = H ∧ ∃ (n : Int) (t : Option V), σ = [some (.int c), some (.int k), some (.int n), t]) ⟨rfl, _, none, rfl⟩ ?_ ?_
      · rintro i σ H' hi ⟨rfl, n, t, rfl⟩
        walk_at "go"
        exact ⟨rfl, _, _, rfl⟩
      · rintro σ H' ⟨rfl, n, t, rfl⟩
        walk_at "go"
        exact kk _ (by omega) (by omega)
    · walk_at "go"
      refine k_mulB (m := 30) (n := 30) (by decide) (by show k.natAbs < 1073741824; omega) (by decide) ?_
      walk_at "go"
      refine k_mulB (m := 40) (n := 30) (by show (c % 1000000007 + 11 * k + 5).natAbs < 1099511627776; omega) (by decide) (by decide) ?_
      walk_at "go"
      refine k_mulB (m := 40) (n := 30) ?_ (by decide) (by decide) ?_
      · show (_ % 2147483647 + k).natAbs < 1099511627776
        omega
      walk_at "go"
      exact kk _ (by omega) (by omega)
end
end Lw
namespace Lw
open PySem PySem.Spec PyProof.Rows L2 Gx
section
variable {P : Program} {w : World} {K : PySem.W.Frag} {mg : Str → Option Value} {base : Heap} {f : Addr} {fd : FuncData}
theorem ok__law_names (F : FnP K "_law_names" "_law_names" s__law_names f fd) (T : Txt K mg) (c__law_mix : Cl P w K mg base 1 "_law_mix" ["_law_cell", "_law_k"] (sp__law_mix K)) : FnOk P w K mg base (L2.CX P w) 2 f fd ["_law_cell", "_law_many"] (sp__law_names K) := by
  refine F.ok sc__law_names (fun vs H Q E h => ?_) (fun cdv A outer s H vs Q E hr h => ?_)
  · obtain ⟨c, m, rfl, _⟩ := h; rfl
  · refine ⟨_, (pss_cons (ps_set (i := 2) sc__law_names.nd rfl (Or.inr rfl) pe_str) (pss_cons (ps_set (i := 3) sc__law_names.nd rfl (Or.inl rfl) (pe_op op_modN (pcall c__law_mix hr (by first | decide | omega) (takes_of rfl rfl rfl rfl) (pa_cons (pv 0) (pa_cons pe_int pa_nil))) pe_int)) (pss_cons (ps_set (i := 4) sc__law_names.nd rfl (Or.inr rfl) (pe_m1 PySem.F.slot_str_join PySem.F.type_str_join (mt_joinK (K := K) rfl) pe_str (pe_lc (own := [("_law_k", 8)]) (g := gName 8) (by rfl) sc__law_names.nd (pi_range1 rfl T.n_range (pa_cons (pv 3) pa_nil)) (blkOk_by (own := [("_law_k", 8)]) (N := ["_law_cell", "_law_many", "_law_letters", "_law_size", "_law_base", "_law_spot", "_law_first", "_law_step", "_law_k"]) (sc := defScope s__law_names) (by decide +kernel)) (fun _ _ _ _ _ => pg_name (i := 8) sc__law_names.nd rfl (Or.inl rfl)) (fun _ _ _ _ _ => pts_nil) (fun _ _ _ _ _ => (pe_ix (ix_K (K := K) rfl) (pv 2) (pe_op op_modN (pcallN c__law_mix hr (by first | decide | omega) (pa_cons (pv 0) (pa_cons (pe_op (op_addK (K := K) rfl) (pv 8) pe_int) pa_nil))) pe_int) (fun _ _ => rfl)))))) (pss_cons (ps_set (i := 5) sc__law_names.nd rfl (Or.inr rfl) (pe_op op_modN (pcall c__law_mix hr (by first | decide | omega) (takes_of rfl rfl rfl rfl) (pa_cons (pv 0) (pa_cons pe_int pa_nil))) (pe_op (op_addK (K := K) rfl) (pv 3) pe_int))) (pss_cons (ps_set (i := 6) sc__law_names.nd rfl (Or.inr rfl) (pe_op op_modN (pcall c__law_mix hr (by first | decide | omega) (takes_of rfl rfl rfl rfl) (pa_cons (pv 0) (pa_cons pe_int pa_nil))) pe_int)) (pss_cons (ps_set (i := 7) sc__law_names.nd rfl (Or.inr rfl) (pe_op (op_addK (K := K) rfl) pe_int (pe_op op_modN (pcall c__law_mix hr (by first | decide | omega) (takes_of rfl rfl rfl rfl) (pa_cons (pv 0) (pa_cons pe_int pa_nil))) pe_int))) (pss_one (ps_ret (pe_lc (own := [("_law_k", 8)]) (g := gName 8) (by rfl) sc__law_names.nd (pi_range1 rfl T.n_range (pa_cons (pv 1) pa_nil)) (blkOk_by (own := [("_law_k", 8)]) (N := ["_law_cell", "_law_many", "_law_letters", "_law_size", "_law_base", "_law_spot", "_law_first", "_law_step", "_law_k"]) (sc := defScope s__law_names) (by decide +kernel)) (fun _ _ _ _ _ => pg_name (i := 8) sc__law_names.nd rfl (Or.inl rfl)) (fun _ _ _ _ _ => pts_nil) (fun _ _ _ _ _ => (pe_op (op_addK (K := K) rfl) (pe_op (op_addK (K := K) rfl) (pe_slice (sl_K (K := K) rfl) (pv 4) po_none (po_some (pv 5))) (pe_ix (ix_K (K := K) rfl) (pv 2) (pe_op op_modN (pe_op (op_addK (K := K) rfl) (pv 6) (pe_op (op_mulK (K := K) rfl) (pv 8) (pv 7))) pe_int) (fun _ _ => rfl))) (pe_slice (sl_K (K := K) rfl) (pv 4) (po_some (pv 5)) po_none)))))))))))), ?_⟩
    obtain ⟨c, m, rfl, m8, kk⟩ := h
    walk_at "go"
    refine ⟨c, 1, rfl, by decide, by decide, fun r r0 r1 => ?_⟩
    walk_at "go"
    obtain ⟨z, ez⟩ := Int.eq_ofNat_of_zero_le (show 0 ≤ r % 8 by omega)
    have hz : z ≤ 7 := by omega
    rw [ez]
    refine k_rng1 (by omega) ?_
    rw [show ((z : Int)).toNat = z by omega]
    refine k_lcR (fun D i ys H' => ∃ ks : List Nat, ys = (ks.map Pl.one).map V.str ∧ ks.length = i ∧ Pl.Letters ks ∧ Same H H') (fun D H' nD sD hD => ⟨[], rfl, rfl, fun _ h => (nomatch h), sD⟩) ?_ ?_
    · rintro D i ys H' nD hi ⟨ks, rfl, hc, hL, s⟩ hD
      refine k_lcB rfl ?_
      walk_at "go"
      refine ⟨c, _, rfl, by omega, by omega, fun r r0 r1 => ?_⟩
      walk_at "go"
      refine k_ixS (by rw [sizeLine_eq]; decide +kernel) (Pl.abc_at (by omega) (by omega)) ?_
      refine ⟨_, hD, (by rw [sizeLine_eq]; simp; omega), _, ⟨ks ++ [_], by simp; rfl, by simp [hc], ?_, But.same nD s But.upd⟩, upd_same⟩
      intro x hx
      rcases List.mem_append.mp hx with h | h
      · exact hL x h
      · rw [List.mem_singleton.mp h]; omega
    rintro b ys H1 nb ⟨ks, rfl, hc, hL, s1⟩ hb
    walk_at "go"
    refine k_join (.inl (SqL.of hb)) (by rw [Pl.sum_ones, show (Str.ofString "").length = 0 by decide +kernel]; simp; omega) ?_
    rw [show Txt.join (Str.ofString "") (ks.map Pl.one) = ⟨ks.toArray⟩ from Pl.join_ones ks]
    walk_at "go"
    refine ⟨c, 11, rfl, by decide, by decide, fun r3 r30 r31 => ?_⟩
    walk_at "go"
    obtain ⟨sp, esp⟩ := Int.eq_ofNat_of_zero_le (show 0 ≤ r3 % ((z : Int) + 1) from Int.emod_nonneg _ (by omega))
    have hsp : sp ≤ z := by have := Int.emod_lt_of_pos r3 (show (0 : Int) < (z : Int) + 1 by omega); omega
    rw [esp]
    refine ⟨c, 12, rfl, by decide, by decide, fun r4 r40 r41 => ?_⟩
    walk_at "go"
    refine ⟨c, 13, rfl, by decide, by decide, fun r5 r50 r51 => ?_⟩
    walk_at "go"
    have f0 : 0 ≤ r4 % 26 ∧ r4 % 26 < 26 := by omega
    have g0 : 1 ≤ 1 + r5 % 3 ∧ 1 + r5 % 3 ≤ 3 := by omega
    generalize r4 % 26 = fi at f0 ⊢
    generalize 1 + r5 % 3 = st at g0 ⊢
    refine k_rng1 (by omega) ?_
    rw [show ((m : Int)).toNat = m by omega]
    refine k_lcR (fun D i ys H' => ys = (Pl.some2 ks sp fi st i).map V.str ∧ Same H1 H') (fun D H' nD sD hD => ⟨rfl, sD⟩) ?_ ?_
    · rintro D i ys H' nD hi ⟨rfl, s⟩ hD
      refine k_lcB rfl ?_
      walk_at "go"
      refine k_slS ?_ (by rw [sizeLine_eq]; show ks.toArray.size ≤ _; simp; omega)
      rw [Pl.cut_front (by simp; omega)]
      walk_at "go"
      refine k_mulB (m := 10) (n := 10) (by show ((0 : Int) + (i : Int)).natAbs < 1024; omega) (by show st.natAbs < 1024; omega) (by decide) ?_
      walk_at "go"
      refine k_ixS (by rw [sizeLine_eq]; decide +kernel) (Pl.abc_at (by omega) (by omega)) ?_
      walk_at "go"
      refine k_addS ?_ (by rw [sizeLine_eq]; show (_ : Array Nat).size + 1 ≤ _; simp; omega)
      walk_at "go"
      refine k_slS ?_ (by rw [sizeLine_eq]; show ks.toArray.size ≤ _; simp; omega)
      refine k_addS ?_ ?_
      · refine ⟨_, hD, (by rw [sizeLine_eq]; simp [Pl.some2]; omega), _, ⟨?_, But.same nD s But.upd⟩, upd_same⟩
        rw [Pl.some2_succ, List.map_append, Int.zero_add]
        congr 2
        exact congrArg V.str (Pl.nm2_eq (cs := ks) (k := sp) (by omega))
      · rw [sizeLine_eq, Pl.cut_back (s := ⟨ks.toArray⟩) (k := sp) (by simp; omega)]
        show ((_ : Array Nat) ++ _).size + (_ : Array Nat).size ≤ _
        simp; omega
    rintro D ys H2 nD ⟨rfl, s2⟩ hD
    refine kk D _ H2 (s1.trans s2) ?_ hD (by simp [Pl.some2]) (Pl.some2_nd (by omega) fi g0 m8) (Pl.some2_nm hL (by omega) fi st m)
    cases q : H D with
    | none => rfl
    | some o => rw [s1 _ _ q] at nD; cases nD
end
end Lw
namespace Lw
open PySem PySem.Spec PyProof.Rows L2 Gx
section
variable {P : Program} {w : World} {K : PySem.W.Frag} {mg : Str → Option Value} {base : Heap} {f : Addr} {fd : FuncData}
theorem ok__law_lowest (F : FnP K "_law_lowest" "_law_lowest" s__law_lowest f fd) (T : Txt K mg) : FnOk P w K mg base (L2.CX P w) 1 f fd ["_law_a", "_law_b"] (sp__law_lowest K) := by
  refine F.ok sc__law_lowest (fun vs H Q E h => ?_) (fun cdv A outer s H vs Q E hr h => ?_)
  · obtain ⟨a, b, rfl, _⟩ := h; rfl
  · refine ⟨_, (C8.pss_cut (ps_if (pt_cmpR op_lt (pv 1) pe_int (nomark _)) (pss_cons (ps_set (i := 0) sc__law_lowest.nd rfl (Or.inl rfl) (pe_op op_sub pe_int (pv 0))) (pss_one (ps_set (i := 1) sc__law_lowest.nd rfl (Or.inl rfl) (pe_op op_sub pe_int (pv 1))))) pss_nil) (pss_cons (ps_set (i := 2) sc__law_lowest.nd rfl (Or.inl rfl) (pe_callB (call_maxU rfl) (by rfl) T.n_max (by decide +kernel) (pa_cons (pv 0) (pa_cons (pe_op op_sub pe_int (pv 0)) pa_nil)))) (pss_cons (ps_set (i := 3) sc__law_lowest.nd rfl (Or.inl rfl) (pv 1)) (pss_cons (ps_while (passes_of rfl) (pt_cmpR op_gt (pv 3) pe_int (nomark _)) (pss_one (ps_par (i := 2) (j := 3) (by rfl) sc__law_lowest.nd rfl rfl (by decide) rfl rfl (pa_cons (pv 3) (pa_cons (pe_op op_modN (pv 2) (pv 3)) pa_nil)) (by rfl)))) (pss_one (ps_ret (pe_tup (pa_cons (pe_op op_fdivG (pv 0) (pv 2)) (pa_cons (pe_op op_fdivG (pv 1) (pv 2)) pa_nil))))))))), ?_⟩
    obtain ⟨a0, b0, rfl, bn, hd0, kk⟩ := h
    walk_at "st"
    refine k_cut (fun σ H' => H' = H ∧ ∃ a b : Int, σ = [some (.int a), some (.int b), none, none] ∧ 0 < b ∧ Okd a b ∧ Rat.divInt a b = Rat.divInt a0 b0) ?_ ?_
    · walk_at "go"
      refine k_if (fun c => ?_) (fun c => ?_)
      · walk_at "go"
        refine ⟨rfl, 0 - a0, 0 - b0, rfl, by omega, ?_, ?_⟩
        · unfold Okd at hd0 ⊢
          rw [Int.zero_sub, Int.zero_sub, Int.natAbs_neg, Int.natAbs_neg, Int.neg_gcd, Int.gcd_neg]
          exact hd0
        · rw [Int.zero_sub, Int.zero_sub, Rat.divInt_neg', Int.neg_neg]
      · walk_at "go"
        exact ⟨rfl, a0, b0, rfl, by omega, hd0, rfl⟩
    rintro σ G ⟨eG, a, b, rfl, bp, hd, er⟩
    subst eG
    rw [← er] at kk
    walk_at "go"
    rw [show max a (0 - a) = (a.natAbs : Int) by omega]
    walk_at "go"
    refine k_while (fun m σ H' => H' = G ∧ ∃ x y : Int, σ = [some (.int a), some (.int b), some (.int x), some (.int y)] ∧ m = y.natAbs ∧ 0 ≤ x ∧ 0 ≤ y ∧ Int.gcd x y = Int.gcd a b) b.natAbs ⟨rfl, (a.natAbs : Int), b, rfl, rfl, by omega, by omega, by show Nat.gcd ((a.natAbs : Int)).natAbs b.natAbs = Nat.gcd a.natAbs b.natAbs; rw [Int.natAbs_natCast]⟩ ?_
    rintro m σ H' ⟨rfl, x, y, rfl, rfl, x0, y0, e⟩
    walk_at "go"
    refine k_if (fun c => ?_) (fun c => ?_)
    · refine k_wN ?_
      walk_at "go"
      have v0 := Int.emod_nonneg x (show y ≠ 0 by omega)
      have v1 := Int.emod_lt_of_pos x c
      refine ⟨(x % y).natAbs, by omega, rfl, y, x % y, rfl, rfl, y0, v0, ?_⟩
      rw [← e, Int.gcd_comm x y, ← Int.fmod_eq_emod_of_nonneg x y0, Fr.gcd_fmod, Int.gcd_comm]
    · have ey : y = 0 := by omega
      subst ey
      walk_at "go"
      rw [Int.gcd_zero] at e
      have hx : x = (Int.gcd a b : Int) := by omega
      have hg := Int.gcd_pos_of_ne_zero_right a (show b ≠ 0 by omega)
      have ed : x = (if b < 0 then 0 - (Int.gcd a b : Int) else (Int.gcd a b : Int)) := by rw [if_neg (by omega)]; exact hx
      obtain ⟨d1, d2⟩ := hd.div (d := x) (by omega)
      refine k_I ?_ ⟨by omega, d1⟩
      walk_at "go"
      refine k_I ?_ ⟨by omega, d2⟩
      walk_at "go"
      refine k_tupx (fun p H2 np s1 hp => ?_) (by simp [sizeLine_eq])
      refine kk p H2 s1 np (SqT.of ?_)
      rw [hp, Fr.low_num (by omega) ed, Fr.low_den (by omega) ed]
end
end Lw
namespace Lw
open PySem PySem.Spec PyProof.Rows L2 Gx
section
variable {P : Program} {w : World} {K : PySem.W.Frag} {mg : Str → Option Value} {base : Heap} {f : Addr} {fd : FuncData}
theorem ok__law_plus (F : FnP K "_law_plus" "_law_plus" s__law_plus f fd) (T : Txt K mg) (c__law_lowest : Cl P w K mg base 1 "_law_lowest" ["_law_a", "_law_b"] (sp__law_lowest K)) : FnOk P w K mg base (L2.CX P w) 2 f fd ["_law_x", "_law_y"] (sp__law_plus K) := by
  refine F.ok sc__law_plus (fun vs H Q E h => ?_) (fun cdv A outer s H vs Q E hr h => ?_)
  · obtain ⟨p, q, x, y, m, n, rfl, _⟩ := h; rfl
  · refine ⟨_, (pss_one (ps_ret (pcall c__law_lowest hr (by first | decide | omega) (takes_of rfl rfl rfl rfl) (pa_cons (pe_op (op_addK (K := K) rfl) (pe_op (op_mulK (K := K) rfl) (pe_ix (ix_K (K := K) rfl) (pv 0) pe_int (fun _ _ => rfl)) (pe_ix (ix_K (K := K) rfl) (pv 1) pe_int (fun _ _ => rfl))) (pe_op (op_mulK (K := K) rfl) (pe_ix (ix_K (K := K) rfl) (pv 1) pe_int (fun _ _ => rfl)) (pe_ix (ix_K (K := K) rfl) (pv 0) pe_int (fun _ _ => rfl)))) (pa_cons (pe_op (op_mulK (K := K) rfl) (pe_ix (ix_K (K := K) rfl) (pv 0) pe_int (fun _ _ => rfl)) (pe_ix (ix_K (K := K) rfl) (pv 1) pe_int (fun _ _ => rfl))) pa_nil))))), ?_⟩
    obtain ⟨p, q, x, y, m, n, rfl, hp, hq, sx, sy, hmn, kk⟩ := h
    walk_at "go"
    refine k_ixT hp (v := .int x.num) rfl ?_
    walk_at "go"
    refine k_ixT hq (v := .int (y.den : Int)) rfl ?_
    walk_at "go"
    refine k_mulB sx.1 sy.den (by omega) ?_
    walk_at "go"
    refine k_ixT hq (v := .int y.num) rfl ?_
    walk_at "go"
    refine k_ixT hp (v := .int (x.den : Int)) rfl ?_
    walk_at "go"
    refine k_mulB sy.1 sx.den (by omega) ?_
    walk_at "go"
    refine k_ixT hp (v := .int (x.den : Int)) rfl ?_
    walk_at "go"
    refine k_ixT hq (v := .int (y.den : Int)) rfl ?_
    walk_at "go"
    refine k_mulB sx.den sy.den (by omega) ?_
    walk_at "go"
    refine ⟨_, _, rfl, Int.mul_ne_zero (Fr.den_ne x) (Fr.den_ne y), okd_den (Int.mul_ne_zero (Fr.den_ne x) (Fr.den_ne y)) (Fr.dd_lt sx sy) hmn, fun r H' s1 nr hr => ?_⟩
    rw [Fr.add_eq x y] at hr
    exact kk r H' s1 nr hr (sx.add sy)
end
end Lw
namespace Lw
open PySem PySem.Spec PyProof.Rows L2 Gx
section
variable {P : Program} {w : World} {K : PySem.W.Frag} {mg : Str → Option Value} {base : Heap} {f : Addr} {fd : FuncData}
theorem ok__law_times (F : FnP K "_law_times" "_law_times" s__law_times f fd) (T : Txt K mg) (c__law_lowest : Cl P w K mg base 1 "_law_lowest" ["_law_a", "_law_b"] (sp__law_lowest K)) : FnOk P w K mg base (L2.CX P w) 2 f fd ["_law_x", "_law_y"] (sp__law_times K) := by
  refine F.ok sc__law_times (fun vs H Q E h => ?_) (fun cdv A outer s H vs Q E hr h => ?_)
  · obtain ⟨p, q, x, y, m, n, rfl, _⟩ := h; rfl
  · refine ⟨_, (pss_one (ps_ret (pcall c__law_lowest hr (by first | decide | omega) (takes_of rfl rfl rfl rfl) (pa_cons (pe_op (op_mulK (K := K) rfl) (pe_ix (ix_K (K := K) rfl) (pv 0) pe_int (fun _ _ => rfl)) (pe_ix (ix_K (K := K) rfl) (pv 1) pe_int (fun _ _ => rfl))) (pa_cons (pe_op (op_mulK (K := K) rfl) (pe_ix (ix_K (K := K) rfl) (pv 0) pe_int (fun _ _ => rfl)) (pe_ix (ix_K (K := K) rfl) (pv 1) pe_int (fun _ _ => rfl))) pa_nil))))), ?_⟩
    obtain ⟨p, q, x, y, m, n, rfl, hp, hq, sx, sy, hmn, kk⟩ := h
    walk_at "go"
    refine k_ixT hp (v := .int x.num) rfl ?_
    walk_at "go"
    refine k_ixT hq (v := .int y.num) rfl ?_
    walk_at "go"
    refine k_mulB sx.1 sy.1 (by omega) ?_
    walk_at "go"
    refine k_ixT hp (v := .int (x.den : Int)) rfl ?_
    walk_at "go"
    refine k_ixT hq (v := .int (y.den : Int)) rfl ?_
    walk_at "go"
    refine k_mulB sx.den sy.den (by omega) ?_
    walk_at "go"
    refine ⟨_, _, rfl, Int.mul_ne_zero (Fr.den_ne x) (Fr.den_ne y), okd_den (Int.mul_ne_zero (Fr.den_ne x) (Fr.den_ne y)) (Fr.dd_lt sx sy) hmn, fun r H' s1 nr hr => ?_⟩
    rw [Fr.mul_eq x y] at hr
    exact kk r H' s1 nr hr (sx.mul sy)
end
end Lw
namespace Lw
open PySem PySem.Spec PyProof.Rows L2 Gx
section
variable {P : Program} {w : World} {K : PySem.W.Frag} {mg : Str → Option Value} {base : Heap} {f : Addr} {fd : FuncData}
theorem ok__law_greatest (F : FnP K "_law_greatest" "_law_greatest" s__law_greatest f fd) (T : Txt K mg) (c__law_lowest : Cl P w K mg base 1 "_law_lowest" ["_law_a", "_law_b"] (sp__law_lowest K)) : FnOk P w K mg base (L2.CX P w) 2 f fd ["_law_claim_here"] (sp__law_greatest K) := by
  refine F.ok sc__law_greatest (fun vs H Q E h => ?_) (fun cdv A outer s H vs Q E hr h => ?_)
  · obtain ⟨p, c, n, rfl, _⟩ := h; rfl
  · refine ⟨_, (pss_cons (ps_if (pt_cmpR (op_eqK (K := K) rfl hr) (pe_ix (ix_K (K := K) rfl) (pv 0) pe_int (fun _ _ => rfl)) pe_str (nomark _)) (pss_one (ps_ret (pe_tup (pa_cons pe_int (pa_cons pe_int pa_nil))))) pss_nil) (pss_cons (ps_asg (pe_ix (ix_K (K := K) rfl) (pv 0) pe_int (fun _ _ => rfl)) (pg_tup rfl (pgs_cons (pg_name (i := 1) sc__law_greatest.nd rfl (Or.inl rfl)) (pgs_cons (pg_name (i := 2) sc__law_greatest.nd rfl (Or.inl rfl)) pgs_nil)))) (pss_cons (ps_if (pt_cmpR (op_eqK (K := K) rfl hr) (pe_ix (ix_K (K := K) rfl) (pv 0) pe_int (fun _ _ => rfl)) pe_str (nomark _)) (pss_one (ps_ret (pcall c__law_lowest hr (by first | decide | omega) (takes_of rfl rfl rfl rfl) (pa_cons (pv 2) (pa_cons (pe_op (op_mulK (K := K) rfl) pe_int (pv 1)) pa_nil))))) pss_nil) (pss_one (ps_ret (pcall c__law_lowest hr (by first | decide | omega) (takes_of rfl rfl rfl rfl) (pa_cons (pv 2) (pa_cons (pe_op (op_mulK (K := K) rfl) pe_int (pe_op op_sub (pv 2) (pv 1))) pa_nil)))))))), ?_⟩
    obtain ⟨p, c, n, rfl, hc, ok, hn, kk⟩ := h
    obtain ⟨xs, hx, e0⟩ := hc.at0
    walk_at "go"
    refine k_ixT hx e0 ?_
    walk_at "go"
    cases c with
    | claim => exact hc.elim
    | beats o t =>
      refine k_if (fun _ => ?_) (fun z => absurd rfl z)
      walk_at "go"
      refine k_tupx (fun r H1 nr s1 hr => ?_) (by simp [sizeLine_eq])
      refine kk r H1 s1 ?_
      rw [show Cm.greatest (.beats o t) = 1 from rfl, Cm.fq1]
      exact SqT.of hr
    | over k s =>
      obtain ⟨q, h3, hq⟩ := hc
      have szn : s.num.natAbs < 2 ^ n := ok.2.2.1
      have szd : ((s.den : Int)).natAbs < 2 ^ n := ok.2.2.2
      have n0 := Cm.num_pos ok.1
      have p2 : 2 ^ (n + 2) = 4 * 2 ^ n := by rw [Nat.pow_add]; omega
      refine k_if (fun z => absurd z (of_decide_eq_false Cm.d_ob)) (fun _ => ?_)
      walk_at "go"
      refine k_ixT h3 (v := .ref q) rfl ?_
      walk_at "go"
      refine k_gtup hq rfl ?_
      walk_at "go"
      refine k_ixT h3 (v := .str (Str.ofString "over")) rfl ?_
      walk_at "go"
      refine k_if (fun _ => ?_) (fun z => absurd rfl z)
      walk_at "go"
      refine k_mulB (m := 3) (n := n) (by decide) szn (by omega) ?_
      walk_at "go"
      refine ⟨_, _, rfl, by omega, okd_den (n := n + 2) (by omega) (by omega) (by omega), fun r H1 s1 nr hr => ?_⟩
      rw [Cm.half_over] at hr
      exact kk r H1 s1 hr
    | under k s =>
      obtain ⟨q, h3, hq⟩ := hc
      have szn : s.num.natAbs < 2 ^ n := ok.2.2.1
      have szd : ((s.den : Int)).natAbs < 2 ^ n := ok.2.2.2
      have n0 := Cm.num_pos ok.1
      have n1 := Cm.num_lt ok.2.1
      have p1 : 2 ^ (n + 1) = 2 * 2 ^ n := by rw [Nat.pow_add]; omega
      have p2 : 2 ^ (n + 2) = 4 * 2 ^ n := by rw [Nat.pow_add]; omega
      refine k_if (fun z => absurd z (of_decide_eq_false Cm.d_ub)) (fun _ => ?_)
      walk_at "go"
      refine k_ixT h3 (v := .ref q) rfl ?_
      walk_at "go"
      refine k_gtup hq rfl ?_
      walk_at "go"
      refine k_ixT h3 (v := .str (Str.ofString "under")) rfl ?_
      walk_at "go"
      refine k_if (fun z => absurd z (of_decide_eq_false Cm.d_uo)) (fun _ => ?_)
      walk_at "go"
      refine k_mulB (m := 3) (n := n + 1) (by decide) (by omega) (by omega) ?_
      walk_at "go"
      refine ⟨_, _, rfl, by omega, okd_den (n := n + 2) (by omega) (by omega) (by omega), fun r H1 s1 nr hr => ?_⟩
      rw [Cm.half_under] at hr
      exact kk r H1 s1 hr
end
end Lw
namespace Lw
open PySem PySem.Spec PyProof.Rows L2 Gx
section
variable {P : Program} {w : World} {K : PySem.W.Frag} {mg : Str → Option Value} {base : Heap} {f : Addr} {fd : FuncData}
theorem ok__law_value (F : FnP K "_law_value" "_law_value" s__law_value f fd) (T : Txt K mg) (c__law_greatest : Cl P w K mg base 2 "_law_greatest" ["_law_claim_here"] (sp__law_greatest K)) : FnOk P w K mg base (L2.CX P w) 3 f fd ["_law_claim_here", "_law_mark"] (sp__law_value K) := by
  refine F.ok sc__law_value (fun vs H Q E h => ?_) (fun cdv A outer s H vs Q E hr h => ?_)
  · obtain ⟨p, m, c, n, rfl, _⟩ := h; rfl
  · refine ⟨_, (pss_cons (ps_if (pt_cmpR (op_eqK (K := K) rfl hr) (pv 1) pe_str (nomark _)) (pss_one (ps_ret (pe_tup (pa_cons pe_int (pa_cons pe_int pa_nil))))) pss_nil) (pss_cons (ps_if (pt_cmpR (op_eqK (K := K) rfl hr) (pe_ix (ix_K (K := K) rfl) (pv 0) pe_int (fun _ _ => rfl)) pe_str (nomark _)) (pss_one (ps_ret (pe_getN hr (pe_disp (pps_cons (pe_ix (ix_K (K := K) rfl) (pv 0) pe_int (fun _ _ => rfl)) (pe_tup (pa_cons pe_int (pa_cons pe_int pa_nil))) (pps_cons (pe_ix (ix_K (K := K) rfl) (pv 0) pe_int (fun _ _ => rfl)) (pe_tup (pa_cons pe_int (pa_cons pe_int pa_nil))) pps_nil)) rfl rfl (by simp) (by decide)) (pv 1) (pe_tup (pa_cons pe_int (pa_cons pe_int pa_nil)))))) pss_nil) (pss_cons (ps_if (PW.pt (pw_or (pt_cmpR op_isNU (pv 1) pe_non (nomark _)) (pw_or1 (pt_cmpR (op_eqK (K := K) rfl hr) (pv 1) pe_str (nomark _))))) (pss_one (ps_ret (pe_tup (pa_cons pe_int (pa_cons pe_int pa_nil))))) pss_nil) (pss_cons (ps_if (pt_cmpR (op_eqK (K := K) rfl hr) (pe_cmpR (op_eqK (K := K) rfl hr) (pv 1) (pe_ix (ix_K (K := K) rfl) (pv 0) pe_int (fun _ _ => rfl)) (nomark _)) (pe_cmpR (op_eqK (K := K) rfl hr) (pe_ix (ix_K (K := K) rfl) (pv 0) pe_int (fun _ _ => rfl)) pe_str (nomark _)) (nomark _)) (pss_one (ps_ret (pcall c__law_greatest hr (by first | decide | omega) (takes_of rfl rfl rfl rfl) (pa_cons (pv 0) pa_nil)))) pss_nil) (pss_one (ps_ret (pe_tup (pa_cons pe_int (pa_cons pe_int pa_nil))))))))), ?_⟩
    obtain ⟨p, m, c, n, rfl, hc, ok, un, hn, kk⟩ := h
    obtain ⟨xs, hx, e0⟩ := hc.at0
    have zero : Cm.value c m = 0 → ∀ r H1, Same H H1 → H1 r = some (.tup [.int 0, .int 1]) → Q (.ref r) H1 := fun e r H1 s h => kk r H1 s (by rw [e, Cm.fq0]; exact SqT.of h)
    have one : Cm.value c m = 1 → ∀ r H1, Same H H1 → H1 r = some (.tup [.int 1, .int 1]) → Q (.ref r) H1 := fun e r H1 s h => kk r H1 s (by rw [e, Cm.fq1]; exact SqT.of h)
    have half : Cm.value c m = 1/2 → ∀ r H1, Same H H1 → H1 r = some (.tup [.int 1, .int 2]) → Q (.ref r) H1 := fun e r H1 s h => kk r H1 s (by rw [e, Cm.fqh]; exact SqT.of h)
    walk_at "go"
    refine Cm.k_eqM ?_
    walk_at "go"
    refine k_if (fun c1 => ?_) (fun c1 => ?_)
    · walk_at "go"
      refine k_tupx (fun r H1 nr s1 hr => ?_) (by simp [sizeLine_eq])
      exact zero (if_pos c1) r H1 s1 hr
    have ev : Cm.value c m = Cm.valueOf c m := if_neg c1
    walk_at "go"
    refine k_ixT hx e0 ?_
    walk_at "go"
    cases c with
    | claim => exact hc.elim
    | beats o t =>
      have hb : SqT K H p [.str (Str.ofString "beats"), .str o, .str t] := hc
      refine k_if (fun _ => ?_) (fun z => absurd rfl z)
      walk_at "go"
      refine k_getN ?_
      refine k_disp2 (fun d H1 nd s1 hd => ?_)
      have h1 := seqT_same s1 hb
      walk_at "go"
      refine k_ixT h1 (v := .str o) rfl ?_
      walk_at "go"
      refine k_tupx (fun r2 H2 n2 s2 hr2 => ?_) (by simp [sizeLine_eq])
      walk_at "go"
      refine k_ixT (seqT_same s2 h1) (v := .str t) rfl ?_
      walk_at "go"
      refine k_tupx (fun r3 H3 n3 s3 hr3 => ?_) (by simp [sizeLine_eq])
      have hd3 := s3 _ _ (s2 _ _ hd)
      refine k_disp2x hd3 (fun e => un e.symm) (fun H4 b4 hd4 => ?_)
      have s04 : Same H H4 := But.same nd (s1.trans (s2.trans s3)) b4
      have nr3 : r3 ≠ d := fun e => by subst e; rw [s2 _ _ hd] at n3; cases n3
      have nr2 : r2 ≠ d := fun e => by subst e; rw [hd] at n2; cases n2
      have hr34 := b4 _ _ nr3 hr3
      have hr24 := b4 _ _ nr2 (s3 _ _ hr2)
      refine k_getD hd4 ?_
      walk_at "go"
      refine k_tupx (fun r5 H5 n5 s5 hr5 => ?_) (by simp [sizeLine_eq])
      have hd5 := s5 _ _ hd4
      cases m with
      | none => exact k_getNone hd5 (half (by rw [ev]; rfl) r5 H5 (s04.trans s5) hr5)
      | some z =>
        refine k_getStr hd5 ?_
        by_cases e1 : z = o
        · subst e1
          rw [valV_pos rfl]
          exact one (by rw [ev]; exact if_pos rfl) r2 H5 (s04.trans s5) (s5 _ _ hr24)
        · rw [valV_neg (fun e => e1 (Sum.inr.inj e).symm)]
          have n1 : ¬ (some z = some o) := fun e => e1 (Option.some.inj e)
          by_cases e2 : z = t
          · subst e2
            rw [valV_pos rfl]
            exact zero (by rw [ev]; exact (if_neg n1).trans (if_pos rfl)) r3 H5 (s04.trans s5) (s5 _ _ hr34)
          · rw [valV_neg (fun e => e2 (Sum.inr.inj e).symm), valV_nil]
            have n2 : ¬ (some z = some t) := fun e => e2 (Option.some.inj e)
            exact half (by rw [ev]; exact (if_neg n1).trans (if_neg n2)) r5 H5 (s04.trans s5) hr5
    | over k s =>
      have hc0 := hc
      obtain ⟨q, h3, hq⟩ := hc
      refine k_if (fun z => absurd z (of_decide_eq_false Cm.d_ob)) (fun _ => ?_)
      walk_at "go"
      rw [Cm.dec_non]
      have hh : m = none ∨ m = some (Str.ofString "") → Cm.value (.over k s) m = 1/2 := fun z => by rw [ev]; exact if_pos z
      refine k_if (fun c2 => ?_) (fun c2 => ?_)
      · walk_at "go"
        refine k_tupx (fun r H1 nr s1 hr => ?_) (by simp [sizeLine_eq])
        exact half (hh (.inl c2)) r H1 s1 hr
      walk_at "go"
      refine Cm.k_eqM ?_
      walk_at "go"
      refine k_if (fun c3 => ?_) (fun c3 => ?_)
      · walk_at "go"
        refine k_tupx (fun r H1 nr s1 hr => ?_) (by simp [sizeLine_eq])
        exact half (hh (.inr c3)) r H1 s1 hr
      have nn : ¬ (m = none ∨ m = some (Str.ofString "")) := fun z => z.elim c2 c3
      rw [Cm.cval_over k s m nn] at ev
      walk_at "go"
      refine k_ixT h3 (v := .str k) rfl ?_
      refine Cm.k_eqM ?_
      walk_at "go"
      refine k_ixT h3 (v := .str (Str.ofString "over")) rfl ?_
      walk_at "go"
      rw [Cm.d_oo]
      by_cases c4 : m = some k
      · rw [decide_eq_true c4]
        walk_at "go"
        refine k_if (fun _ => ?_) (fun z => absurd rfl z)
        walk_at "go"
        refine ⟨p, _, n, rfl, hc0, ok, hn, fun r H1 s1 hr => kk r H1 s1 ?_⟩
        rw [ev, if_pos c4]
        exact hr
      · rw [decide_eq_false c4]
        walk_at "go"
        refine k_if (fun z => nomatch z) (fun _ => ?_)
        walk_at "go"
        refine k_tupx (fun r H1 nr s1 hr => ?_) (by simp [sizeLine_eq])
        exact zero (by rw [ev, if_neg c4]) r H1 s1 hr
    | under k s =>
      have hc0 := hc
      obtain ⟨q, h3, hq⟩ := hc
      refine k_if (fun z => absurd z (of_decide_eq_false Cm.d_ub)) (fun _ => ?_)
      walk_at "go"
      rw [Cm.dec_non]
      have hh : m = none ∨ m = some (Str.ofString "") → Cm.value (.under k s) m = 1/2 := fun z => by rw [ev]; exact if_pos z
      refine k_if (fun c2 => ?_) (fun c2 => ?_)
      · walk_at "go"
        refine k_tupx (fun r H1 nr s1 hr => ?_) (by simp [sizeLine_eq])
        exact half (hh (.inl c2)) r H1 s1 hr
      walk_at "go"
      refine Cm.k_eqM ?_
      walk_at "go"
      refine k_if (fun c3 => ?_) (fun c3 => ?_)
      · walk_at "go"
        refine k_tupx (fun r H1 nr s1 hr => ?_) (by simp [sizeLine_eq])
        exact half (hh (.inr c3)) r H1 s1 hr
      have nn : ¬ (m = none ∨ m = some (Str.ofString "")) := fun z => z.elim c2 c3
      rw [Cm.cval_under k s m nn] at ev
      walk_at "go"
      refine k_ixT h3 (v := .str k) rfl ?_
      refine Cm.k_eqM ?_
      walk_at "go"
      refine k_ixT h3 (v := .str (Str.ofString "under")) rfl ?_
      walk_at "go"
      rw [Cm.d_uo]
      by_cases c4 : m = some k
      · rw [decide_eq_true c4]
        walk_at "go"
        refine k_if (fun z => nomatch z) (fun _ => ?_)
        walk_at "go"
        refine k_tupx (fun r H1 nr s1 hr => ?_) (by simp [sizeLine_eq])
        exact zero (by rw [ev, if_pos c4]) r H1 s1 hr
      · rw [decide_eq_false c4]
        walk_at "go"
        refine k_if (fun _ => ?_) (fun z => absurd rfl z)
        walk_at "go"
        refine ⟨p, _, n, rfl, hc0, ok, hn, fun r H1 s1 hr => kk r H1 s1 ?_⟩
        rw [ev, if_neg c4]
        exact hr
end
end Lw
namespace Lw
open PySem PySem.Spec PyProof.Rows L2 Gx
section
variable {P : Program} {w : World} {K : PySem.W.Frag} {mg : Str → Option Value} {base : Heap} {f : Addr} {fd : FuncData}
theorem ok__law_all (F : FnP K "_law_all" "_law_all" s__law_all f fd) (T : Txt K mg) (c__law_plus : Cl P w K mg base 2 "_law_plus" ["_law_x", "_law_y"] (sp__law_plus K)) (c__law_value : Cl P w K mg base 3 "_law_value" ["_law_claim_here", "_law_mark"] (sp__law_value K)) : FnOk P w K mg base (L2.CX P w) 4 f fd ["_law_claim_here", "_law_marks_here"] (sp__law_all K) := by
  refine F.ok sc__law_all (fun vs H Q E h => ?_) (fun cdv A outer s H vs Q E hr h => ?_)
  · obtain ⟨p, l, c, ms, n, rfl, _⟩ := h; rfl
  · refine ⟨_, (pss_cons (ps_set (i := 2) sc__law_all.nd rfl (Or.inl rfl) (pe_tup (pa_cons pe_int (pa_cons pe_int pa_nil)))) (pss_cons (ps_for (passes_of rfl) rfl (pi_seqU (pv 1)) (pg_name (i := 3) sc__law_all.nd rfl (Or.inl rfl)) (pss_one (ps_set (i := 2) sc__law_all.nd rfl (Or.inl rfl) (pcall c__law_plus hr (by first | decide | omega) (takes_of rfl rfl rfl rfl) (pa_cons (pv 2) (pa_cons (pcall c__law_value hr (by first | decide | omega) (takes_of rfl rfl rfl rfl) (pa_cons (pv 0) (pa_cons (pv 3) pa_nil))) pa_nil)))))) (pss_one (ps_ret (pv 2))))), ?_⟩
    obtain ⟨p, l, c, ms, n, rfl, hc, ok, un, hn, hm, l2, kk⟩ := h
    have hsz : ∀ i, i ≤ ms.length → i * (n + 6) + 2 ≤ 3600 := fun i hi => by
      have : i * (n + 6) ≤ 62 * 56 := Nat.mul_le_mul (by omega) (by omega)
      omega
    walk_at "go"
    refine k_tupx (fun r0 H1 n1 s1 h1 => ?_) (by simp [sizeLine_eq])
    walk_at "go"
    have hm1 : SqL K H1 l (ms.map Cm.mv) ∨ SqT K H1 l (ms.map Cm.mv) := hm.imp (seqL_same s1) (seqT_same s1)
    refine k_loopU hm1 (fun i σ H' => Same H1 H' ∧ ∃ (r : Addr) (t : Option V), σ = [some (.ref p), some (.ref l), some (.ref r), t] ∧ SqT K H' r (Fr.fq (Lw.sum ((ms.take i).map (Cm.value c)))) ∧ Fr.Sz (i * (n + 6) + 2) (Lw.sum ((ms.take i).map (Cm.value c))))
      ⟨Same.refl _, r0, none, rfl, ?_, ?_⟩ (fun i σ H' h => h.1) ?_ ?_
    · show SqT K H1 r0 (Fr.fq 0)
      rw [Cm.fq0]
      exact SqT.of h1
    · show Fr.Sz _ 0
      exact (Cm.sz0 (n := 0)).mono (by omega)
    · rintro i x σ H2 hx ⟨s2, r, t, rfl, hr, sz⟩
      obtain ⟨m, hmi, rfl⟩ := Cm.get_map hx
      have hi := (List.getElem?_eq_some_iff.mp hmi).1
      have z := hsz i (by omega)
      have z1 := hsz (i + 1) (by omega)
      have s02 := s1.trans s2
      walk_at "go"
      refine ⟨p, m, c, n, rfl, hc.same s02, ok, un, by omega, fun r2 H3 s3 hr2 => ?_⟩
      refine ⟨r, r2, _, _, _, n + 5, rfl, seqT_same s3 hr, hr2, sz, Cm.sz_value c ok m, by omega, fun r3 H4 s4 _ hr3 sz3 => ?_⟩
      rw [← Wy.sum_snoc hmi] at hr3 sz3
      exact ⟨s2.trans (s3.trans s4), r3, _, rfl, hr3, sz3.mono (by rw [Nat.add_mul]; omega)⟩
    · rintro σ H2 ⟨s2, r, t, rfl, hr, sz⟩
      rw [List.length_map] at hr sz
      rw [List.take_of_length_le (Nat.le_refl _)] at hr sz
      have z := hsz ms.length (Nat.le_refl _)
      walk_at "go"
      exact kk r H2 (s1.trans s2) hr (sz.mono z)
end
end Lw
namespace Lw
open PySem PySem.Spec PyProof.Rows L2 Gx
section
variable {P : Program} {w : World} {K : PySem.W.Frag} {mg : Str → Option Value} {base : Heap} {f : Addr} {fd : FuncData}
theorem ok__law_is_so (F : FnP K "_law_is_so" "_law_is_so" s__law_is_so f fd) (T : Txt K mg) (c__law_all : Cl P w K mg base 4 "_law_all" ["_law_claim_here", "_law_marks_here"] (sp__law_all K)) : FnOk P w K mg base (L2.CX P w) 5 f fd ["_law_claim_here", "_law_marks_here"] (sp__law_is_so K) := by
  refine F.ok sc__law_is_so (fun vs H Q E h => ?_) (fun cdv A outer s H vs Q E hr h => ?_)
  · obtain ⟨p, l, c, ms, n, rfl, _⟩ := h; rfl
  · refine ⟨_, (pss_cons (ps_set (i := 2) sc__law_is_so.nd rfl (Or.inl rfl) (pcall c__law_all hr (by first | decide | omega) (takes_of rfl rfl rfl rfl) (pa_cons (pv 0) (pa_cons (pv 1) pa_nil)))) (pss_one (ps_ret (pe_cmpR op_gt (pe_op (op_mulK (K := K) rfl) pe_int (pe_ix (ix_K (K := K) rfl) (pv 2) pe_int (fun _ _ => rfl))) (pe_op (op_mulK (K := K) rfl) (pe_callB (callK (K := K) (r := rLenU) rfl call_lenU) (by rfl) T.n_len (by decide +kernel) (pa_cons (pv 1) pa_nil)) (pe_ix (ix_K (K := K) rfl) (pv 2) pe_int (fun _ _ => rfl))) (nomark _))))), ?_⟩
    obtain ⟨p, l, c, ms, n, rfl, hc, ok, un, hn, hm, l2, kk⟩ := h
    walk_at "go"
    refine ⟨p, l, c, ms, n, rfl, hc, ok, un, hn, hm, l2, fun r H1 s1 hr sz => ?_⟩
    have hm1 : SqL K H1 l (ms.map Cm.mv) ∨ SqT K H1 l (ms.map Cm.mv) := hm.imp (seqL_same s1) (seqT_same s1)
    walk_at "go"
    refine k_ixT hr (v := .int _) rfl ?_
    walk_at "go"
    refine k_mulB (m := 3) (n := 3600) (by decide) sz.1 (by decide) ?_
    walk_at "go"
    have ln : ∀ Q' : VK, Q' (.int (ms.map Cm.mv).length) H1 → rLenU K [.ref l] H1 Q' := fun Q' q => by
      rcases hm1 with h | h
      · exact k_lenL q h
      · exact k_lenT q h
    refine ln _ ?_
    rw [List.length_map]
    walk_at "go"
    refine k_ixT hr (v := .int _) rfl ?_
    walk_at "go"
    refine k_mulB (m := 10) (n := 3600) (by show ((ms.length : Int)).natAbs < 1024; omega) sz.den (by decide) ?_
    walk_at "go"
    have := kk H1 s1
    unfold Cm.holds at this
    rw [show decide ((ms.length : Int) * ((Lw.sum (ms.map (Cm.value c))).den : Int) < 2 * (Lw.sum (ms.map (Cm.value c))).num) = decide ((ms.length : Rat) / 2 < Lw.sum (ms.map (Cm.value c))) from decide_eq_decide.mpr Wy.half_lt.symm]
    exact this
end
end Lw
namespace Lw
open PySem PySem.Spec PyProof.Rows L2 Gx
section
variable {P : Program} {w : World} {K : PySem.W.Frag} {mg : Str → Option Value} {base : Heap} {f : Addr} {fd : FuncData}
theorem ok__law_share (F : FnP K "_law_share" "_law_share" s__law_share f fd) (T : Txt K mg) (c__law_lowest : Cl P w K mg base 1 "_law_lowest" ["_law_a", "_law_b"] (sp__law_lowest K)) (c__law_mix : Cl P w K mg base 1 "_law_mix" ["_law_cell", "_law_k"] (sp__law_mix K)) : FnOk P w K mg base (L2.CX P w) 2 f fd ["_law_cell"] (sp__law_share K) := by
  refine F.ok sc__law_share (fun vs H Q E h => ?_) (fun cdv A outer s H vs Q E hr h => ?_)
  · obtain ⟨c, rfl, _⟩ := h; rfl
  · refine ⟨_, (pss_cons (ps_set (i := 1) sc__law_share.nd rfl (Or.inl rfl) (pe_ix (ix_K (K := K) rfl) (pe_lst (pa_cons pe_int (pa_cons pe_int (pa_cons (pe_op (op_addK (K := K) rfl) pe_int (pe_op op_modN (pcall c__law_mix hr (by first | decide | omega) (takes_of rfl rfl rfl rfl) (pa_cons (pv 0) (pa_cons pe_int pa_nil))) pe_int)) pa_nil)))) (pe_op op_modN (pcall c__law_mix hr (by first | decide | omega) (takes_of rfl rfl rfl rfl) (pa_cons (pv 0) (pa_cons pe_int pa_nil))) pe_int) (fun _ _ => rfl))) (pss_one (ps_ret (pcall c__law_lowest hr (by first | decide | omega) (takes_of rfl rfl rfl rfl) (pa_cons (pe_ix (ix_K (K := K) rfl) (pe_lst (pa_cons pe_int (pa_cons (pe_op op_sub (pv 1) pe_int) (pa_cons (pe_op (op_addK (K := K) rfl) pe_int (pe_op op_modN (pcall c__law_mix hr (by first | decide | omega) (takes_of rfl rfl rfl rfl) (pa_cons (pv 0) (pa_cons pe_int pa_nil))) (pe_op op_sub (pv 1) pe_int))) pa_nil)))) (pe_op op_modN (pcall c__law_mix hr (by first | decide | omega) (takes_of rfl rfl rfl rfl) (pa_cons (pv 0) (pa_cons pe_int pa_nil))) pe_int) (fun _ _ => rfl)) (pa_cons (pv 1) pa_nil)))))), ?_⟩
    obtain ⟨c, rfl, kk⟩ := h
    walk_at "go"
    refine ⟨c, 21, rfl, by decide, by decide, fun r r0 r1 => ?_⟩
    walk_at "go"
    refine k_lstx (fun u H1 nu s1 hu => ?_) (by simp [sizeLine_eq])
    walk_at "go"
    refine ⟨c, 20, rfl, by decide, by decide, fun r2 r20 r21 => ?_⟩
    walk_at "go"
    have m0 : 0 ≤ r2 % 3 ∧ r2 % 3 < 3 := by omega
    obtain ⟨b, hb, b2, b100⟩ : ∃ b : Int, atI [V.int 2, .int 3, .int (2 + r % 99)] (r2 % 3) = some (.int b) ∧ 2 ≤ b ∧ b ≤ 100 := by
      have h3 : r2 % 3 = 0 ∨ r2 % 3 = 1 ∨ r2 % 3 = 2 := by omega
      rcases h3 with e | e | e <;> rw [e]
      · exact ⟨2, rfl, by decide, by decide⟩
      · exact ⟨3, rfl, by decide, by decide⟩
      · exact ⟨2 + r % 99, rfl, by omega, by omega⟩
    refine k_ixL (SqL.of hu) hb ?_
    walk_at "go"
    refine ⟨c, 22, rfl, by decide, by decide, fun r3 r30 r31 => ?_⟩
    walk_at "go"
    refine k_lstx (fun w H2 nw s2 hw => ?_) (by simp [sizeLine_eq])
    walk_at "go"
    refine ⟨c, 23, rfl, by decide, by decide, fun r4 r40 r41 => ?_⟩
    walk_at "go"
    obtain ⟨a, ha, a1, ab⟩ : ∃ a : Int, atI [V.int 1, .int (b - 1), .int (1 + r3 % (b - 1))] (r4 % 3) = some (.int a) ∧ 1 ≤ a ∧ a < b := by
      have v0 := Int.emod_nonneg r3 (show b - 1 ≠ 0 by omega)
      have v1 := Int.emod_lt_of_pos r3 (show 0 < b - 1 by omega)
      have h3 : r4 % 3 = 0 ∨ r4 % 3 = 1 ∨ r4 % 3 = 2 := by omega
      rcases h3 with e | e | e <;> rw [e]
      · exact ⟨1, rfl, by decide, by omega⟩
      · exact ⟨b - 1, rfl, by omega, by omega⟩
      · exact ⟨1 + r3 % (b - 1), rfl, by omega, by omega⟩
    refine k_ixL (SqL.of hw) ha ?_
    walk_at "go"
    have hb7 : b.natAbs < 2 ^ 7 := by omega
    refine ⟨a, b, rfl, by omega, okd_den (n := 7) (by omega) hb7 (by decide), fun p H3 s3 np hp => ?_⟩
    have sh := Cm.share_pos a1 ab
    exact kk p _ H3 (s1.trans (s2.trans s3)) hp sh.1 sh.2 (Fr.sz_divInt (by omega) (by omega) hb7)
end
end Lw
namespace Lw
open PySem PySem.Spec PyProof.Rows L2 Gx
section
variable {P : Program} {w : World} {K : PySem.W.Frag} {mg : Str → Option Value} {base : Heap} {f : Addr} {fd : FuncData}
theorem ok__law_claim (F : FnP K "_law_claim" "_law_claim" s__law_claim f fd) (T : Txt K mg) (c__law_share : Cl P w K mg base 2 "_law_share" ["_law_cell"] (sp__law_share K)) (c__law_mix : Cl P w K mg base 1 "_law_mix" ["_law_cell", "_law_k"] (sp__law_mix K)) : FnOk P w K mg base (L2.CX P w) 3 f fd ["_law_cell", "_law_names_here"] (sp__law_claim K) := by
  refine F.ok sc__law_claim (fun vs H Q E h => ?_) (fun cdv A outer s H vs Q E hr h => ?_)
  · obtain ⟨z, l, ns, rfl, _⟩ := h; rfl
  · refine ⟨_, (pss_cons (ps_set (i := 2) sc__law_claim.nd rfl (Or.inl rfl) (pe_ix (ix_K (K := K) rfl) (pe_lst (pa_cons pe_str (pa_cons pe_str (pa_cons pe_str pa_nil)))) (pe_op op_modN (pcall c__law_mix hr (by first | decide | omega) (takes_of rfl rfl rfl rfl) (pa_cons (pv 0) (pa_cons pe_int pa_nil))) pe_int) (fun _ _ => rfl))) (pss_cons (ps_set (i := 3) sc__law_claim.nd rfl (Or.inl rfl) (pe_op op_modN (pcall c__law_mix hr (by first | decide | omega) (takes_of rfl rfl rfl rfl) (pa_cons (pv 0) (pa_cons pe_int pa_nil))) (pe_callB (callK (K := K) (r := rLenU) rfl call_lenU) (by rfl) T.n_len (by decide +kernel) (pa_cons (pv 1) pa_nil)))) (pss_cons (ps_if (pt_cmpR (op_eqK (K := K) rfl hr) (pv 2) pe_str (nomark _)) (pss_one (ps_ret (pe_tup (pa_cons (pv 2) (pa_cons (pe_ix (ix_K (K := K) rfl) (pv 1) (pv 3) (fun _ _ => rfl)) (pa_cons (pe_ix (ix_K (K := K) rfl) (pv 1) (pe_op op_modN (pe_op (op_addK (K := K) rfl) (pe_op (op_addK (K := K) rfl) (pv 3) pe_int) (pe_op op_modN (pcall c__law_mix hr (by first | decide | omega) (takes_of rfl rfl rfl rfl) (pa_cons (pv 0) (pa_cons pe_int pa_nil))) (pe_op op_sub (pe_callB (callK (K := K) (r := rLenU) rfl call_lenU) (by rfl) T.n_len (by decide +kernel) (pa_cons (pv 1) pa_nil)) pe_int))) (pe_callB (callK (K := K) (r := rLenU) rfl call_lenU) (by rfl) T.n_len (by decide +kernel) (pa_cons (pv 1) pa_nil))) (fun _ _ => rfl)) pa_nil)))))) pss_nil) (pss_one (ps_ret (pe_tup (pa_cons (pv 2) (pa_cons (pe_ix (ix_K (K := K) rfl) (pv 1) (pv 3) (fun _ _ => rfl)) (pa_cons (pcall c__law_share hr (by first | decide | omega) (takes_of rfl rfl rfl rfl) (pa_cons (pv 0) pa_nil)) pa_nil))))))))), ?_⟩
    obtain ⟨z, l, ns, rfl, hl, nd, l2, l8, kk⟩ := h
    have hlm : (ns.map V.str).length = ns.length := List.length_map ..
    walk_at "go"
    refine k_lstx (fun u H1 nu s1 hu => ?_) (by simp [sizeLine_eq])
    walk_at "go"
    refine ⟨z, 24, rfl, by decide, by decide, fun r r0 r1 => ?_⟩
    walk_at "go"
    have hl1 := s1 _ _ hl
    obtain ⟨kd, hkd, ek⟩ : ∃ kd : Str, atI [V.str (Str.ofString "beats"), .str (Str.ofString "over"), .str (Str.ofString "under")] (r % 3) = some (.str kd) ∧ (kd = Str.ofString "beats" ∨ kd = Str.ofString "over" ∨ kd = Str.ofString "under") := by
      have h3 : r % 3 = 0 ∨ r % 3 = 1 ∨ r % 3 = 2 := by omega
      rcases h3 with e | e | e <;> rw [e]
      · exact ⟨_, rfl, .inl rfl⟩
      · exact ⟨_, rfl, .inr (.inl rfl)⟩
      · exact ⟨_, rfl, .inr (.inr rfl)⟩
    refine k_ixL (SqL.of hu) hkd ?_
    walk_at "go"
    refine ⟨z, 25, rfl, by decide, by decide, fun r2 r20 r21 => ?_⟩
    walk_at "go"
    refine k_lenL ?_ (SqL.of hl1)
    rw [hlm]
    walk_at "go"
    have f0 := Int.emod_nonneg r2 (show (ns.length : Int) ≠ 0 by omega)
    have f1 := Int.emod_lt_of_pos r2 (show (0 : Int) < ns.length by omega)
    obtain ⟨a, ha, hfa⟩ := Cm.at_map (f := V.str) (xs := ns) f0 f1
    generalize r2 % (ns.length : Int) = fi at f0 f1 hfa ⊢
    refine k_if (fun c => ?_) (fun c => ?_)
    · subst c
      walk_at "go"
      refine k_ixL (SqL.of hl1) hfa ?_
      walk_at "go"
      refine ⟨z, 26, rfl, by decide, by decide, fun r3 r30 r31 => ?_⟩
      walk_at "go"
      refine k_lenL ?_ (SqL.of hl1)
      rw [hlm]
      walk_at "go"
      refine k_lenL ?_ (SqL.of hl1)
      rw [hlm]
      walk_at "go"
      have g0 := Int.emod_nonneg r3 (show ((ns.length : Int) - 1) ≠ 0 by omega)
      have g1 := Int.emod_lt_of_pos r3 (show (0 : Int) < (ns.length : Int) - 1 by omega)
      obtain ⟨o0, o1, o2⟩ := Cm.other_place ⟨f0, f1⟩ ⟨g0, g1⟩
      obtain ⟨b, hb, hfb⟩ := Cm.at_map (f := V.str) (xs := ns) o0 o1
      refine k_ixL (SqL.of hl1) hfb ?_
      walk_at "go"
      refine k_tupx (fun p H2 np s2 hp => ?_) (by simp [sizeLine_eq])
      exact kk p (.beats a b) H2 (s1.trans s2) (SqT.of hp) trivial (Cm.two_apart nd o2.symm f0 o0 hfa hfb) ⟨ha, hb⟩
    · walk_at "go"
      refine k_ixL (SqL.of hl1) hfa ?_
      walk_at "go"
      refine ⟨z, rfl, fun q s H2 s2 hq p0 p1 sz => ?_⟩
      walk_at "go"
      refine k_tupx (fun p H3 np s3 hp => ?_) (by simp [sizeLine_eq])
      have hq3 := seqT_same s3 hq
      rcases ek with e | e | e
      · exact absurd e c
      · subst e
        exact kk p (.over a s) H3 (s1.trans (s2.trans s3)) ⟨q, SqT.of hp, hq3⟩ ⟨p0, p1, sz⟩ trivial ha
      · subst e
        exact kk p (.under a s) H3 (s1.trans (s2.trans s3)) ⟨q, SqT.of hp, hq3⟩ ⟨p0, p1, sz⟩ trivial ha
end
end Lw
namespace Lw
open PySem PySem.Spec PyProof.Rows L2 Gx
section
variable {P : Program} {w : World} {K : PySem.W.Frag} {mg : Str → Option Value} {base : Heap} {f : Addr} {fd : FuncData}
theorem ok__law_made (F : FnP K "_law_made" "_law_made" s__law_made f fd) (T : Txt K mg) (k_Under : KCl P w K mg base 1 "Under" ["self", "name", "share"] (sp_Under___init__ K)) (k_Over : KCl P w K mg base 1 "Over" ["self", "name", "share"] (sp_Over___init__ K)) (k_Beats : KCl P w K mg base 1 "Beats" ["self", "one", "other"] (sp_Beats___init__ K)) : FnOk P w K mg base (L2.CX P w) 3 f fd ["_law_claim_here"] (sp__law_made K) := by
  refine F.ok sc__law_made (fun vs H Q E h => ?_) (fun cdv A outer s H vs Q E hr h => ?_)
  · obtain ⟨p, c, rfl, _⟩ := h; rfl
  · refine ⟨_, (pss_cons (ps_if (pt_cmpR (op_eqK (K := K) rfl hr) (pe_ix (ix_K (K := K) rfl) (pv 0) pe_int (fun _ _ => rfl)) pe_str (nomark _)) (pss_one (ps_ret (pmake rfl k_Beats hr (by first | decide | omega) (pa_cons (pe_ix (ix_K (K := K) rfl) (pv 0) pe_int (fun _ _ => rfl)) (pa_cons (pe_ix (ix_K (K := K) rfl) (pv 0) pe_int (fun _ _ => rfl)) pa_nil))))) pss_nil) (pss_cons (ps_if (pt_cmpR (op_eqK (K := K) rfl hr) (pe_ix (ix_K (K := K) rfl) (pv 0) pe_int (fun _ _ => rfl)) pe_str (nomark _)) (pss_one (ps_ret (pmake rfl k_Over hr (by first | decide | omega) (pa_cons (pe_ix (ix_K (K := K) rfl) (pv 0) pe_int (fun _ _ => rfl)) (pa_cons (pe_ix (ix_K (K := K) rfl) (pv 0) pe_int (fun _ _ => rfl)) pa_nil))))) pss_nil) (pss_one (ps_ret (pmake rfl k_Under hr (by first | decide | omega) (pa_cons (pe_ix (ix_K (K := K) rfl) (pv 0) pe_int (fun _ _ => rfl)) (pa_cons (pe_ix (ix_K (K := K) rfl) (pv 0) pe_int (fun _ _ => rfl)) pa_nil))))))), ?_⟩
    obtain ⟨p, c, rfl, hc, kk⟩ := h
    obtain ⟨xs, hx, e0⟩ := hc.at0
    walk_at "go"
    refine k_ixT hx e0 ?_
    walk_at "go"
    cases c with
    | claim => exact hc.elim
    | beats o t =>
      have hb : SqT K H p [.str (Str.ofString "beats"), .str o, .str t] := hc
      refine k_if (fun _ => ?_) (fun z => absurd rfl z)
      walk_at "go"
      refine k_ixT hb (v := .str o) rfl ?_
      walk_at "go"
      refine k_ixT hb (v := .str t) rfl ?_
      walk_at "go"
      refine k_makex (fun a dx A x xd g i oo => ⟨a, dx, _, _, rfl, i, fun A2 b2 i2 => ⟨rfl, ?_⟩⟩)
      exact kk a A2 (But.same x g b2) x ⟨dx, i2⟩
    | over k s =>
      obtain ⟨q, h3, hq⟩ := hc
      refine k_if (fun z => absurd z (of_decide_eq_false Cm.d_ob)) (fun _ => ?_)
      walk_at "go"
      refine k_ixT hx e0 ?_
      walk_at "go"
      refine k_if (fun _ => ?_) (fun z => absurd rfl z)
      walk_at "go"
      refine k_ixT h3 (v := .str k) rfl ?_
      walk_at "go"
      refine k_ixT h3 (v := .ref q) rfl ?_
      walk_at "go"
      refine k_makex (fun a dx A x xd g i oo => ⟨a, dx, _, _, rfl, i, fun A2 b2 i2 => ⟨rfl, ?_⟩⟩)
      have s := But.same x g b2
      exact kk a A2 s x ⟨dx, q, i2, seqT_same s hq⟩
    | under k s =>
      obtain ⟨q, h3, hq⟩ := hc
      refine k_if (fun z => absurd z (of_decide_eq_false Cm.d_ub)) (fun _ => ?_)
      walk_at "go"
      refine k_ixT hx e0 ?_
      walk_at "go"
      refine k_if (fun z => absurd z (of_decide_eq_false Cm.d_uo)) (fun _ => ?_)
      walk_at "go"
      refine k_ixT h3 (v := .str k) rfl ?_
      walk_at "go"
      refine k_ixT h3 (v := .ref q) rfl ?_
      walk_at "go"
      refine k_makex (fun a dx A x xd g i oo => ⟨a, dx, _, _, rfl, i, fun A2 b2 i2 => ⟨rfl, ?_⟩⟩)
      have s := But.same x g b2
      exact kk a A2 s x ⟨dx, q, i2, seqT_same s hq⟩
end
end Lw
namespace Lw
open PySem PySem.Spec PyProof.Rows L2 Gx
section
variable {P : Program} {w : World} {K : PySem.W.Frag} {mg : Str → Option Value} {base : Heap} {f : Addr} {fd : FuncData}
theorem ok__law_marks (F : FnP K "_law_marks" "_law_marks" s__law_marks f fd) (T : Txt K mg) (c__law_mix : Cl P w K mg base 1 "_law_mix" ["_law_cell", "_law_k"] (sp__law_mix K)) (c__law_at : Cl P w K mg base 1 "_law_at" ["_law_script", "_law_k"] (sp__law_at K)) : FnOk P w K mg base (L2.CX P w) 2 f fd ["_law_script", "_law_start", "_law_many", "_law_pool"] (sp__law_marks K) := by
  refine F.ok sc__law_marks (fun vs H Q E h => ?_) (fun cdv A outer s H vs Q E hr h => ?_)
  · obtain ⟨a, l, ns, st, m, pool, rfl, _⟩ := h; rfl
  · refine ⟨_, (pss_cons (ps_set (i := 4) sc__law_marks.nd rfl (Or.inl rfl) (pe_lst pa_nil)) (pss_cons (ps_for (passes_of rfl) rfl (pi_range1 rfl T.n_range (pa_cons (pv 2) pa_nil)) (pg_name (i := 5) sc__law_marks.nd rfl (Or.inl rfl)) (pss_cons (ps_set (i := 6) sc__law_marks.nd rfl (Or.inl rfl) (pcall c__law_at hr (by first | decide | omega) (takes_of rfl rfl rfl rfl) (pa_cons (pv 0) (pa_cons (pe_op (op_addK (K := K) rfl) (pv 1) (pe_op op_modN (pv 5) (pe_op op_sub pe_int (pv 1)))) pa_nil)))) (pss_one (ps_expr (pe_bmK (K := K) rfl PySem.F.plainAttrs_list PySem.F.slot_list_append PySem.F.type_list_append mt_append (pv 4) (pa_cons (pe_ix (ix_K (K := K) rfl) (pv 3) (pe_op op_modN (pcall c__law_mix hr (by first | decide | omega) (takes_of rfl rfl rfl rfl) (pa_cons (pv 6) (pa_cons (pe_op (op_addK (K := K) rfl) pe_int (pv 5)) pa_nil))) (pe_callB (callK (K := K) (r := rLenU) rfl call_lenU) (by rfl) T.n_len (by decide +kernel) (pa_cons (pv 3) pa_nil))) (fun _ _ => rfl)) pa_nil)))))) (pss_one (ps_ret (pv 4))))), ?_⟩
    obtain ⟨a, l, ns, st, m, pool, rfl, hS, hl, h30, h62, hp, p1, p100, kk⟩ := h
    have hpm : (pool.map Cm.mv).length = pool.length := List.length_map ..
    walk_at "go"
    refine k_lstx (fun q H1 nq s1 hq => ?_) (by rw [sizeLine_eq]; simp)
    walk_at "go"
    refine k_rng1 (by omega) ?_
    rw [show ((m : Int)).toNat = m by omega]
    refine k_loopR (n := m) (fun i σ H' => ∃ (ms : List (Option Str)) (t1 t2 : Option V), σ = [some (.ref a), some (.int (st : Int)), some (.int (m : Int)), some (.ref l), some (.ref q), t1, t2] ∧ But q H1 H' ∧ H' q = some (.lst (ms.map Cm.mv)) ∧ ms.length = i ∧ (∀ x ∈ ms, x ∈ pool))
      ⟨[], none, none, rfl, But.of (Same.refl _), hq, rfl, fun _ h => (nomatch h)⟩ ?_ ?_
    · rintro i σ H2 hi ⟨ms, t1, t2, rfl, b2, hq2, hms, hin⟩
      have s2 : Same H H2 := But.same nq s1 b2
      walk_at "go"
      have m0 := Int.emod_nonneg (i : Int) (show (63 : Int) - (st : Int) ≠ 0 by omega)
      have m1 := Int.emod_lt_of_pos (i : Int) (show (0 : Int) < 63 - (st : Int) by omega)
      refine ⟨a, ns, _, rfl, seqL_same s2 hS, hl, by omega, by omega, fun z H3 s3 => ?_⟩
      walk_at "go"
      have hq3 := s3 _ _ hq2
      refine ⟨k_app0 hq3, ?_⟩
      walk_at "go"
      refine ⟨z, _, rfl, by omega, by omega, fun r r0 r1 => ?_⟩
      walk_at "go"
      have hp3 := s3 _ _ (s2 _ _ hp)
      refine k_lenL ?_ (SqL.of hp3)
      rw [hpm]
      walk_at "go"
      have f0 := Int.emod_nonneg r (show (pool.length : Int) ≠ 0 by omega)
      have f1 := Int.emod_lt_of_pos r (show (0 : Int) < pool.length by omega)
      obtain ⟨mk, hmk, e⟩ := Cm.at_map (f := Cm.mv) (xs := pool) f0 f1
      refine k_ixL (SqL.of hp3) e ?_
      walk_at "go"
      refine k_app1 hq3 (by rw [sizeLine_eq, List.length_map]; omega) (fun H4 b4 hq4 => ?_)
      refine ⟨ms ++ [mk], _, _, rfl, ?_, by rw [hq4, List.map_append]; rfl, by simp [hms], ?_⟩
      · exact (b2.trans (But.of s3)).trans b4
      · intro x hx
        rcases List.mem_append.mp hx with h | h
        · exact hin x h
        · rw [List.mem_singleton.mp h]; exact hmk
    · rintro σ H2 ⟨ms, t1, t2, rfl, b2, hq2, hms, hin⟩
      walk_at "go"
      exact kk q ms H2 (But.same nq s1 b2) nq hq2 hms hin
end
end Lw
namespace Lw
open PySem PySem.Spec PyProof.Rows L2 Gx
section
variable {P : Program} {w : World} {K : PySem.W.Frag} {mg : Str → Option Value} {base : Heap} {f : Addr} {fd : FuncData}
theorem ok__law_helped (F : FnP K "_law_helped" "_law_helped" s__law_helped f fd) (T : Txt K mg) (c__law_is_so : Cl P w K mg base 5 "_law_is_so" ["_law_claim_here", "_law_marks_here"] (sp__law_is_so K)) : FnOk P w K mg base (L2.CX P w) 6 f fd ["_law_claim_here", "_law_marks_here", "_law_names_here"] (sp__law_helped K) := by
  refine F.ok sc__law_helped (fun vs H Q E h => ?_) (fun cdv A outer s H vs Q E hr h => ?_)
  · obtain ⟨p, l, q, c, ms, nms, n, rfl, _⟩ := h; rfl
  · refine ⟨_, (pss_cons (ps_set (i := 3) sc__law_helped.nd rfl (Or.inl rfl) (pe_ix (ix_K (K := K) rfl) (pv 0) pe_int (fun _ _ => rfl))) (C8.pss_cut (ps_if (pt_cmpR (op_eqK (K := K) rfl hr) (pe_ix (ix_K (K := K) rfl) (pv 0) pe_int (fun _ _ => rfl)) pe_str (nomark _)) (pss_one (ps_set (i := 3) sc__law_helped.nd rfl (Or.inl rfl) (pe_ix (ix_K (K := K) rfl) (pe_lc (own := [("_law_name", 5)]) (g := gName 5) (by rfl) sc__law_helped.nd (pi_seqU (pv 2)) (blkOk_by (own := [("_law_name", 5)]) (N := ["_law_claim_here", "_law_marks_here", "_law_names_here", "_law_good", "_law_k", "_law_name"]) (sc := defScope s__law_helped) (by decide +kernel)) (fun _ _ _ _ _ => pg_name (i := 5) sc__law_helped.nd rfl (Or.inl rfl)) (fun _ _ _ _ _ => (pts_one (pt_cmpR (op_neK (K := K) rfl hr) (pv 5) (pe_ix (ix_K (K := K) rfl) (pv 0) pe_int (fun _ _ => rfl)) (nomark _)))) (fun _ _ _ _ _ => (pv 5))) pe_int (fun _ _ => rfl)))) pss_nil) (pss_cons (ps_set (i := 1) sc__law_helped.nd rfl (Or.inl rfl) (pe_callTy (callK (K := K) (r := rLstU) rfl call_lstU) (by rfl) T.n_list (by decide +kernel) (pa_cons (pv 1) pa_nil))) (pss_cons (ps_for (passes_of rfl) rfl (pi_seqU (pe_lst (pa_cons (pe_op (op_addK (K := K) rfl) pe_int (pe_op op_fdivG (pe_callB (callK (K := K) (r := rLenU) rfl call_lenU) (by rfl) T.n_len (by decide +kernel) (pa_cons (pv 1) pa_nil)) pe_int)) (pa_cons (pe_op (op_addK (K := K) rfl) pe_int (pe_op op_fdivG (pe_callB (callK (K := K) (r := rLenU) rfl call_lenU) (by rfl) T.n_len (by decide +kernel) (pa_cons (pv 1) pa_nil)) pe_int)) (pa_cons (pe_callB (callK (K := K) (r := rLenU) rfl call_lenU) (by rfl) T.n_len (by decide +kernel) (pa_cons (pv 1) pa_nil)) pa_nil))))) (pg_name (i := 4) sc__law_helped.nd rfl (Or.inl rfl)) (pss_one (ps_if (pt_not (pt_val (pcall c__law_is_so hr (by first | decide | omega) (takes_of rfl rfl rfl rfl) (pa_cons (pv 0) (pa_cons (pv 1) pa_nil))))) (pss_one (ps_set (i := 1) sc__law_helped.nd rfl (Or.inl rfl) (pe_op (op_addK (K := K) rfl) (pe_op (op_mulK (K := K) rfl) (pe_lst (pa_cons (pv 3) pa_nil)) (pv 4)) (pe_slice (sl_K (K := K) rfl) (pv 1) (po_some (pv 4)) po_none)))) pss_nil))) (pss_one (ps_ret (pv 1))))))), ?_⟩
    obtain ⟨p, l, q, c, ms, nms, n, rfl, hc, ok, un, hn, hl, hq, hof, nd, l2, l8, hnm, m1, m62, kk⟩ := h
    obtain ⟨o, xs, hx, eo1, e0, ono, ho⟩ : ∃ o xs, SqT K H p xs ∧ atI xs 1 = some (.str o) ∧ atI xs 0 = some (.str (Cm.kindOf c)) ∧ o ∈ nms ∧ (Cm.kindOf c ≠ Str.ofString "under" → (1/2 : Rat) < Cm.value c (some o)) := by
      cases c with
      | claim => exact hc.elim
      | beats x t => exact ⟨x, _, hc, rfl, rfl, hof.1, fun _ => Wy.good_beats (hnm x hof.1)⟩
      | over x s => obtain ⟨w, h1, h2⟩ := hc; exact ⟨x, _, h1, rfl, rfl, hof, fun _ => Wy.good_over (hnm x hof) ok.1 ok.2.1⟩
      | under x s => obtain ⟨w, h1, h2⟩ := hc; exact ⟨x, _, h1, rfl, rfl, hof, fun z => absurd rfl z⟩
    walk_at "go"
    refine k_ixT hx eo1 ?_
    walk_at "st"
    refine k_cut (fun σ H' => ∃ g : Str, Same H H' ∧ g ∈ nms ∧ (1/2 : Rat) < Cm.value c (some g) ∧ σ = [some (.ref p), some (.ref l), some (.ref q), some (.str g), none, none]) ?_ ?_
    · walk_at "go"
      refine k_ixT hx e0 ?_
      walk_at "go"
      refine k_if (fun cu => ?_) (fun cu => ?_)
      rotate_left
      · walk_at "go"
        exact ⟨o, Same.refl H, ono, ho cu, rfl⟩
      obtain ⟨k, s, rfl⟩ : ∃ k s, c = .under k s := by
        cases c with
        | claim => exact hc.elim
        | beats x t => exact absurd cu (by show ¬ (Str.ofString "beats" = Str.ofString "under"); decide +kernel)
        | over x s => exact absurd cu (by show ¬ (Str.ofString "over" = Str.ofString "under"); decide +kernel)
        | under x s => exact ⟨x, s, rfl⟩
      obtain ⟨w, h3, hw⟩ := hc
      walk_at "go"
      refine k_lcU (.inl (SqL.of hq)) (fun D i ys H' => ys = ((nms.take i).filter fun x => decide (x ≠ k)).map V.str ∧ Same H H') (fun D H' nD sD hD => ⟨rfl, sD⟩) (fun D i ys H' nD h => h.2) ?_ ?_
      · rintro D i x ys H' nD hxx ⟨rfl, t⟩ hD
        obtain ⟨y, hy, rfl⟩ := Cm.get_map hxx
        have hi := (List.getElem?_eq_some_iff.mp hy).1
        have fl : ((nms.take i).filter fun x => decide (x ≠ k)).length ≤ 8 := Nat.le_trans (List.length_filter_le ..) (by rw [List.length_take]; omega)
        refine k_lcB rfl ?_
        walk_at "go"
        refine k_ixT (seqT_same t h3) (v := .str k) rfl ?_
        walk_at "go"
        refine k_ifn (fun c2 => ?_) (fun c2 => ?_)
        · walk_at "go"
          refine ⟨_, hD, by rw [sizeLine_eq, List.length_map]; omega, _, ⟨?_, But.same nD t But.upd⟩, upd_same⟩
          rw [take_snoc hy, List.filter_append, List.map_append]
          congr 1
          rw [show List.filter (fun x => decide (x ≠ k)) [y] = [y] by simp [c2]]
          rfl
        · refine ⟨_, ⟨?_, t⟩, hD⟩
          rw [take_snoc hy, List.filter_append, show List.filter (fun x => decide (x ≠ k)) [y] = [] by simp [c2], List.append_nil]
      rintro D ys H1 nD ⟨rfl, t1⟩ hD
      rw [List.length_map, List.take_of_length_le (Nat.le_refl _)] at hD
      walk_at "go"
      obtain ⟨g, r, eg⟩ : ∃ g r, (nms.filter fun x => decide (x ≠ k)) = g :: r := by
        cases e : nms.filter fun x => decide (x ≠ k) with
        | cons g r => exact ⟨g, r, rfl⟩
        | nil =>
          exfalso
          have all : ∀ x ∈ nms, x = k := fun x hx => by
            have := List.filter_eq_nil_iff.mp e x hx
            simpa using this
          match nms, nd, l2, all with
          | a :: b :: r, nd, _, all =>
            have h1 := all a (by simp)
            have h2 := all b (by simp)
            simp [h1, h2] at nd
          | [a], _, l2, _ => simp at l2
          | [], _, l2, _ => simp at l2
      have gm : g ∈ nms.filter fun x => decide (x ≠ k) := by rw [eg]; exact List.mem_cons_self ..
      obtain ⟨gn, gk⟩ := List.mem_filter.mp gm
      rw [eg] at hD
      refine k_ixL (SqL.of hD) (v := .str g) (atI_nat (j := 0) rfl) ?_
      walk_at "go"
      exact ⟨g, t1, gn, Wy.good_under (hnm g gn) (of_decide_eq_true gk) ok.1 ok.2.1, rfl⟩
    rintro σ H1 ⟨g, s1, gn, hg, rfl⟩
    walk_at "go"
    refine k_lstL (SqL.of (s1 _ _ hl)) (fun r0 H2 n2 s2 h2 => ?_)
    walk_at "go"
    refine k_lenL ?_ (SqL.of h2)
    rw [List.length_map]
    walk_at "go"
    refine k_lenL ?_ (SqL.of h2)
    rw [List.length_map]
    walk_at "go"
    refine k_lenL ?_ (SqL.of h2)
    rw [List.length_map]
    walk_at "go"
    refine k_lstx (fun u H3 n3 s3 hu => ?_) (by simp [sizeLine_eq])
    walk_at "go"
    refine k_itUL (SqL.of hu) ?_
    refine k_loopL (fun i σ H' => Same H3 H' ∧ ∃ (r : Addr) (rs : List (Option Str)) (t : Option V), σ = [some (.ref p), some (.ref r), some (.ref q), some (.str g), t, none] ∧ H' r = some (.lst (rs.map Cm.mv)) ∧ rs.length = ms.length ∧ (i = 3 → Cm.holds c rs) ∧ (∀ x ∈ rs, x ∈ ms ∨ ∃ g ∈ nms, x = some g)) ⟨Same.refl _, r0, ms, none, rfl, s3 _ _ h2, rfl, (fun z => nomatch z), fun x hx => .inl hx⟩ (fun i σ H' _ h => SqL.of (h.1 _ _ hu)) ?_ ?_
    rotate_left
    · rintro σ H4 ⟨s4, r, rs, t, rfl, hr, hrs, hh, hin⟩
      walk_at "go"
      exact kk r rs H4 (s1.trans (s2.trans (s3.trans s4))) hr hrs (hh rfl) hin
    rintro i x σ H4 hxi ⟨s4, r, rs, t, rfl, hr, hrs, _, hin⟩
    obtain ⟨k, rfl, k0, k1, k3⟩ : ∃ k : Nat, x = .int (k : Int) ∧ 1 ≤ k ∧ k ≤ ms.length ∧ (i + 1 = 3 → k = ms.length) := by
      match i, hxi with
      | 0, e => exact ⟨1 + ms.length / 4, by rw [← Option.some.inj e]; congr 1, by omega, by omega, fun z => by omega⟩
      | 1, e => exact ⟨1 + ms.length / 2, by rw [← Option.some.inj e]; congr 1, by omega, by omega, fun z => by omega⟩
      | 2, e => exact ⟨ms.length, (Option.some.inj e).symm, by omega, by omega, fun _ => rfl⟩
      | n + 3, e => simp at e
    have s04 := s1.trans (s2.trans (s3.trans s4))
    walk_at "go"
    refine ⟨p, r, c, rs, n, rfl, hc.same s04, ok, un, hn, .inl (SqL.of hr), by omega, fun H5 s5 => ?_⟩
    walk_at "go"
    refine k_ifn (fun c1 => ?_) (fun c1 => ?_)
    rotate_left
    · walk_at "go"
      exact ⟨s4.trans s5, r, rs, _, rfl, s5 _ _ hr, hrs, fun _ => c1, hin⟩
    walk_at "go"
    refine k_lstx (fun u1 G1 m1' g1 w1 => ?_) (by simp [sizeLine_eq])
    walk_at "go"
    refine k_mulR w1 (by refine ⟨by omega, by omega, ?_⟩; rw [sizeLine_eq]; show 1 * _ ≤ _; omega) (fun u2 G2 m2 g2 w2 => ?_)
    walk_at "go"
    have hr2 := g2 _ _ (g1 _ _ (s5 _ _ hr))
    refine k_slL (SqL.of hr2) (fun u3 G3 m3 g3 w3 => ?_)
    rw [Ct.from_ (by rw [List.length_map]; omega)] at w3
    have e2 : (List.replicate (k : Int).toNat [V.str g]).flatten = (List.replicate k (some g)).map Cm.mv := by
      rw [Int.toNat_natCast, List.map_replicate, Wy.rep1]
      rfl
    rw [e2] at w2
    refine k_addL (g3 _ _ w2) w3 (fun u4 G4 m4 g4 w4 => ?_) (by rw [sizeLine_eq]; simp; omega)
    rw [← List.map_drop, ← List.map_append] at w4
    refine ⟨s4.trans (s5.trans (g1.trans (g2.trans (g3.trans g4)))), u4, _, _, rfl, w4, by simp; omega, fun z => ?_, fun x hx => ?_⟩
    rotate_left
    · rcases List.mem_append.mp hx with h | h
      · exact .inr ⟨g, gn, List.eq_of_mem_replicate h⟩
      · exact hin x (List.mem_of_mem_drop h)
    have ek := k3 z
    refine Wy.holds_all hg (by simp; omega) (fun m hm => ?_)
    rw [List.drop_of_length_le (by omega), List.append_nil] at hm
    exact List.eq_of_mem_replicate hm
end
end Lw
namespace Lw
open PySem PySem.Spec PyProof.Rows L2 Gx
section
variable {P : Program} {w : World} {K : PySem.W.Frag} {mg : Str → Option Value} {base : Heap} {f : Addr} {fd : FuncData}
theorem ok__law_no_greater (F : FnP K "_law_no_greater" "_law_no_greater" s__law_no_greater f fd) (T : Txt K mg) : FnOk P w K mg base (L2.CX P w) 1 f fd ["_law_one", "_law_other"] (sp__law_no_greater K) := by
  refine F.ok sc__law_no_greater (fun vs H Q E h => ?_) (fun cdv A outer s H vs Q E hr h => ?_)
  · obtain ⟨p, q, x, y, m, n, rfl, _⟩ := h; rfl
  · refine ⟨_, (pss_one (ps_ret (pe_cmpR op_le (pe_op (op_mulK (K := K) rfl) (pe_ix (ix_K (K := K) rfl) (pv 0) pe_int (fun _ _ => rfl)) (pe_ix (ix_K (K := K) rfl) (pv 1) pe_int (fun _ _ => rfl))) (pe_op (op_mulK (K := K) rfl) (pe_ix (ix_K (K := K) rfl) (pv 1) pe_int (fun _ _ => rfl)) (pe_ix (ix_K (K := K) rfl) (pv 0) pe_int (fun _ _ => rfl))) (nomark _)))), ?_⟩
    obtain ⟨p, q, x, y, m, n, rfl, hp, hq, sx, sy, hmn, kk⟩ := h
    walk_at "go"
    refine k_ixT hp (v := .int x.num) rfl ?_
    walk_at "go"
    refine k_ixT hq (v := .int (y.den : Int)) rfl ?_
    walk_at "go"
    refine k_mulB sx.1 sy.den (by omega) ?_
    walk_at "go"
    refine k_ixT hq (v := .int y.num) rfl ?_
    walk_at "go"
    refine k_ixT hp (v := .int (x.den : Int)) rfl ?_
    walk_at "go"
    refine k_mulB sy.1 sx.den (by omega) ?_
    walk_at "go"
    have e : decide (x.num * (y.den : Int) ≤ y.num * (x.den : Int)) = decide (x ≤ y) := by
      by_cases c : x ≤ y
      · rw [decide_eq_true c, decide_eq_true ((Rat.le_iff x y).mp c)]
      · rw [decide_eq_false c, decide_eq_false (fun z => c ((Rat.le_iff x y).mpr z))]
    rw [e]
    exact kk
end
end Lw
namespace Lw
open PySem PySem.Spec PyProof.Rows L2 Gx
section
variable {P : Program} {w : World} {K : PySem.W.Frag} {mg : Str → Option Value} {base : Heap} {f : Addr} {fd : FuncData}
theorem ok_law (F : FnP K "law" "law" s_law f fd) (T : Txt K mg) (m_Comparing_value : MCl P w K mg base 7 "Comparing" "value" ["self", "number", "mark"] (sp_Comparing_value K)) (c__law_value : Cl P w K mg base 3 "_law_value" ["_law_claim_here", "_law_mark"] (sp__law_value K)) (c__law_greatest : Cl P w K mg base 2 "_law_greatest" ["_law_claim_here"] (sp__law_greatest K)) (c__law_no_greater : Cl P w K mg base 1 "_law_no_greater" ["_law_one", "_law_other"] (sp__law_no_greater K)) (c__law_mix : Cl P w K mg base 1 "_law_mix" ["_law_cell", "_law_k"] (sp__law_mix K)) (c__law_at : Cl P w K mg base 1 "_law_at" ["_law_script", "_law_k"] (sp__law_at K)) (m_Comparing_top : MCl P w K mg base 4 "Comparing" "top" ["self"] (sp_Comparing_top K)) (c__law_times : Cl P w K mg base 2 "_law_times" ["_law_x", "_law_y"] (sp__law_times K)) (k_Comparing : KCl P w K mg base 8 "Comparing" ["self", "claim", "marks"] (sp_Comparing___init__ K)) (c__law_made : Cl P w K mg base 3 "_law_made" ["_law_claim_here"] (sp__law_made K)) (c__law_helped : Cl P w K mg base 6 "_law_helped" ["_law_claim_here", "_law_marks_here", "_law_names_here"] (sp__law_helped K)) (c__law_marks : Cl P w K mg base 2 "_law_marks" ["_law_script", "_law_start", "_law_many", "_law_pool"] (sp__law_marks K)) (c__law_claim : Cl P w K mg base 3 "_law_claim" ["_law_cell", "_law_names_here"] (sp__law_claim K)) (c__law_names : Cl P w K mg base 2 "_law_names" ["_law_cell", "_law_many"] (sp__law_names K)) : FnOk P w K mg base CX0 10 f fd ["_law_script"] (sp_law K) := by
  refine F.ok sc_law (fun vs H Q E h => ?_) (fun cdv A outer s H vs Q E hr h => ?_)
  · obtain ⟨a, ns, rfl, _⟩ := h; rfl
  · refine ⟨_, PSs.nox (pss_cons (ps_set (i := 1) sc_law.nd rfl (Or.inl rfl) (pcallN c__law_names hr (by first | decide | omega) (pa_cons (pcallN c__law_at hr (by first | decide | omega) (pa_cons (pv 0) (pa_cons pe_int pa_nil))) (pa_cons (pe_op (op_addK (K := K) rfl) pe_int (pe_op op_modN (pcallN c__law_at hr (by first | decide | omega) (pa_cons (pv 0) (pa_cons pe_int pa_nil))) pe_int)) pa_nil)))) (pss_cons (ps_set (i := 2) sc_law.nd rfl (Or.inl rfl) (pcallN c__law_claim hr (by first | decide | omega) (pa_cons (pcallN c__law_at hr (by first | decide | omega) (pa_cons (pv 0) (pa_cons pe_int pa_nil))) (pa_cons (pv 1) pa_nil)))) (pss_cons (ps_set (i := 3) sc_law.nd rfl (Or.inl rfl) (pe_op (op_addK (K := K) rfl) pe_int (pe_op op_modN (pcallN c__law_at hr (by first | decide | omega) (pa_cons (pv 0) (pa_cons pe_int pa_nil))) pe_int))) (pss_cons (ps_set (i := 4) sc_law.nd rfl (Or.inl rfl) (pe_op (op_addK (K := K) rfl) (pv 1) (pe_lst (pa_cons pe_str (pa_cons pe_non pa_nil))))) (pss_cons (ps_set (i := 5) sc_law.nd rfl (Or.inl rfl) (pcallN c__law_helped hr (by first | decide | omega) (pa_cons (pv 2) (pa_cons (pcallN c__law_marks hr (by first | decide | omega) (pa_cons (pv 0) (pa_cons pe_int (pa_cons (pv 3) (pa_cons (pv 4) pa_nil))))) (pa_cons (pv 1) pa_nil))))) (pss_cons (ps_set (i := 6) sc_law.nd rfl (Or.inl rfl) (pmake rfl k_Comparing hr (by first | decide | omega) (pa_cons (pcallN c__law_made hr (by first | decide | omega) (pa_cons (pv 2) pa_nil)) (pa_cons (pe_callTy (callK (K := K) (r := rTupV) rfl call_tupV) (by rfl) T.n_tuple (by decide +kernel) (pa_cons (pv 5) pa_nil)) pa_nil)))) (pss_cons (ps_set (i := 7) sc_law.nd rfl (Or.inl rfl) (pmethN rfl m_Comparing_value hr (by first | decide | omega) (pv 6) (pa_cons pe_int (pa_cons (pe_ix (ix_K (K := K) rfl) (pv 5) pe_int (fun _ _ => rfl)) pa_nil)))) (pss_cons (ps_if (PW.pt (pw_or (pt_cmpR op_le (pe_op (op_mulK (K := K) rfl) pe_int (pe_ix (ix_K (K := K) rfl) (pv 7) pe_int (fun _ _ => rfl))) (pe_ix (ix_K (K := K) rfl) (pv 7) pe_int (fun _ _ => rfl)) (nomark _)) (pw_or1 (pt_cmpR (op_neK (K := K) rfl hr) (pmethN0 rfl m_Comparing_top hr (by first | decide | omega) (pv 6)) (pcallN c__law_times hr (by first | decide | omega) (pa_cons (pe_tup (pa_cons pe_int (pa_cons pe_int pa_nil))) (pa_cons (pv 7) pa_nil))) (nomark _))))) (pss_one (ps_ret pe_bl)) pss_nil) (pss_cons (ps_set (i := 8) sc_law.nd rfl (Or.inl rfl) pe_dnewK) (pss_cons (ps_for PassesOwn.never rfl (pi_range1 rfl T.n_range (pa_cons (pv 3) pa_nil)) (pg_name (i := 9) sc_law.nd rfl (Or.inl rfl)) (pss_cons (ps_set (i := 10) sc_law.nd rfl (Or.inl rfl) (pe_ix (ix_K (K := K) rfl) (pv 4) (pe_op op_modN (pcallN c__law_mix hr (by first | decide | omega) (pa_cons (pcallN c__law_at hr (by first | decide | omega) (pa_cons (pv 0) (pa_cons (pe_op (op_addK (K := K) rfl) pe_int (pe_op op_modN (pv 9) pe_int)) pa_nil))) (pa_cons (pv 9) pa_nil))) (pe_callB (callK (K := K) (r := rLenU) rfl call_lenU) (by rfl) T.n_len (by decide +kernel) (pa_cons (pv 4) pa_nil))) (fun _ _ => rfl))) (pss_cons (ps_set (i := 11) sc_law.nd rfl (Or.inl rfl) (pmethN rfl m_Comparing_value hr (by first | decide | omega) (pv 6) (pa_cons (pv 9) (pa_cons pe_str pa_nil)))) (pss_cons (ps_if (PW.pt (pw_or (pt_cmpR (op_neK (K := K) rfl hr) (pmethN rfl m_Comparing_value hr (by first | decide | omega) (pv 6) (pa_cons (pv 9) (pa_cons (pe_ix (ix_K (K := K) rfl) (pv 5) (pv 9) (fun _ _ => rfl)) pa_nil))) (pv 7) (nomark _)) (pw_or1 (pt_not (pt_val (pcallN c__law_no_greater hr (by first | decide | omega) (pa_cons (pv 11) (pa_cons (pmethN rfl m_Comparing_value hr (by first | decide | omega) (pv 6) (pa_cons (pv 9) (pa_cons (pv 10) pa_nil))) pa_nil)))))))) (pss_one (ps_ret pe_bl)) pss_nil) (pss_cons (ps_if (PW.pt (pw_and (pt_cmpR (op_eqK (K := K) rfl hr) (pcallN c__law_value hr (by first | decide | omega) (pa_cons (pv 2) (pa_cons (pe_ix (ix_K (K := K) rfl) (pv 5) (pv 9) (fun _ _ => rfl)) pa_nil))) (pcallN c__law_greatest hr (by first | decide | omega) (pa_cons (pv 2) pa_nil)) (nomark _)) (pw_and1 (pt_cmpR (op_neK (K := K) rfl hr) (pv 11) (pe_tup (pa_cons pe_int (pa_cons pe_int pa_nil))) (nomark _))))) (pss_one (ps_ret pe_bl)) pss_nil) (pss_cons (ps_set (i := 12) sc_law.nd rfl (Or.inl rfl) (pmethN rfl m_Comparing_value hr (by first | decide | omega) (pv 6) (pa_cons (pv 9) (pa_cons (pv 10) pa_nil)))) (pss_one (ps_if (pt_cmpR (op_neK (K := K) rfl hr) (Kd.pe_setdK (P := P) (w := w) rfl rfl hr (pv 8) (pe_tup (pa_cons (pe_ix (ix_K (K := K) rfl) (pv 5) (pv 9) (fun _ _ => rfl)) (pa_cons (pv 10) pa_nil))) (pv 12)) (pv 12) (nomark _)) (pss_one (ps_ret pe_bl)) pss_nil)))))))) (pss_one (ps_ret pe_bl)))))))))))), ?_⟩
    obtain ⟨a, ns, rfl, hS, hl, kk⟩ := h
    have hlm : (ns.map V.int).length = ns.length := List.length_map ..
    walk_at "go"
    refine ⟨a, ns, 0, rfl, hS, hl, by decide, by decide, fun z0 H1 s1 => ?_⟩
    walk_at "go"
    refine ⟨a, ns, 1, rfl, seqL_same s1 hS, hl, by decide, by decide, fun z1 H2 s2 => ?_⟩
    walk_at "go"
    have s02 := s1.trans s2
    obtain ⟨m, em⟩ := Int.eq_ofNat_of_zero_le (show 0 ≤ 2 + z1 % 4 by omega)
    have hm : 2 ≤ m ∧ m ≤ 5 := by omega
    rw [em]
    refine ⟨z0, m, rfl, by omega, fun q nms H3 s3 nq hq hlen nd hnm => ?_⟩
    walk_at "go"
    have s03 := s02.trans s3
    refine ⟨a, ns, 2, rfl, seqL_same s03 hS, hl, by decide, by decide, fun z2 H4 s4 => ?_⟩
    walk_at "go"
    refine ⟨z2, q, nms, rfl, s4 _ _ hq, nd, by omega, by omega, fun p c H5 s5 hc ok un hof => ?_⟩
    walk_at "go"
    have s05 := s03.trans (s4.trans s5)
    refine ⟨a, ns, 3, rfl, seqL_same s05 hS, hl, by decide, by decide, fun z3 H6 s6 => ?_⟩
    walk_at "go"
    obtain ⟨k, ek⟩ := Int.eq_ofNat_of_zero_le (show 0 ≤ 1 + z3 % 60 by omega)
    have hk : 1 ≤ k ∧ k ≤ 60 := by omega
    rw [ek]
    refine k_lstx (fun v G1 nv g1 hv => ?_) (by simp [sizeLine_eq])
    have hq1 := g1 _ _ (s6 _ _ (s5 _ _ (s4 _ _ hq)))
    refine k_addL hq1 hv (fun pl G2 npl g2 hpl => ?_) (by simp [sizeLine_eq]; omega)
    walk_at "go"
    have s0B := s05.trans (s6.trans (g1.trans g2))
    have hcB := hc.same (s6.trans (g1.trans g2))
    have hqB := g2 _ _ hq1
    have ep : nms.map V.str ++ [V.str (Str.ofString ""), V.non] = (nms.map some ++ [some (Str.ofString ""), none]).map Cm.mv := by
      rw [List.map_append, ← Cm.strs_mv]; rfl
    rw [ep] at hpl
    have epl : (nms.map some ++ [some (Str.ofString ""), none]).length = m + 2 := by simp [hlen]
    generalize nms.map some ++ [some (Str.ofString ""), none] = pool at hpl epl
    refine ⟨a, pl, ns, 4, k, pool, rfl, seqL_same s0B hS, hl, by decide, by omega, hpl, by omega, by omega, fun pm ms0 G3 g3 nm hpm0 hms0 hin0 => ?_⟩
    walk_at "go"
    refine ⟨p, pm, q, c, ms0, nms, 7, rfl, hcB.same g3, ok, un, by decide, hpm0, g3 _ _ hqB, hof, nd, by omega, by omega, hnm, by omega, by omega, fun pt ms G4 g4 hpt hms hh hin => ?_⟩
    rw [hms0] at hms
    have g34 := g3.trans g4
    have hcD := hcB.same g34
    walk_at "go"
    refine ⟨p, c, rfl, hcD, fun wq G6 g6 nw hw => ?_⟩
    walk_at "go"
    refine k_tupL (SqL.of (g6 _ _ hpt)) (fun tp G5 ntp g5 htp => ?_)
    walk_at "go"
    refine k_makex (fun y dx A na nd2 sA ha oo => ?_)
    refine ⟨y, wq, tp, dx, c, ms, 7, G5, rfl, sA, na, ha, hw.same g5, ok, by decide, SqT.of htp, by omega, by omega, fun z => absurd hh z, fun _ l r ys G7 g7 h7 hl7 fq7 hr7 sz7 => ⟨rfl, ?_⟩⟩
    walk_at "go"
    have hW : Wy.Wa K G7 y c ms := ⟨dx, wq, l, r, ys, h7, hw.same (g5.trans g7), hl7, fq7, hr7, sz7⟩
    have g67 := g6.trans (g5.trans g7)
    have s0E := s0B.trans (g34.trans g67)
    have hcE := hcD.same g67
    have hptE : G7 pt = some (.lst (ms.map Cm.mv)) := g67 _ _ hpt
    have hplE := g67 _ _ (g34 _ _ hpl)
    have m1 : 1 ≤ ms.length := by omega
    have sp0 := Wy.scale_pos ok (ms := ms) m1
    have sn0 := Wy.scale_ne ok (ms := ms) m1
    obtain ⟨t0, ht0⟩ : ∃ t, ms[0]? = some t := ⟨_, List.getElem?_eq_getElem (by omega)⟩
    have hat0 : atI (ms.map Cm.mv) (0 : Int) = some (Cm.mv t0) := atI_nat (j := 0) (by rw [List.getElem?_map, ht0]; rfl)
    walk_at "go"
    refine k_methx h7 (by walk_at "lz") ?_
    walk_at "go"
    refine k_ixL (SqL.of hptE) hat0 ?_
    walk_at "go"
    refine ⟨y, 0, t0, t0, c, ms, 7, rfl, hW, ht0, ok, by decide, fun v1 G8 g8 hv1 => ?_⟩
    rw [Wy.same_cmp] at hv1
    have szo : Fr.Sz 5002 (1 / Wy.scale c ms) := (Cm.sz1 (n := 0)).div sz7
    walk_at "go"
    refine k_ixT hv1 (v := .int (1 / Wy.scale c ms).num) rfl ?_
    walk_at "go"
    refine k_mulB (m := 3) (n := 5002) (by decide) szo.1 (by decide) ?_
    walk_at "go"
    refine k_ixT hv1 (v := .int ((1 / Wy.scale c ms).den : Int)) rfl ?_
    walk_at "go"
    refine k_if (fun z => absurd z (Int.not_le.mpr (Kw.over_half ok hh m1))) (fun _ => ?_)
    walk_at "go"
    refine k_methx (g8 _ _ h7) (by walk_at "lz") ?_
    walk_at "go"
    refine ⟨y, c, ms, 7, rfl, hW.same g8, by omega, ok, fun p1 G9 g9 hp1 => ?_⟩
    walk_at "go"
    refine k_tupx (fun p2 G10 n10 g10 hp2 => ?_) (by simp [sizeLine_eq])
    walk_at "go"
    refine ⟨p2, v1, 2, 1 / Wy.scale c ms, 3, 5002, rfl, by rw [Wy.fq2]; exact SqT.of hp2, seqT_same (g9.trans g10) hv1, Wy.sz2, szo, by decide, fun p3 G11 g11 n11 hp3 _ => ?_⟩
    rw [Kw.two_over] at hp3
    refine k_neD (Fr.dp_fq (seqT_same (g10.trans g11) hp1)) (Fr.dp_fq hp3) ?_ (Fr.shaped_fq _) (Fr.shaped_fq _)
    rw [Fr.eqv_fq, decide_eq_true rfl]
    walk_at "go"
    refine k_dict1 (fun d D0 nd0 d0 hd0 => ?_)
    walk_at "go"
    have g7D := g8.trans (g9.trans (g10.trans (g11.trans d0)))
    refine k_rng1 (by omega) ?_
    rw [show ((k : Int)).toNat = k by omega]
    refine k_loopR (n := k) (fun i σ H' => But d D0 H' ∧ (∃ ys : List Kd.Ent, ys.length ≤ i ∧ Kd.Met P w H' d ys ∧ ∀ e ∈ ys, SqT K H' e.2.2 (Fr.fq (Wy.cmp c ms e.1.1 e.1.2))) ∧ ∃ t1 t2 t3 t4 : Option V, σ = [some (.ref a), some (.ref q), some (.ref p), some (.int (k : Int)), some (.ref pl), some (.ref pt), some (.ref y), some (.ref v1), some (.ref d), t1, t2, t3, t4]) ⟨But.of (Same.refl _), ⟨[], Nat.le_refl _, Kd.Met.new hd0, fun _ z => nomatch z⟩, _, _, _, _, rfl⟩ ?_ ?_
    rotate_left
    · rintro σ E1 ⟨e1, _, t1, t2, t3, t4, rfl⟩
      walk_at "go"
      exact kk E1
    rintro i σ E1 hi ⟨e1, ⟨ys, hys, hmet, hval⟩, t1, t2, t3, t4, rfl⟩
    have s11 := g8.trans (g9.trans (g10.trans g11))
    have s7E : Same G7 E1 := s11.trans (But.same nd0 d0 e1)
    have s0F := s0E.trans s7E
    have hpt1 := s7E _ _ hptE
    have hpl1 := s7E _ _ hplE
    have h1 := s7E _ _ h7
    have hW1 := hW.same s7E
    have hc1 := hcE.same s7E
    have hv1E := seqT_same (g9.trans (g10.trans (g11.trans (But.same nd0 d0 e1)))) hv1
    obtain ⟨t, ht⟩ : ∃ t, ms[i]? = some t := ⟨_, List.getElem?_eq_getElem (by omega)⟩
    have hat : atI (ms.map Cm.mv) (i : Int) = some (Cm.mv t) := atI_nat (by rw [List.getElem?_map, ht]; rfl)
    walk_at "go"
    refine ⟨a, ns, _, rfl, seqL_same s0F hS, hl, by omega, by omega, fun zc E2 e2 => ?_⟩
    walk_at "go"
    refine ⟨zc, _, rfl, by omega, by omega, fun r0 r00 r01 => ?_⟩
    walk_at "go"
    have hpl2 := e2 _ _ hpl1
    refine k_lenL ?_ (SqL.of hpl2)
    rw [List.length_map, epl]
    walk_at "go"
    have f0 := Int.emod_nonneg r0 (show ((m + 2 : Nat) : Int) ≠ 0 by omega)
    have f1 := Int.emod_lt_of_pos r0 (show (0 : Int) < ((m + 2 : Nat) : Int) by omega)
    obtain ⟨mq, _, hmk⟩ := Cm.at_map (f := Cm.mv) (xs := pool) f0 (by rw [epl]; exact f1)
    refine k_ixL (SqL.of hpl2) hmk ?_
    walk_at "go"
    refine k_methx (e2 _ _ h1) (by walk_at "lz") ?_
    walk_at "go"
    refine ⟨y, i, some (Str.ofString "?"), t, c, ms, 7, rfl, hW1.same e2, ht, ok, by decide, fun u1 E3 e3 hu1 => ?_⟩
    have e23 := e2.trans e3
    walk_at "go"
    refine k_methx (e23 _ _ h1) (by walk_at "lz") ?_
    walk_at "go"
    refine k_ixL (SqL.of (e23 _ _ hpt1)) hat ?_
    walk_at "go"
    refine ⟨y, i, t, t, c, ms, 7, rfl, hW1.same e23, ht, ok, by decide, fun u2 E4 e4 hu2 => ?_⟩
    rw [Wy.same_cmp] at hu2
    have e24 := e23.trans e4
    walk_at "go"
    refine k_neD (Fr.dp_fq hu2) (Fr.dp_fq (seqT_same e24 hv1E)) ?_ (Fr.shaped_fq _) (Fr.shaped_fq _)
    rw [Fr.eqv_fq, decide_eq_true rfl]
    walk_at "go"
    refine k_methx (e24 _ _ h1) (by walk_at "lz") ?_
    walk_at "go"
    refine ⟨y, i, mq, t, c, ms, 7, rfl, hW1.same e24, ht, ok, by decide, fun u3 E5 e5 hu3 => ?_⟩
    have e25 := e24.trans e5
    have sq := Kw.sz_cmp ok (ms := ms) sz7
    refine ⟨u1, u3, _, _, 5050, 5050, rfl, seqT_same (e4.trans e5) hu1, hu3, sq _ _, sq _ _, by decide, ?_⟩
    rw [decide_eq_true (Kw.lacks_le ok m1 t mq)]
    walk_at "go"
    refine k_ixL (SqL.of (e25 _ _ hpt1)) hat ?_
    walk_at "go"
    refine ⟨p, t, c, 7, rfl, hc1.same e25, ok, un, by decide, fun u4 E6 e6 hu4 => ?_⟩
    walk_at "go"
    have e26 := e25.trans e6
    refine ⟨p, c, 7, rfl, hc1.same e26, ok, by decide, fun u5 E7 e7 hu5 => ?_⟩
    have e27 := e26.trans e7
    refine k_eqD (Fr.dp_fq (seqT_same e7 hu4)) (Fr.dp_fq hu5) ?_ (Fr.shaped_fq _) (Fr.shaped_fq _)
    rw [Fr.eqv_fq]
    apply joinP (S := fun H' => Same E7 H')
    · intro key
      by_cases ez : Cm.value c t = Cm.greatest c
      · rw [decide_eq_true ez]
        walk_at "go"
        refine k_tupx (fun u6 E8 n8 e8 hu6 => ?_) (by simp [sizeLine_eq])
        rw [Kw.lacks_zero ok ms ez] at hu1
        refine k_neD (Fr.dp_fq (seqT_same (e4.trans (e5.trans (e6.trans (e7.trans e8)))) hu1)) (Fr.dp_fq (q := 0) (by rw [Cm.fq0]; exact SqT.of hu6)) ?_ (Fr.shaped_fq _) (Fr.shaped_fq _)
        rw [Fr.eqv_fq, decide_eq_true rfl]
        walk_at "go"
        exact key _ e8
      · rw [decide_eq_false ez]
        walk_at "go"
        exact key _ (Same.refl _)
    intro E8 e8
    have e28 := e27.trans e8
    walk_at "go"
    refine k_methx (e28 _ _ h1) (by walk_at "lz") ?_
    walk_at "go"
    refine ⟨y, i, mq, t, c, ms, 7, rfl, hW1.same e28, ht, ok, by decide, fun u6 E9 e9 hu6 => ?_⟩
    have e29 := e28.trans e9
    walk_at "go"
    refine Kd.k_setdK ?_
    walk_at "go"
    refine ⟨d, ys, rfl, hmet.same e29, ?_⟩
    walk_at "go"
    refine k_ixL (SqL.of (e29 _ _ hpt1)) hat ?_
    walk_at "go"
    refine k_tupx (fun u7 F1 n1 f1 hu7 => ?_) (by simp [sizeLine_eq])
    walk_at "go"
    have e1F := e29.trans f1
    have hu6F := seqT_same f1 hu6
    refine ⟨u7, u6, (t, mq), ys, rfl, rfl, hu7, hmet.same e1F, by rw [sizeLine_eq]; omega, fun x hx ex => ?_, fun _ F2 b2 hm2 => ?_⟩
    · have hv := seqT_same e1F (hval x hx)
      rw [ex] at hv
      walk_at "go"
      refine k_neD (Fr.dp_fq hv) (Fr.dp_fq hu6F) ?_ (Fr.shaped_fq _) (Fr.shaped_fq _)
      rw [Fr.eqv_fq, decide_eq_true rfl]
      walk_at "go"
      exact ⟨But.trans e1 (But.of e1F), ⟨ys, by omega, hmet.same e1F, fun x hx => seqT_same e1F (hval x hx)⟩, _, _, _, _, rfl⟩
    · have hmF := hmet.same e1F
      walk_at "go"
      refine k_neD (Fr.dp_fq (hmF.seqT b2 hu6F)) (Fr.dp_fq (hmF.seqT b2 hu6F)) ?_ (Fr.shaped_fq _) (Fr.shaped_fq _)
      rw [Fr.eqv_fq, decide_eq_true rfl]
      walk_at "go"
      refine ⟨But.trans e1 (But.trans (But.of e1F) b2), ⟨_, ?_, hm2, fun x hx => ?_⟩, _, _, _, _, rfl⟩
      · rw [List.length_append]; simp; omega
      · rcases List.mem_append.mp hx with h | h
        · exact hmF.seqT b2 (seqT_same e1F (hval x h))
        · rw [List.mem_singleton.mp h]; exact hmF.seqT b2 hu6F
end
end Lw
namespace Lw
open PySem PySem.Spec PyProof.Rows L2 Gx
theorem facts {P : Program} {w : World} {K : PySem.W.Frag} {h : Heap} {mg : Str → Option Value} {f : Addr} (X : K.In h) (G : h.Ns mainGlobals mg) (hfa : mg ("law" : Str) = some (.ref f)) (c : He.SaysD fa fn K) (cx : (exl.all fun f => f K) = true) :
    ∃ fd : FuncData, (∀ (s : Shared) (v : Value), BindsTo s fd ⟨[v], []⟩ [("_law_script", v)]) ∧ ∀ base : Heap, K.In base → base.Ns mainGlobals mg → FnOk P w K mg base CX0 10 f fd ["_law_script"] (sp_law K) := by
  obtain ⟨fd0, F0⟩ := c.def_ 0 (d := d_in_common) rfl
  obtain ⟨fd1, F1⟩ := c.def_ 1 (d := d_lowest) rfl
  obtain ⟨fd2, F2⟩ := c.def_ 2 (d := d_plus) rfl
  obtain ⟨fd3, F3⟩ := c.def_ 3 (d := d_minus) rfl
  obtain ⟨fd4, F4⟩ := c.def_ 4 (d := d_times) rfl
  obtain ⟨fd5, F5⟩ := c.def_ 5 (d := d_over) rfl
  obtain ⟨fd6, F6⟩ := c.def_ 6 (d := d_total) rfl
  obtain ⟨fd7, F7⟩ := c.def_ 7 (d := d_below) rfl
  obtain ⟨fd8, F8⟩ := c.def_ 8 (d := d_Way___init__) rfl
  obtain ⟨fd9, F9⟩ := c.def_ 9 (d := d_Comparing___init__) rfl
  obtain ⟨fd10, F10⟩ := c.def_ 10 (d := d_Comparing_value) rfl
  obtain ⟨fd11, F11⟩ := c.def_ 11 (d := d_Comparing_top) rfl
  obtain ⟨fd12, F12⟩ := c.def_ 12 (d := d_Claim_value) rfl
  obtain ⟨fd13, F13⟩ := c.def_ 13 (d := d_Claim_value_of) rfl
  obtain ⟨fd14, F14⟩ := c.def_ 14 (d := d_Claim_greatest) rfl
  obtain ⟨fd15, F15⟩ := c.def_ 15 (d := d_Claim_holds) rfl
  obtain ⟨fd16, F16⟩ := c.def_ 16 (d := d_Beats___init__) rfl
  obtain ⟨fd17, F17⟩ := c.def_ 17 (d := d_Beats_value_of) rfl
  obtain ⟨fd18, F18⟩ := c.def_ 18 (d := d_Beats_greatest) rfl
  obtain ⟨fd19, F19⟩ := c.def_ 19 (d := d_Over___init__) rfl
  obtain ⟨fd20, F20⟩ := c.def_ 20 (d := d_Over_value_of) rfl
  obtain ⟨fd21, F21⟩ := c.def_ 21 (d := d_Over_greatest) rfl
  obtain ⟨fd22, F22⟩ := c.def_ 22 (d := d_Under___init__) rfl
  obtain ⟨fd23, F23⟩ := c.def_ 23 (d := d_Under_value_of) rfl
  obtain ⟨fd24, F24⟩ := c.def_ 24 (d := d_Under_greatest) rfl
  obtain ⟨fd25, F25⟩ := c.def_ 25 (d := d__law_at) rfl
  obtain ⟨fd26, F26⟩ := c.def_ 26 (d := d__law_mix) rfl
  obtain ⟨fd27, F27⟩ := c.def_ 27 (d := d__law_names) rfl
  obtain ⟨fd28, F28⟩ := c.def_ 28 (d := d__law_lowest) rfl
  obtain ⟨fd29, F29⟩ := c.def_ 29 (d := d__law_plus) rfl
  obtain ⟨fd30, F30⟩ := c.def_ 30 (d := d__law_times) rfl
  obtain ⟨fd31, F31⟩ := c.def_ 31 (d := d__law_greatest) rfl
  obtain ⟨fd32, F32⟩ := c.def_ 32 (d := d__law_value) rfl
  obtain ⟨fd33, F33⟩ := c.def_ 33 (d := d__law_all) rfl
  obtain ⟨fd34, F34⟩ := c.def_ 34 (d := d__law_is_so) rfl
  obtain ⟨fd35, F35⟩ := c.def_ 35 (d := d__law_share) rfl
  obtain ⟨fd36, F36⟩ := c.def_ 36 (d := d__law_claim) rfl
  obtain ⟨fd37, F37⟩ := c.def_ 37 (d := d__law_made) rfl
  obtain ⟨fd38, F38⟩ := c.def_ 38 (d := d__law_marks) rfl
  obtain ⟨fd39, F39⟩ := c.def_ 39 (d := d__law_helped) rfl
  obtain ⟨fd40, F40⟩ := c.def_ 40 (d := d__law_no_greater) rfl
  obtain ⟨fd41, F41⟩ := c.def_ 41 (d := d_law) rfl
  have T : Txt K mg := { n_abs := He.free_ok X G (c.fact 0 rfl), n_len := He.free_ok X G (c.fact 1 rfl), n_list := He.free_ok X G (c.fact 2 rfl), n_max := He.free_ok X G (c.fact 3 rfl), n_range := He.free_ok X G (c.fact 4 rfl), n_tuple := He.free_ok X G (c.fact 5 rfl), c_HALF := ⟨_, He.glo_ok X G (c.fact 6 rfl), rfl⟩, c_NOUGHT_claims := ⟨_, He.glo_ok X G (c.fact 7 rfl), rfl⟩, c_NOUGHT_ways := ⟨_, He.glo_ok X G (c.fact 8 rfl), rfl⟩, c_NoFraction := ⟨_, He.glo_ok X G (c.fact 9 rfl), rfl⟩, c_NoMargin := ⟨_, He.glo_ok X G (c.fact 10 rfl), rfl⟩, c_ONE_claims := ⟨_, He.glo_ok X G (c.fact 11 rfl), rfl⟩, c_ONE_ways := ⟨_, He.glo_ok X G (c.fact 12 rfl), rfl⟩, c_TWO := ⟨_, He.glo_ok X G (c.fact 13 rfl), rfl⟩, cl_Under := He.cls_ok (c.fact 14 rfl), f_Under_name := He.noat_ok (c.fact 15 rfl), f_Under_share := He.noat_ok (c.fact 16 rfl), cl_Over := He.cls_ok (c.fact 17 rfl), f_Over_name := He.noat_ok (c.fact 18 rfl), f_Over_share := He.noat_ok (c.fact 19 rfl), cl_Beats := He.cls_ok (c.fact 20 rfl), f_Beats_one := He.noat_ok (c.fact 21 rfl), f_Beats_other := He.noat_ok (c.fact 22 rfl), cl_Claim := He.cls_ok (c.fact 23 rfl), cl_Way := He.cls_ok (c.fact 24 rfl), f_Way_claim := He.noat_ok (c.fact 25 rfl), cl_Comparing := He.cls_ok (c.fact 26 rfl), f_Comparing_told := He.noat_ok (c.fact 27 rfl), f_Comparing_scale := He.noat_ok (c.fact 28 rfl), f_Comparing_claim := He.noat_ok (c.fact 29 rfl), me_Under_greatest := He.meth_ok (c.fact 30 rfl), me_Over_greatest := He.meth_ok (c.fact 31 rfl), me_Beats_greatest := He.meth_ok (c.fact 32 rfl), me_Claim_greatest := He.meth_ok (c.fact 33 rfl), me_Under_value := (show He.ma K (He.ga K "Under") "value" = He.ma K (He.ga K "Claim") "value" from of_decide_eq_true (xat cx 1 rfl)) ▸ He.meth_ok (c.fact 34 rfl), me_Over_value := (show He.ma K (He.ga K "Over") "value" = He.ma K (He.ga K "Claim") "value" from of_decide_eq_true (xat cx 2 rfl)) ▸ He.meth_ok (c.fact 35 rfl), me_Beats_value := (show He.ma K (He.ga K "Beats") "value" = He.ma K (He.ga K "Claim") "value" from of_decide_eq_true (xat cx 3 rfl)) ▸ He.meth_ok (c.fact 36 rfl), me_Claim_value := He.meth_ok (c.fact 37 rfl), me_Under_holds := (show He.ma K (He.ga K "Under") "holds" = He.ma K (He.ga K "Claim") "holds" from of_decide_eq_true (xat cx 4 rfl)) ▸ He.meth_ok (c.fact 38 rfl), me_Over_holds := (show He.ma K (He.ga K "Over") "holds" = He.ma K (He.ga K "Claim") "holds" from of_decide_eq_true (xat cx 5 rfl)) ▸ He.meth_ok (c.fact 39 rfl), me_Beats_holds := (show He.ma K (He.ga K "Beats") "holds" = He.ma K (He.ga K "Claim") "holds" from of_decide_eq_true (xat cx 6 rfl)) ▸ He.meth_ok (c.fact 40 rfl), me_Claim_holds := He.meth_ok (c.fact 41 rfl), gs_Way___init__ := He.glo_ok X G (c.fact 42 rfl), me_Under_value_of := He.meth_ok (c.fact 43 rfl), me_Over_value_of := He.meth_ok (c.fact 44 rfl), me_Beats_value_of := He.meth_ok (c.fact 45 rfl), me_Claim_value_of := He.meth_ok (c.fact 46 rfl), mk_Under := He.mkr_ok (c.fact 47 rfl), gk_Under := He.glo_ok X G (c.fact 48 rfl), mk_Over := He.mkr_ok (c.fact 49 rfl), gk_Over := He.glo_ok X G (c.fact 50 rfl), mk_Beats := He.mkr_ok (c.fact 51 rfl), gk_Beats := He.glo_ok X G (c.fact 52 rfl), me_Comparing_value := He.meth_ok (c.fact 53 rfl), me_Comparing_top := He.meth_ok (c.fact 54 rfl), mk_Comparing := He.mkr_ok (c.fact 55 rfl), gk_Comparing := He.glo_ok X G (c.fact 56 rfl), g_NoFraction := He.glo_ok X G (c.fact 57 rfl), g_NoMargin := He.glo_ok X G (c.fact 58 rfl), x_NoFraction := He.exc_ok (c.fact 59 rfl), x_NoMargin := He.exc_ok (c.fact 60 rfl), su_Way___init__ := supmB_ok (xat cx 0 rfl), t_HALF := fun H => He.tupB_ok (xat cx 7 rfl) H, t_NOUGHT_claims := fun H => He.tupB_ok (xat cx 8 rfl) H, t_NOUGHT_ways := fun H => He.tupB_ok (xat cx 9 rfl) H, t_ONE_claims := fun H => He.tupB_ok (xat cx 10 rfl) H, t_ONE_ways := fun H => He.tupB_ok (xat cx 11 rfl) H, t_TWO := fun H => He.tupB_ok (xat cx 12 rfl) H }
  have g_in_common := He.glo_ok X G (c.fact 61 (f := .glo "in_common") rfl)
  have g_lowest := He.glo_ok X G (c.fact 62 (f := .glo "lowest") rfl)
  have g_plus := He.glo_ok X G (c.fact 63 (f := .glo "plus") rfl)
  have g_minus := He.glo_ok X G (c.fact 64 (f := .glo "minus") rfl)
  have g_times := He.glo_ok X G (c.fact 65 (f := .glo "times") rfl)
  have g_over := He.glo_ok X G (c.fact 66 (f := .glo "over") rfl)
  have g_total := He.glo_ok X G (c.fact 67 (f := .glo "total") rfl)
  have g_below := He.glo_ok X G (c.fact 68 (f := .glo "below") rfl)
  have g__law_at := He.glo_ok X G (c.fact 69 (f := .glo "_law_at") rfl)
  have g__law_mix := He.glo_ok X G (c.fact 70 (f := .glo "_law_mix") rfl)
  have g__law_names := He.glo_ok X G (c.fact 71 (f := .glo "_law_names") rfl)
  have g__law_lowest := He.glo_ok X G (c.fact 72 (f := .glo "_law_lowest") rfl)
  have g__law_plus := He.glo_ok X G (c.fact 73 (f := .glo "_law_plus") rfl)
  have g__law_times := He.glo_ok X G (c.fact 74 (f := .glo "_law_times") rfl)
  have g__law_greatest := He.glo_ok X G (c.fact 75 (f := .glo "_law_greatest") rfl)
  have g__law_value := He.glo_ok X G (c.fact 76 (f := .glo "_law_value") rfl)
  have g__law_all := He.glo_ok X G (c.fact 77 (f := .glo "_law_all") rfl)
  have g__law_is_so := He.glo_ok X G (c.fact 78 (f := .glo "_law_is_so") rfl)
  have g__law_share := He.glo_ok X G (c.fact 79 (f := .glo "_law_share") rfl)
  have g__law_claim := He.glo_ok X G (c.fact 80 (f := .glo "_law_claim") rfl)
  have g__law_made := He.glo_ok X G (c.fact 81 (f := .glo "_law_made") rfl)
  have g__law_marks := He.glo_ok X G (c.fact 82 (f := .glo "_law_marks") rfl)
  have g__law_helped := He.glo_ok X G (c.fact 83 (f := .glo "_law_helped") rfl)
  have g__law_no_greater := He.glo_ok X G (c.fact 84 (f := .glo "_law_no_greater") rfl)
  have g_law := He.glo_ok X G (c.fact 85 (f := .glo "law") rfl)
  have e := hfa.symm.trans g_law
  cases e
  have b := FunD.bindsA (ps := ["_law_script"]) F41 fun _ _ _ _ _ _ us hl => match us, hl with | [_], _ => rfl
  refine ⟨fd41, fun s v => b s [v] rfl, fun base _ _ => ?_⟩
  have c_in_common : Cl P w K mg base 1 "in_common" ["a", "b"] (sp_in_common K) := ⟨_, fd0, ok_in_common F0 T , g_in_common, F0.kp, F0.bindsN fun _ _ _ _ _ _ us hl => match us, hl with | [_, _], _ => rfl⟩
  have c_below : Cl P w K mg base 1 "below" ["x", "y"] (sp_below K) := ⟨_, fd7, ok_below F7 T , g_below, F7.kp, F7.bindsN fun _ _ _ _ _ _ us hl => match us, hl with | [_, _], _ => rfl⟩
  have O_Way___init__ := ok_Way___init__ (P := P) (w := w) (mg := mg) (base := base) F8 T 
  have s_Way___init__ : SCl P w K mg base 1 "Way" "__init__" ["self", "claim"] (sp_Way___init__ K) := ⟨_, fd8, T.su_Way___init__.1, T.su_Way___init__.2.1, T.su_Way___init__.2.2, O_Way___init__, T.gs_Way___init__, F8.bindsN fun _ _ _ _ _ _ us hl => match us, hl with | [_, _], _ => rfl⟩
  have O_Claim_value_of := ok_Claim_value_of (P := P) (w := w) (mg := mg) (base := base) F13 T 
  have m_Claim_value_of : MCl P w K mg base 1 "Claim" "value_of" ["self", "mark"] (sp_Claim_value_of K) := ⟨_, fd13, T.cl_Claim, T.me_Claim_value_of, O_Claim_value_of, F13.bindsN fun _ _ _ _ _ _ us hl => match us, hl with | [_, _], _ => rfl⟩
  have O_Claim_greatest := ok_Claim_greatest (P := P) (w := w) (mg := mg) (base := base) F14 T 
  have m_Claim_greatest : MCl P w K mg base 1 "Claim" "greatest" ["self"] (sp_Claim_greatest K) := ⟨_, fd14, T.cl_Claim, T.me_Claim_greatest, O_Claim_greatest, F14.bindsN fun _ _ _ _ _ _ us hl => match us, hl with | [_], _ => rfl⟩
  have O_Beats___init__ := ok_Beats___init__ (P := P) (w := w) (mg := mg) (base := base) F16 T 
  have k_Beats : KCl P w K mg base 1 "Beats" ["self", "one", "other"] (sp_Beats___init__ K) := ⟨_, fd16, T.mk_Beats, O_Beats___init__, T.gk_Beats, F16.bindsN fun _ _ _ _ _ _ us hl => match us, hl with | [_, _, _], _ => rfl⟩
  have O_Beats_value_of := ok_Beats_value_of (P := P) (w := w) (mg := mg) (base := base) F17 T 
  have m_Beats_value_of : MCl P w K mg base 1 "Beats" "value_of" ["self", "mark"] (sp_Beats_value_of K) := ⟨_, fd17, T.cl_Beats, T.me_Beats_value_of, O_Beats_value_of, F17.bindsN fun _ _ _ _ _ _ us hl => match us, hl with | [_, _], _ => rfl⟩
  have O_Beats_greatest := ok_Beats_greatest (P := P) (w := w) (mg := mg) (base := base) F18 T 
  have m_Beats_greatest : MCl P w K mg base 1 "Beats" "greatest" ["self"] (sp_Beats_greatest K) := ⟨_, fd18, T.cl_Beats, T.me_Beats_greatest, O_Beats_greatest, F18.bindsN fun _ _ _ _ _ _ us hl => match us, hl with | [_], _ => rfl⟩
  have O_Over___init__ := ok_Over___init__ (P := P) (w := w) (mg := mg) (base := base) F19 T 
  have k_Over : KCl P w K mg base 1 "Over" ["self", "name", "share"] (sp_Over___init__ K) := ⟨_, fd19, T.mk_Over, O_Over___init__, T.gk_Over, F19.bindsN fun _ _ _ _ _ _ us hl => match us, hl with | [_, _, _], _ => rfl⟩
  have O_Under___init__ := ok_Under___init__ (P := P) (w := w) (mg := mg) (base := base) F22 T 
  have k_Under : KCl P w K mg base 1 "Under" ["self", "name", "share"] (sp_Under___init__ K) := ⟨_, fd22, T.mk_Under, O_Under___init__, T.gk_Under, F22.bindsN fun _ _ _ _ _ _ us hl => match us, hl with | [_, _, _], _ => rfl⟩
  have c__law_at : Cl P w K mg base 1 "_law_at" ["_law_script", "_law_k"] (sp__law_at K) := ⟨_, fd25, ok__law_at F25 T , g__law_at, F25.kp, F25.bindsN fun _ _ _ _ _ _ us hl => match us, hl with | [_, _], _ => rfl⟩
  have c__law_mix : Cl P w K mg base 1 "_law_mix" ["_law_cell", "_law_k"] (sp__law_mix K) := ⟨_, fd26, ok__law_mix F26 T , g__law_mix, F26.kp, F26.bindsN fun _ _ _ _ _ _ us hl => match us, hl with | [_, _], _ => rfl⟩
  have c__law_lowest : Cl P w K mg base 1 "_law_lowest" ["_law_a", "_law_b"] (sp__law_lowest K) := ⟨_, fd28, ok__law_lowest F28 T , g__law_lowest, F28.kp, F28.bindsN fun _ _ _ _ _ _ us hl => match us, hl with | [_, _], _ => rfl⟩
  have c__law_no_greater : Cl P w K mg base 1 "_law_no_greater" ["_law_one", "_law_other"] (sp__law_no_greater K) := ⟨_, fd40, ok__law_no_greater F40 T , g__law_no_greater, F40.kp, F40.bindsN fun _ _ _ _ _ _ us hl => match us, hl with | [_, _], _ => rfl⟩
  have c_lowest : Cl P w K mg base 2 "lowest" ["a", "b"] (sp_lowest K) := ⟨_, fd1, ok_lowest F1 T c_in_common, g_lowest, F1.kp, F1.bindsN fun _ _ _ _ _ _ us hl => match us, hl with | [_, _], _ => rfl⟩
  have c__law_names : Cl P w K mg base 2 "_law_names" ["_law_cell", "_law_many"] (sp__law_names K) := ⟨_, fd27, ok__law_names F27 T c__law_mix, g__law_names, F27.kp, F27.bindsN fun _ _ _ _ _ _ us hl => match us, hl with | [_, _], _ => rfl⟩
  have c__law_plus : Cl P w K mg base 2 "_law_plus" ["_law_x", "_law_y"] (sp__law_plus K) := ⟨_, fd29, ok__law_plus F29 T c__law_lowest, g__law_plus, F29.kp, F29.bindsN fun _ _ _ _ _ _ us hl => match us, hl with | [_, _], _ => rfl⟩
  have c__law_times : Cl P w K mg base 2 "_law_times" ["_law_x", "_law_y"] (sp__law_times K) := ⟨_, fd30, ok__law_times F30 T c__law_lowest, g__law_times, F30.kp, F30.bindsN fun _ _ _ _ _ _ us hl => match us, hl with | [_, _], _ => rfl⟩
  have c__law_greatest : Cl P w K mg base 2 "_law_greatest" ["_law_claim_here"] (sp__law_greatest K) := ⟨_, fd31, ok__law_greatest F31 T c__law_lowest, g__law_greatest, F31.kp, F31.bindsN fun _ _ _ _ _ _ us hl => match us, hl with | [_], _ => rfl⟩
  have c__law_share : Cl P w K mg base 2 "_law_share" ["_law_cell"] (sp__law_share K) := ⟨_, fd35, ok__law_share F35 T c__law_lowest c__law_mix, g__law_share, F35.kp, F35.bindsN fun _ _ _ _ _ _ us hl => match us, hl with | [_], _ => rfl⟩
  have c__law_marks : Cl P w K mg base 2 "_law_marks" ["_law_script", "_law_start", "_law_many", "_law_pool"] (sp__law_marks K) := ⟨_, fd38, ok__law_marks F38 T c__law_mix c__law_at, g__law_marks, F38.kp, F38.bindsN fun _ _ _ _ _ _ us hl => match us, hl with | [_, _, _, _], _ => rfl⟩
  have c_plus : Cl P w K mg base 3 "plus" ["x", "y"] (sp_plus K) := ⟨_, fd2, ok_plus F2 T c_lowest, g_plus, F2.kp, F2.bindsN fun _ _ _ _ _ _ us hl => match us, hl with | [_, _], _ => rfl⟩
  have c_minus : Cl P w K mg base 3 "minus" ["x", "y"] (sp_minus K) := ⟨_, fd3, ok_minus F3 T c_lowest, g_minus, F3.kp, F3.bindsN fun _ _ _ _ _ _ us hl => match us, hl with | [_, _], _ => rfl⟩
  have c_times : Cl P w K mg base 3 "times" ["x", "y"] (sp_times K) := ⟨_, fd4, ok_times F4 T c_lowest, g_times, F4.kp, F4.bindsN fun _ _ _ _ _ _ us hl => match us, hl with | [_, _], _ => rfl⟩
  have c_over : Cl P w K mg base 3 "over" ["x", "y"] (sp_over K) := ⟨_, fd5, ok_over F5 T c_lowest, g_over, F5.kp, F5.bindsN fun _ _ _ _ _ _ us hl => match us, hl with | [_, _], _ => rfl⟩
  have c__law_value : Cl P w K mg base 3 "_law_value" ["_law_claim_here", "_law_mark"] (sp__law_value K) := ⟨_, fd32, ok__law_value F32 T c__law_greatest, g__law_value, F32.kp, F32.bindsN fun _ _ _ _ _ _ us hl => match us, hl with | [_, _], _ => rfl⟩
  have c__law_claim : Cl P w K mg base 3 "_law_claim" ["_law_cell", "_law_names_here"] (sp__law_claim K) := ⟨_, fd36, ok__law_claim F36 T c__law_share c__law_mix, g__law_claim, F36.kp, F36.bindsN fun _ _ _ _ _ _ us hl => match us, hl with | [_, _], _ => rfl⟩
  have c__law_made : Cl P w K mg base 3 "_law_made" ["_law_claim_here"] (sp__law_made K) := ⟨_, fd37, ok__law_made F37 T k_Under k_Over k_Beats, g__law_made, F37.kp, F37.bindsN fun _ _ _ _ _ _ us hl => match us, hl with | [_], _ => rfl⟩
  have c_total : Cl P w K mg base 4 "total" ["some"] (sp_total K) := ⟨_, fd6, ok_total F6 T c_plus, g_total, F6.kp, F6.bindsN fun _ _ _ _ _ _ us hl => match us, hl with | [_], _ => rfl⟩
  have O_Comparing_top := ok_Comparing_top (P := P) (w := w) (mg := mg) (base := base) F11 T c_over
  have m_Comparing_top : MCl P w K mg base 4 "Comparing" "top" ["self"] (sp_Comparing_top K) := ⟨_, fd11, T.cl_Comparing, T.me_Comparing_top, O_Comparing_top, F11.bindsN fun _ _ _ _ _ _ us hl => match us, hl with | [_], _ => rfl⟩
  have O_Over_greatest := ok_Over_greatest (P := P) (w := w) (mg := mg) (base := base) F21 T c_over
  have m_Over_greatest : MCl P w K mg base 4 "Over" "greatest" ["self"] (sp_Over_greatest K) := ⟨_, fd21, T.cl_Over, T.me_Over_greatest, O_Over_greatest, F21.bindsN fun _ _ _ _ _ _ us hl => match us, hl with | [_], _ => rfl⟩
  have O_Under_greatest := ok_Under_greatest (P := P) (w := w) (mg := mg) (base := base) F24 T c_over c_minus
  have m_Under_greatest : MCl P w K mg base 4 "Under" "greatest" ["self"] (sp_Under_greatest K) := ⟨_, fd24, T.cl_Under, T.me_Under_greatest, O_Under_greatest, F24.bindsN fun _ _ _ _ _ _ us hl => match us, hl with | [_], _ => rfl⟩
  have c__law_all : Cl P w K mg base 4 "_law_all" ["_law_claim_here", "_law_marks_here"] (sp__law_all K) := ⟨_, fd33, ok__law_all F33 T c__law_plus c__law_value, g__law_all, F33.kp, F33.bindsN fun _ _ _ _ _ _ us hl => match us, hl with | [_, _], _ => rfl⟩
  have O_Over_value_of := ok_Over_value_of (P := P) (w := w) (mg := mg) (base := base) F20 T m_Over_greatest
  have m_Over_value_of : MCl P w K mg base 5 "Over" "value_of" ["self", "mark"] (sp_Over_value_of K) := ⟨_, fd20, T.cl_Over, T.me_Over_value_of, O_Over_value_of, F20.bindsN fun _ _ _ _ _ _ us hl => match us, hl with | [_, _], _ => rfl⟩
  have O_Under_value_of := ok_Under_value_of (P := P) (w := w) (mg := mg) (base := base) F23 T m_Under_greatest
  have m_Under_value_of : MCl P w K mg base 5 "Under" "value_of" ["self", "mark"] (sp_Under_value_of K) := ⟨_, fd23, T.cl_Under, T.me_Under_value_of, O_Under_value_of, F23.bindsN fun _ _ _ _ _ _ us hl => match us, hl with | [_, _], _ => rfl⟩
  have c__law_is_so : Cl P w K mg base 5 "_law_is_so" ["_law_claim_here", "_law_marks_here"] (sp__law_is_so K) := ⟨_, fd34, ok__law_is_so F34 T c__law_all, g__law_is_so, F34.kp, F34.bindsN fun _ _ _ _ _ _ us hl => match us, hl with | [_, _], _ => rfl⟩
  have O_Claim_value := ok_Claim_value (P := P) (w := w) (mg := mg) (base := base) F12 T m_Under_value_of m_Over_value_of m_Beats_value_of m_Claim_value_of
  have m_Under_value : MCl P w K mg base 6 "Under" "value" ["self", "mark"] (sp_Claim_value K) := ⟨_, fd12, T.cl_Under, T.me_Under_value, O_Claim_value, F12.bindsN fun _ _ _ _ _ _ us hl => match us, hl with | [_, _], _ => rfl⟩
  have m_Over_value : MCl P w K mg base 6 "Over" "value" ["self", "mark"] (sp_Claim_value K) := ⟨_, fd12, T.cl_Over, T.me_Over_value, O_Claim_value, F12.bindsN fun _ _ _ _ _ _ us hl => match us, hl with | [_, _], _ => rfl⟩
  have m_Beats_value : MCl P w K mg base 6 "Beats" "value" ["self", "mark"] (sp_Claim_value K) := ⟨_, fd12, T.cl_Beats, T.me_Beats_value, O_Claim_value, F12.bindsN fun _ _ _ _ _ _ us hl => match us, hl with | [_, _], _ => rfl⟩
  have m_Claim_value : MCl P w K mg base 6 "Claim" "value" ["self", "mark"] (sp_Claim_value K) := ⟨_, fd12, T.cl_Claim, T.me_Claim_value, O_Claim_value, F12.bindsN fun _ _ _ _ _ _ us hl => match us, hl with | [_, _], _ => rfl⟩
  have c__law_helped : Cl P w K mg base 6 "_law_helped" ["_law_claim_here", "_law_marks_here", "_law_names_here"] (sp__law_helped K) := ⟨_, fd39, ok__law_helped F39 T c__law_is_so, g__law_helped, F39.kp, F39.bindsN fun _ _ _ _ _ _ us hl => match us, hl with | [_, _, _], _ => rfl⟩
  have O_Comparing_value := ok_Comparing_value (P := P) (w := w) (mg := mg) (base := base) F10 T c_over c_minus m_Under_greatest m_Over_greatest m_Beats_greatest m_Claim_greatest m_Under_value m_Over_value m_Beats_value m_Claim_value
  have m_Comparing_value : MCl P w K mg base 7 "Comparing" "value" ["self", "number", "mark"] (sp_Comparing_value K) := ⟨_, fd10, T.cl_Comparing, T.me_Comparing_value, O_Comparing_value, F10.bindsN fun _ _ _ _ _ _ us hl => match us, hl with | [_, _, _], _ => rfl⟩
  have O_Claim_holds := ok_Claim_holds (P := P) (w := w) (mg := mg) (base := base) F15 T c_below c_total m_Under_value m_Over_value m_Beats_value m_Claim_value c_lowest
  have m_Under_holds : MCl P w K mg base 7 "Under" "holds" ["self", "marks"] (sp_Claim_holds K) := ⟨_, fd15, T.cl_Under, T.me_Under_holds, O_Claim_holds, F15.bindsN fun _ _ _ _ _ _ us hl => match us, hl with | [_, _], _ => rfl⟩
  have m_Over_holds : MCl P w K mg base 7 "Over" "holds" ["self", "marks"] (sp_Claim_holds K) := ⟨_, fd15, T.cl_Over, T.me_Over_holds, O_Claim_holds, F15.bindsN fun _ _ _ _ _ _ us hl => match us, hl with | [_, _], _ => rfl⟩
  have m_Beats_holds : MCl P w K mg base 7 "Beats" "holds" ["self", "marks"] (sp_Claim_holds K) := ⟨_, fd15, T.cl_Beats, T.me_Beats_holds, O_Claim_holds, F15.bindsN fun _ _ _ _ _ _ us hl => match us, hl with | [_, _], _ => rfl⟩
  have m_Claim_holds : MCl P w K mg base 7 "Claim" "holds" ["self", "marks"] (sp_Claim_holds K) := ⟨_, fd15, T.cl_Claim, T.me_Claim_holds, O_Claim_holds, F15.bindsN fun _ _ _ _ _ _ us hl => match us, hl with | [_, _], _ => rfl⟩
  have O_Comparing___init__ := ok_Comparing___init__ (P := P) (w := w) (mg := mg) (base := base) F9 T c_minus c_over m_Under_greatest m_Over_greatest m_Beats_greatest m_Claim_greatest c_times c_total m_Under_value m_Over_value m_Beats_value m_Claim_value m_Under_holds m_Over_holds m_Beats_holds m_Claim_holds s_Way___init__
  have k_Comparing : KCl P w K mg base 8 "Comparing" ["self", "claim", "marks"] (sp_Comparing___init__ K) := ⟨_, fd9, T.mk_Comparing, O_Comparing___init__, T.gk_Comparing, F9.bindsN fun _ _ _ _ _ _ us hl => match us, hl with | [_, _, _], _ => rfl⟩
  exact ok_law F41 T m_Comparing_value c__law_value c__law_greatest c__law_no_greater c__law_mix c__law_at m_Comparing_top c__law_times k_Comparing c__law_made c__law_helped c__law_marks c__law_claim c__law_names
end Lw
open PySem PySem.W PySem.Calls PyProof.Rows
theorem PySem.Challenge.cw_surecount_k43_ballots_as_told_holds : PySem.Challenge.rw_surecount_k43_ballots_as_told.Holds := by
  w_on; o_law
  refine HandSHeadRun.head_any (r := OpenLaw.row PySem.Challenge.rw_surecount_k43_ballots_as_told) (q := view (OpenLaw.row PySem.Challenge.rw_surecount_k43_ballots_as_told).prog [46]) (H := Lw.hk) (ob := Lw.ob) (M := 12000) (loose := Lw.loose) (d := HandSHeadRun.topDef (OpenLaw.row PySem.Challenge.rw_surecount_k43_ballots_as_told).prog 46) (kwd := []) Lw.ob_eq
    (by kernel_rfl) (fun s => by kernel_rfl) Lw.run (by kernel_rfl) (by kernel_rfl) (by kernel_rfl) (by rfl) (by first | assumption | decide +kernel) (by decide +kernel) ⟨rfl, rfl, rfl, rfl, rfl, by decide +kernel⟩ ?hw ?hc
  case hw => w_witness2
  case hc =>
    refine L2.walk_ofE (l := PySem.Challenge.rw_surecount_k43_ballots_as_told) (n := 63) (k := 10) (x := "_law_script") (CX := L2.CX0) rfl (by decide) (by kernel_rfl) ⟨rfl, by decide, by decide⟩ ?F (fun _ _ _ _ z => z)
    case F =>
      intro w mg fa h Y G hmg0
      obtain ⟨K, KX, c⟩ := Y
      have hmg : mg ("law" : PySem.Str) = some (.ref fa) := by
        have e : (HandSHeadRun.topDef (OpenLaw.row PySem.Challenge.rw_surecount_k43_ballots_as_told).prog 46).name = ("law" : PySem.Str) := by kernel_rfl
        rw [← e]
        exact hmg0
      obtain ⟨fd, hb, hF⟩ := Lw.facts (P := (PySem.Challenge.rw_surecount_k43_ballots_as_told).prog) (w := w) KX G hmg c.1 c.2
      exact ⟨K, fd, Lw.sp_law K, KX, hb, fun H a ns hl _ hS => ⟨a, ns, rfl, hS, hl, fun _ => rfl⟩, hF⟩
